import PyProof.Rows.All
import Wide.All
import OpenK.AllK
import Wide.FinOn
import PySem.Challenge.RW_og0015_01
set_option Elab.async false
local macro_rules | `(tactic| walk_at "VK") => `(tactic| first | exact .inl rfl | exact .inr rfl)
local macro_rules | `(tactic| walk_at "MEM") => `(tactic| repeat (first | exact List.Mem.head _ | refine List.Mem.tail _ ?_))
section
open PySem PySem.W PyProof.Rows
namespace Mine
inductive Ex3 {α β γ : Type} (p : α → β → γ → Prop) : Prop
  | mk (a : α) (b : β) (c : γ) (h : p a b c)
inductive Ex4 {α β γ δ : Type} (p : α → β → γ → δ → Prop) : Prop
  | mk (a : α) (b : β) (c : γ) (d : δ) (h : p a b c d)
inductive Ex5 {α β γ δ ε : Type} (p : α → β → γ → δ → ε → Prop) : Prop
  | mk (a : α) (b : β) (c : γ) (d : δ) (e : ε) (h : p a b c d e)
inductive Ex6 {α β γ δ ε ζ : Type} (p : α → β → γ → δ → ε → ζ → Prop) : Prop
  | mk (a : α) (b : β) (c : γ) (d : δ) (e : ε) (f : ζ) (h : p a b c d e f)
inductive Ex7 {α β γ δ ε ζ η : Type} (p : α → β → γ → δ → ε → ζ → η → Prop) : Prop
  | mk (a : α) (b : β) (c : γ) (d : δ) (e : ε) (f : ζ) (g : η) (h : p a b c d e f g)
inductive Ex8 {α β γ δ ε ζ η θ : Type} (p : α → β → γ → δ → ε → ζ → η → θ → Prop) : Prop
  | mk (a : α) (b : β) (c : γ) (d : δ) (e : ε) (f : ζ) (g : η) (i : θ) (h : p a b c d e f g i)
inductive Ex9 {α β γ δ ε ζ η θ ι : Type} (p : α → β → γ → δ → ε → ζ → η → θ → ι → Prop) : Prop
  | mk (a : α) (b : β) (c : γ) (d : δ) (e : ε) (f : ζ) (g : η) (i : θ) (j : ι) (h : p a b c d e f g i j)
inductive Ex10 {α β γ δ ε ζ η θ ι κ : Type} (p : α → β → γ → δ → ε → ζ → η → θ → ι → κ → Prop) : Prop
  | mk (a : α) (b : β) (c : γ) (d : δ) (e : ε) (f : ζ) (g : η) (i : θ) (j : ι) (k : κ) (h : p a b c d e f g i j k)
inductive An4 (a b c d : Prop) : Prop
  | mk (xa : a) (xb : b) (xc : c) (xd : d)
inductive An5 (a b c d e : Prop) : Prop
  | mk (xa : a) (xb : b) (xc : c) (xd : d) (xe : e)
inductive An6 (a b c d e f : Prop) : Prop
  | mk (xa : a) (xb : b) (xc : c) (xd : d) (xe : e) (xf : f)
inductive An7 (a b c d e f g : Prop) : Prop
  | mk (xa : a) (xb : b) (xc : c) (xd : d) (xe : e) (xf : f) (xg : g)
inductive An8 (a b c d e f g h : Prop) : Prop
  | mk (xa : a) (xb : b) (xc : c) (xd : d) (xe : e) (xf : f) (xg : g) (xh : h)
inductive An9 (a b c d e f g h i : Prop) : Prop
  | mk (xa : a) (xb : b) (xc : c) (xd : d) (xe : e) (xf : f) (xg : g) (xh : h) (xi : i)
inductive An10 (a b c d e f g h i j : Prop) : Prop
  | mk (xa : a) (xb : b) (xc : c) (xd : d) (xe : e) (xf : f) (xg : g) (xh : h) (xi : i) (xj : j)
theorem absG {P : Prop} (h : ∀ G : Prop, (P → G) → G) : P := h P id
noncomputable abbrev uP (s : Shared) (h : Heap) (tk : Nat) : Shared := { s with heap := h, toks := tk }
noncomputable abbrev uH (s : Shared) (h : Heap) : Shared := { s with heap := h }
noncomputable abbrev uT (s : Shared) (tk : Nat) : Shared := { s with toks := tk }
noncomputable abbrev uD (s : Shared) (h : Heap) (tk : Nat) (d : PySem.Drawn) : Shared := { s with heap := h, toks := tk, drawn := d }
section
variable {M : Model} {A : Around} {E : Value → Shared → Prop} {s : Shared} {env : Env}
noncomputable abbrev SeqQ (M : Model) (A : Around) (rest : List Stmt) (env : Env) (Q : Flow → Shared → Prop) (E : Value → Shared → Prop) (f : Flow) (s' : Shared) : Prop := match f with | .next => wpAny M A (execs rest env) Q E s' | f => Q f s'
theorem xs {st : Stmt} {rest : List Stmt} {Q : Flow → Shared → Prop} (h : wpAny M A (exec st env) (SeqQ M A rest env Q E) E s) : wpAny M A (execs (st :: rest) env) Q E s := wpAny_execs_cons h
noncomputable abbrev IfQ (M : Model) (A : Around) (body orelse : List Stmt) (env : Env) (Q : Flow → Shared → Prop) (E : Value → Shared → Prop) (b : Bool) (s₂ : Shared) : Prop := if b then wpAny M A (execs body env) Q E s₂ else wpAny M A (execs orelse env) Q E s₂
theorem xif {test : PySem.Expr} {body orelse : List Stmt} {pos : Pos} {Q : Flow → Shared → Prop} (h : wpAny M A (isTrue test env (eval test env)) (IfQ M A body orelse env Q E) E s) : wpAny M A (exec (.If test body orelse pos) env) Q E s := wpAny_If h
end
noncomputable abbrev KH := Addr → Option Obj
noncomputable def KH.le (H H' : KH) : Prop := ∀ a o, H a = some o → H' a = some o
noncomputable def InH (H : KH) (h : Heap) : Prop := ∀ a o, H a = some o → h.get? a = some o
noncomputable def Up (h h' : Heap) : Prop := ∀ a o, h.get? a = some o → h'.get? a = some o
theorem KH.le.refl (H : KH) : H.le H := fun _ _ e => e
theorem KH.le.trans {a b c : KH} (x : a.le b) (y : b.le c) : a.le c := fun _ _ e => y _ _ (x _ _ e)
theorem Up.refl (h : Heap) : Up h h := fun _ _ e => e
theorem Up.trans {a b c : Heap} (x : Up a b) (y : Up b c) : Up a c := fun _ _ e => y _ _ (x _ _ e)
theorem Up.push (h : Heap) (o : Obj) : Up h (h.push o) := fun _ _ e => Heap.get?_push_of_some _ e
theorem InH.up {H : KH} {h h' : Heap} (x : InH H h) (y : Up h h') : InH H h' := fun _ _ e => y _ _ (x _ _ e)
theorem InH.le {H H' : KH} {h : Heap} (x : InH H' h) (y : H.le H') : InH H h := fun _ _ e => x _ _ (y _ _ e)
theorem InH.off {H : KH} {h : Heap} (x : InH H h) {a : Addr} (n : h.get? a = none) : H a = none := by
  cases q : H a with
  | none => rfl
  | some o => rw [x _ _ q] at n; cases n
theorem fresh_of_size {h : Heap} {a : Addr} (l : h.objs.size ≤ a) : h.get? a = none := by
  cases e : h.get? a with
  | none => rfl
  | some o => exact absurd (Heap.lt_size e) (Nat.not_lt.mpr l)
structure Grow (H : KH) (h : Heap) (H' : KH) (h' : Heap) : Prop where
  le : H.le H'
  inn : InH H' h'
  up : Up h h'
  fresh : ∀ a, H' a ≠ none → H a ≠ none ∨ h.get? a = none
theorem Grow.refl {H : KH} {h : Heap} (x : InH H h) : Grow H h H h := ⟨.refl _, x, .refl _, fun _ e => .inl e⟩
theorem Up.none {h h' : Heap} (x : Up h h') {a : Addr} (n : h'.get? a = none) : h.get? a = none := by
  cases q : h.get? a with
  | none => rfl
  | some o => rw [x _ _ q] at n; cases n
theorem Grow.trans {H H' H'' : KH} {h h' h'' : Heap} (x : Grow H h H' h') (y : Grow H' h' H'' h'') : Grow H h H'' h'' :=
  ⟨x.le.trans y.le, y.inn, x.up.trans y.up, fun a e => (y.fresh a e).elim (fun e' => x.fresh a e') fun e' => .inr (x.up.none e')⟩
theorem Grow.up' {H : KH} {h h' : Heap} (x : InH H h) (y : Up h h') : Grow H h H h' := ⟨.refl _, x.up y, y, fun _ e => .inl e⟩
theorem Grow.off {H H' : KH} {h h' : Heap} (x : Grow H h H' h') {a : Addr} {o : Obj} (e : h.get? a = some o) (n : H a = none) : H' a = none := by
  cases q : H' a with
  | none => rfl
  | some o' => rcases x.fresh a (by rw [q]; exact nofun) with k | k
               · exact absurd n k
               · rw [e] at k; cases k
noncomputable def addH (H : KH) (a : Addr) (o : Obj) : KH := fun b => if b = a then some o else H b
theorem addH_self {H : KH} {a : Addr} {o : Obj} : addH H a o a = some o := if_pos rfl
theorem addH_ne {H : KH} {a b : Addr} {o : Obj} (n : b ≠ a) : addH H a o b = H b := if_neg n
theorem addH_le {H : KH} {a : Addr} {o : Obj} (n : H a = none) : H.le (addH H a o) := fun b o' q => by
  unfold addH; split
  · rename_i k; subst k; rw [q] at n; cases n
  · exact q
theorem Grow.add {H : KH} {h h' : Heap} (x : InH H h) {a : Addr} {o : Obj} (y : Up h h') (n : h.get? a = none) (e : h'.get? a = some o) : Grow H h (addH H a o) h' := by
  refine ⟨addH_le (x.off n), fun b o' q => ?_, y, fun b q => ?_⟩
  · unfold addH at q; split at q
    · rename_i k; subst k; cases q; exact e
    · exact y _ _ (x _ _ q)
  · unfold addH at q; split at q
    · rename_i k; subst k; exact .inr n
    · exact .inl q
structure Rd (env : Env) (V : Str → Option Value) (h : Heap) : Prop where
  fn : env.scope.kind = .function
  ns : ∃ m, h.Ns env.locals m ∧ ∀ x v, env.kindOf x = some .local → V x = some v → m x = some v
  cl : ∀ x, env.kindOf x = some .cell → ∃ c v₀, env.cells.lookup x = some c ∧ h.IsCell c v₀ ∧ ∀ v, V x = some v → v₀ = some v
theorem isCell_up {h h' : Heap} {c : Addr} {v : Option Value} (x : h.IsCell c v) (y : Up h h') : h'.IsCell c v := let ⟨o, a, b⟩ := x; ⟨o, y _ _ a, b⟩
theorem Rd.up {env : Env} {V : Str → Option Value} {h h' : Heap} (x : Rd env V h) (y : Up h h') : Rd env V h' :=
  ⟨x.fn, let ⟨m, a, b⟩ := x.ns; ⟨m, a.keeps y, b⟩, fun n k => let ⟨c, v, a, b, r⟩ := x.cl n k; ⟨c, v, a, isCell_up b y, r⟩⟩
structure Rs (H0 H : KH) (env : Env) (V : Str → Option Value) (h : Heap) : Prop where
  rd : Rd env V h
  b0 : H0.le H
  kn : InH H h
  gl : env.globals = mainGlobals ∧ env.builtins = builtinsNs
theorem Rs.grow {H0 H H' : KH} {env : Env} {V : Str → Option Value} {h h' : Heap} (S : Rs H0 H env V h) (G : Grow H h H' h') : Rs H0 H' env V h' := ⟨S.rd.up G.up, S.b0.trans G.le, G.inn, S.gl⟩
theorem Rs.up {H0 H : KH} {env : Env} {V : Str → Option Value} {h h' : Heap} (S : Rs H0 H env V h) (G : Up h h') : Rs H0 H env V h' := ⟨S.rd.up G, S.b0, S.kn.up G, S.gl⟩
section
variable {M : Model} {A : Around} {E : Value → Shared → Prop} {s : Shared} {env : Env} {V : Str → Option Value}
theorem ev_var {H0 H : KH} {x : Str} {pos : Pos} {v : Value} {Q : Value → Shared → Prop} (R : Rs H0 H env V s.heap) (hv : V x = some v) (h : Q v s)
    (hk : env.kindOf x = some .local ∨ env.kindOf x = some .cell) (hd : (x == ("__debug__" : Str)) = false := by decide) : wpAny M A (eval (.Name x pos) env) Q E s := by
  refine wpAny_Name ?_ hd
  rcases hk with k | k
  · obtain ⟨m, a, b⟩ := R.rd.ns
    exact wpAny_loadName_local R.rd.fn k a (b x v k hv) h
  · obtain ⟨c, v0, a, b, r⟩ := R.rd.cl x k
    rw [r v hv] at b
    exact wpAny_loadName_cell R.rd.fn k a b h
end
structure Cx where
  H0 : KH
  Hc : KH
  hI : Heap
  X : List Addr
structure St (c : Cx) (H : KH) (env : Env) (V : Str → Option Value) (ms : List (Addr × Obj)) (h : Heap) : Prop extends Rs c.H0 H env V h where
  le : c.Hc.le H
  upI : ∀ b o, b ∉ c.X → c.hI.get? b = some o → h.get? b = some o
  frI : ∀ a, H a ≠ none → c.Hc a ≠ none ∨ c.hI.get? a = none
  xs : ∀ a ∈ c.X, ∃ o, (a, o) ∈ ms
  offL : H env.locals = none ∧ c.hI.get? env.locals = none
  offC : ∀ x a, env.kindOf x = some .cell → env.cells.lookup x = some a → H a = none ∧ c.hI.get? a = none
  apart : ∀ x y a, env.cells.lookup x = some a → env.cells.lookup y = some a → x = y
  mu : ∀ p ∈ ms, h.get? p.1 = some p.2 ∧ H p.1 = none ∧ (p.1 ∈ c.X ∨ c.hI.get? p.1 = none) ∧ p.1 ≠ env.locals ∧ ∀ x a, env.kindOf x = some .cell → env.cells.lookup x = some a → p.1 ≠ a
  nd : (ms.map (·.1)).Nodup
section
variable {c : Cx} {H H' : KH} {env : Env} {V : Str → Option Value} {ms ms' : List (Addr × Obj)} {h h' : Heap}
theorem St.has (S : St c H env V ms h) {a : Addr} (n : h.get? a = none) : c.hI.get? a = none := by
  cases q : c.hI.get? a with
  | none => rfl
  | some o =>
    by_cases x : a ∈ c.X
    · obtain ⟨o', m⟩ := S.xs a x
      rw [(S.mu _ m).1] at n; cases n
    · rw [S.upI a o x q] at n; cases n
theorem St.grow (S : St c H env V ms h) (G : Grow H h H' h') : St c H' env V ms h' where
  toRs := S.toRs.grow G
  le := S.le.trans G.le
  upI := fun b o x e => G.up _ _ (S.upI b o x e)
  frI := fun a e => (G.fresh a e).elim (S.frI a) fun e' => .inr (S.has e')
  xs := S.xs
  offL := by
    obtain ⟨m, ⟨o, _, _, e, _⟩, _⟩ := S.rd.ns
    exact ⟨G.off e S.offL.1, S.offL.2⟩
  offC := fun x a k l => by
    obtain ⟨a', _, q, ⟨o, e, _⟩, _⟩ := S.rd.cl x k
    rw [l] at q; cases q
    exact ⟨G.off e (S.offC x a k l).1, (S.offC x a k l).2⟩
  apart := S.apart
  mu := fun p hp => let ⟨a, b, c⟩ := S.mu p hp; ⟨G.up _ _ a, G.off a b, c⟩
  nd := S.nd
theorem St.up (S : St c H env V ms h) (U : Up h h') : St c H env V ms h' := S.grow (.up' S.kn U)
theorem St.new (S : St c H env V ms h) {a : Addr} {o : Obj} (U : Up h h') (n : h.get? a = none) (e : h'.get? a = some o) : St c H env V ((a, o) :: ms) h' :=
  let T := S.up U
  { toRs := T.toRs, le := T.le, upI := T.upI, frI := T.frI, xs := fun b hb => let ⟨o', m⟩ := T.xs b hb; ⟨o', .tail _ m⟩, offL := T.offL, offC := T.offC, apart := T.apart
    mu := fun p hp => by
      rcases List.mem_cons.mp hp with rfl | hp
      · refine ⟨e, S.kn.off n, .inr (S.has n), fun q => ?_, fun x a' k l q => ?_⟩
        · obtain ⟨m, ⟨o', _, _, e', _⟩, _⟩ := S.rd.ns
          rw [← q, n] at e'; cases e'
        · obtain ⟨a'', _, r, ⟨o', e', _⟩, _⟩ := S.rd.cl x k
          rw [l] at r; cases r
          rw [← q, n] at e'; cases e'
      · exact T.mu p hp
    nd := by
      rw [List.map_cons, List.nodup_cons]
      refine ⟨fun m => ?_, T.nd⟩
      obtain ⟨p, hp, q⟩ := List.mem_map.mp m
      have := (S.mu p hp).1
      rw [q, n] at this; cases this }
theorem St.perm (S : St c H env V ms h) (p : ms.Perm ms') : St c H env V ms' h :=
  { toRs := S.toRs, le := S.le, upI := S.upI, frI := S.frI, xs := fun a ha => let ⟨o, m⟩ := S.xs a ha; ⟨o, p.mem_iff.mp m⟩, offL := S.offL, offC := S.offC, apart := S.apart
    mu := fun q hq => S.mu q (p.mem_iff.mpr hq), nd := (p.map (·.1)).nodup_iff.mp S.nd }
theorem St.change {a : Addr} {o o' : Obj} (S : St c H env V ((a, o) :: ms) h) (U : ∀ b x, b ≠ a → h.get? b = some x → h'.get? b = some x) (e : h'.get? a = some o') : St c H env V ((a, o') :: ms) h' := by
  obtain ⟨m1, m2, m3, m4, m5⟩ := S.mu _ (.head _)
  have nd := S.nd
  rw [List.map_cons, List.nodup_cons] at nd
  have isL : env.locals ≠ a := fun q => m4 q.symm
  refine { rd := ⟨S.rd.fn, ?_, fun x k => ?_⟩, b0 := S.b0, kn := fun b x q => U b x (fun r => ?_) (S.kn b x q), gl := S.gl, le := S.le, upI := fun b x hb q => ?_, frI := S.frI, xs := fun b hb => ?_, offL := S.offL, offC := S.offC, apart := S.apart, mu := fun p hp => ?_, nd := ?_ }
  · obtain ⟨m, ⟨o1, es, ep, q, r⟩, t⟩ := S.rd.ns
    exact ⟨m, ⟨o1, es, ep, U _ _ isL q, r⟩, t⟩
  · obtain ⟨b, v0, q, ⟨o1, r, t⟩, z⟩ := S.rd.cl x k
    exact ⟨b, v0, q, ⟨o1, U _ _ (fun z => m5 x b k q z.symm) r, t⟩, z⟩
  · have m2' : H a = none := m2
    rw [r, m2'] at q; cases q
  · by_cases r : b = a
    · subst r
      rcases m3 with m3 | m3
      · exact absurd m3 hb
      · have m3' : c.hI.get? b = none := m3
        rw [m3'] at q; cases q
    · exact U _ _ r (S.upI b x hb q)
  · obtain ⟨o1, m⟩ := S.xs b hb
    rcases List.mem_cons.mp m with r | m
    · cases r; exact ⟨o', .head _⟩
    · exact ⟨o1, .tail _ m⟩
  · rcases List.mem_cons.mp hp with rfl | hp
    · exact ⟨e, m2, m3, m4, m5⟩
    · obtain ⟨q1, q2⟩ := S.mu p (.tail _ hp)
      exact ⟨U _ _ (fun r => nd.1 (r ▸ List.mem_map_of_mem (f := (·.1)) hp)) q1, q2⟩
  · rw [List.map_cons, List.nodup_cons]; exact nd
theorem St.freeze {a : Addr} {o : Obj} (S : St c H env V ((a, o) :: ms) h) (hx : a ∉ c.X) : St c (addH H a o) env V ms h := by
  obtain ⟨m1, m2, m3, m4, m5⟩ := S.mu _ (.head _)
  have nd := S.nd
  rw [List.map_cons, List.nodup_cons] at nd
  have m3' : c.hI.get? a = none := m3.elim (fun q => absurd q hx) id
  have lh : H.le (addH H a o) := addH_le m2
  refine { rd := S.rd, b0 := S.b0.trans lh, kn := fun b x q => ?_, gl := S.gl, le := S.le.trans lh, upI := S.upI, frI := fun b q => ?_, xs := fun b hb => ?_, offL := ⟨?_, S.offL.2⟩, offC := fun x b k l => ⟨?_, (S.offC x b k l).2⟩, apart := S.apart, mu := fun p hp => ?_, nd := nd.2 }
  · unfold addH at q; split at q
    · rename_i r; subst r; cases q; exact m1
    · exact S.kn _ _ q
  · unfold addH at q; split at q
    · rename_i r; subst r; exact .inr m3'
    · exact S.frI b q
  · obtain ⟨o1, m⟩ := S.xs b hb
    rcases List.mem_cons.mp m with r | m
    · cases r; exact absurd hb hx
    · exact ⟨o1, m⟩
  · rw [addH_ne (fun q => m4 q.symm)]; exact S.offL.1
  · rw [addH_ne (fun q => m5 x b k l q.symm)]; exact (S.offC x b k l).1
  · obtain ⟨q1, q2, q3⟩ := S.mu p (.tail _ hp)
    exact ⟨q1, (addH_ne (a := a) (b := p.1) fun r => nd.1 (r ▸ List.mem_map_of_mem (f := (·.1)) hp)).trans q2, q3⟩
theorem St.drop {a : Addr} {o : Obj} (S : St c H env V ((a, o) :: ms) h) (hx : a ∉ c.X) : St c H env V ms h := by
  have nd := S.nd
  rw [List.map_cons, List.nodup_cons] at nd
  exact { toRs := S.toRs, le := S.le, upI := S.upI, frI := S.frI, offL := S.offL, offC := S.offC, apart := S.apart, mu := fun p hp => S.mu p (.tail _ hp), nd := nd.2
          xs := fun b hb => by
            obtain ⟨o1, m⟩ := S.xs b hb
            rcases List.mem_cons.mp m with r | m
            · cases r; exact absurd hb hx
            · exact ⟨o1, m⟩ }
theorem St.lose {a : Addr} {o : Obj} (S : St c H env V ((a, o) :: ms) h) (hx : a ∉ c.X) (U : ∀ b x, b ≠ a → h.get? b = some x → h'.get? b = some x) : St c H env V ms h' := by
  obtain ⟨m1, m2, m3, m4, m5⟩ := S.mu _ (.head _)
  have nd := S.nd
  rw [List.map_cons, List.nodup_cons] at nd
  have m3' : c.hI.get? a = none := m3.elim (fun q => absurd q hx) id
  refine { rd := ⟨S.rd.fn, ?_, fun x k => ?_⟩, b0 := S.b0, kn := fun b x q => U b x (fun r => ?_) (S.kn b x q), gl := S.gl, le := S.le, upI := fun b x hb q => U b x (fun r => ?_) (S.upI b x hb q), frI := S.frI, xs := fun b hb => ?_, offL := S.offL, offC := S.offC, apart := S.apart, mu := fun p hp => ?_, nd := nd.2 }
  · obtain ⟨m, ⟨o1, es, ep, q, r⟩, t⟩ := S.rd.ns
    exact ⟨m, ⟨o1, es, ep, U _ _ (fun q => m4 q.symm) q, r⟩, t⟩
  · obtain ⟨b, v0, q, ⟨o1, r, t⟩, z⟩ := S.rd.cl x k
    exact ⟨b, v0, q, ⟨o1, U _ _ (fun z => m5 x b k q z.symm) r, t⟩, z⟩
  · have m2' : H a = none := m2
    rw [r, m2'] at q; cases q
  · rw [r, m3'] at q; cases q
  · obtain ⟨o1, m⟩ := S.xs b hb
    rcases List.mem_cons.mp m with r | m
    · cases r; exact absurd hb hx
    · exact ⟨o1, m⟩
  · obtain ⟨q1, q2⟩ := S.mu p (.tail _ hp)
    exact ⟨U _ _ (fun r => nd.1 (r ▸ List.mem_map_of_mem (f := (·.1)) hp)) q1, q2⟩
theorem St.notX (S : St c H env V ms h) {a : Addr} (n : h.get? a = none) : a ∉ c.X := fun x => by
  obtain ⟨o, m⟩ := S.xs a x
  rw [(S.mu _ m).1] at n; cases n
theorem St.ne {a b : Addr} {o : Obj} (S : St c H env V ((a, o) :: ms) h) (k : H b ≠ none) : a ≠ b := fun q => k (q ▸ (S.mu _ (.head _)).2.1)
structure Post (c : Cx) (H : KH) (h : Heap) : Prop where
  le : c.Hc.le H
  inn : InH H h
  up : ∀ b o, b ∉ c.X → c.hI.get? b = some o → h.get? b = some o
  fresh : ∀ a, H a ≠ none → c.Hc a ≠ none ∨ c.hI.get? a = none
theorem St.post (S : St c H env V ms h) : Post c H h := ⟨S.le, S.kn, S.upI, S.frI⟩
theorem Post.grow {H0 : KH} (P : Post ⟨H0, H, h, []⟩ H' h') : Grow H h H' h' := ⟨P.le, P.inn, fun b o e => P.up b o (by simp) e, P.fresh⟩
end
noncomputable def setV (V : Str → Option Value) (x : Str) (v : Value) : Str → Option Value := fun y => if y = x then some v else V y
theorem St.locally {c : Cx} {H : KH} {env : Env} {V : Str → Option Value} {ms : List (Addr × Obj)} {h h' : Heap} {y : Str} {v : Value} {m : Str → Option Value} (S : St c H env V ms h) (ky : env.kindOf y = some .local)
    (hm : ∀ x v, env.kindOf x = some .local → V x = some v → m x = some v) (hn' : h'.Ns env.locals (fun z => if z = y then some v else m z)) (other : ∀ b o, b ≠ env.locals → h.get? b = some o → h'.get? b = some o) : St c H env (setV V y v) ms h' := by
  obtain ⟨m0, hn, _⟩ := S.rd.ns
  refine { rd := ⟨S.rd.fn, ⟨_, hn', fun z u kz hz => ?_⟩, fun z kz => ?_⟩, b0 := S.b0, kn := fun b o e => other b o (fun q => by rw [q, S.offL.1] at e; cases e) (S.kn b o e), gl := S.gl, le := S.le, upI := fun b o hb e => other b o (fun q => by rw [q, S.offL.2] at e; cases e) (S.upI b o hb e),
           frI := S.frI, xs := S.xs, offL := S.offL, offC := S.offC, apart := S.apart, mu := fun p hp => ?_, nd := S.nd }
  · show (if z = y then some v else m z) = some u
    unfold setV at hz
    split at hz
    · rename_i q; rw [if_pos q]; exact hz
    · rename_i q; rw [if_neg q]; exact hm z u kz hz
  · obtain ⟨a, v0, l, ⟨o, e, d⟩, r⟩ := S.rd.cl z kz
    have hyx : z ≠ y := fun q => by rw [q, ky] at kz; cases kz
    refine ⟨a, v0, l, ⟨o, other a o (fun q => ?_) e, d⟩, fun u hu => ?_⟩
    · subst q
      obtain ⟨o', es, ep, e', d', _⟩ := hn
      rw [e] at e'; cases e'; rw [d] at d'; cases d'
    · unfold setV at hu; rw [if_neg hyx] at hu; exact r u hu
  · obtain ⟨a, b, b', c, d⟩ := S.mu p hp
    exact ⟨other _ _ c a, b, b', c, d⟩
theorem St.addNew {c : Cx} {H : KH} {env : Env} {V V' : Str → Option Value} {ms : List (Addr × Obj)} {h h' : Heap} {a : Addr} {o : Obj} (S : St c H env V ms h) (S' : St c H env V' ms h') (n : h.get? a = none) (e : h'.get? a = some o) : St c H env V' ((a, o) :: ms) h' :=
  { toRs := S'.toRs, le := S'.le, upI := S'.upI, frI := S'.frI, xs := fun b hb => let ⟨o', m⟩ := S'.xs b hb; ⟨o', .tail _ m⟩, offL := S'.offL, offC := S'.offC, apart := S'.apart
    mu := fun p hp => by
      rcases List.mem_cons.mp hp with rfl | hp
      · refine ⟨e, S.kn.off n, .inr (S.has n), fun q => ?_, fun x a' k l q => ?_⟩
        · obtain ⟨m, ⟨o', _, _, e', _⟩, _⟩ := S.rd.ns
          rw [← q, n] at e'; cases e'
        · obtain ⟨a'', _, r, ⟨o', e', _⟩, _⟩ := S.rd.cl x k
          rw [l] at r; cases r
          rw [← q, n] at e'; cases e'
      · exact S'.mu p hp
    nd := by
      rw [List.map_cons, List.nodup_cons]
      refine ⟨fun m => ?_, S'.nd⟩
      obtain ⟨p, hp, q⟩ := List.mem_map.mp m
      have := (S.mu p hp).1
      rw [q, n] at this; cases this }
theorem St.store {M : Model} {A : Around} {E : Value → Shared → Prop} {s : Shared} {c : Cx} {H : KH} {env : Env} {V : Str → Option Value} {ms : List (Addr × Obj)} {x : Str} {v : Value} {Q : Unit → Shared → Prop} (S : St c H env V ms s.heap)
    (hk : env.kindOf x = some .local ∨ env.kindOf x = some .cell)
    (h : ∀ h' tk', St c H env (setV V x v) ms h' → Q () (uP s h' tk')) : wpAny M A (storeName env x v) Q E s := by
  have fn := S.rd.fn
  obtain ⟨m, hn, hm⟩ := S.rd.ns
  rcases hk with k | k
  · refine wpAny_storeName_local k hn (fun h' hn' hs => h h' _ ?_) (by rw [fn]; rfl)
    have other : ∀ b o, b ≠ env.locals → s.heap.get? b = some o → h'.get? b = some o := fun b o hb e => (hs.2 b hb).trans e
    refine { rd := ⟨fn, ⟨_, hn', fun y u ky hy => ?_⟩, fun y ky => ?_⟩, b0 := S.b0, kn := fun b o e => other b o (fun q => by rw [q, S.offL.1] at e; cases e) (S.kn b o e), gl := S.gl, le := S.le, upI := fun b o hb e => other b o (fun q => by rw [q, S.offL.2] at e; cases e) (S.upI b o hb e),
             frI := S.frI, xs := S.xs, offL := S.offL, offC := S.offC, apart := S.apart, mu := fun p hp => ?_, nd := S.nd }
    · show (if y = x then some v else m y) = some u
      unfold setV at hy
      split at hy
      · rename_i q; rw [if_pos q]; exact hy
      · rename_i q; rw [if_neg q]; exact hm y u ky hy
    · obtain ⟨a, v0, l, ⟨o, e, d⟩, r⟩ := S.rd.cl y ky
      have hyx : y ≠ x := fun q => by rw [q, k] at ky; cases ky
      refine ⟨a, v0, l, ⟨o, other a o (fun q => ?_) e, d⟩, fun u hu => ?_⟩
      · subst q
        obtain ⟨o', es, ep, e', d', _⟩ := hn
        rw [e] at e'; cases e'; rw [d] at d'; cases d'
      · unfold setV at hu; rw [if_neg hyx] at hu; exact r u hu
    · obtain ⟨a, b, b', c, d⟩ := S.mu p hp
      exact ⟨other _ _ c a, b, b', c, d⟩
  · obtain ⟨ca, v00, hc, hv, _⟩ := S.rd.cl x k
    refine wpAny_storeName_cell fn k hc hv fun h' hv' hs => h h' s.toks ?_
    have other : ∀ b o, b ≠ ca → s.heap.get? b = some o → h'.get? b = some o := fun b o hb e => (hs.2 b hb).trans e
    have hLc : env.locals ≠ ca := fun q => by
      obtain ⟨o, e, d⟩ := hv
      obtain ⟨o', es, ep, e', d', _⟩ := hn
      rw [q, e] at e'; cases e'; rw [d] at d'; cases d'
    refine { rd := ⟨fn, ⟨m, hn.sameBut hs hLc, fun y u ky hy => ?_⟩, fun y ky => ?_⟩, b0 := S.b0, kn := fun b o e => other b o (fun q => by rw [q, (S.offC x ca k hc).1] at e; cases e) (S.kn b o e), gl := S.gl, le := S.le, upI := fun b o hb e => other b o (fun q => by rw [q, (S.offC x ca k hc).2] at e; cases e) (S.upI b o hb e),
             frI := S.frI, xs := S.xs, offL := S.offL, offC := S.offC, apart := S.apart, mu := fun p hp => ?_, nd := S.nd }
    · have hyx : y ≠ x := fun q => by rw [q, k] at ky; cases ky
      unfold setV at hy; rw [if_neg hyx] at hy; exact hm y u ky hy
    · by_cases hyx : y = x
      · subst hyx
        refine ⟨ca, _, hc, hv', fun u hu => ?_⟩
        unfold setV at hu; rw [if_pos rfl] at hu; exact hu
      · obtain ⟨c', v0, a, ⟨o, e, d⟩, r⟩ := S.rd.cl y ky
        refine ⟨c', v0, a, ⟨o, other c' o (fun q => ?_) e, d⟩, fun u hu => ?_⟩
        · subst q; exact hyx (S.apart y x c' a hc)
        · unfold setV at hu; rw [if_neg hyx] at hu; exact r u hu
    · obtain ⟨a, b, b', c', d⟩ := S.mu p hp
      exact ⟨other _ _ (d x ca k hc) a, b, b', c', d⟩
end Mine
end
section
open PySem PySem.W PyProof.Rows PySem.Calls
namespace Mine
noncomputable def NsH (H : KH) (a : Addr) (m : Str → Option Value) : Prop := Ex3 fun o es ep => H a = some o ∧ o.data = .dict es ep ∧ StrKeys es ∧ ∀ name, nsFind es name = m name
theorem NsH.at {H : KH} {a : Addr} {m : Str → Option Value} {h : Heap} (x : NsH H a m) (k : InH H h) : h.Ns a m := let ⟨o, es, ep, e, r⟩ := x; ⟨o, es, ep, k _ _ e, r⟩
structure Base (K : Frag) (H : KH) : Prop where
  k : ∀ a o, K.lookup a = some o → H a = some o
  g : ∃ mg, NsH H mainGlobals mg
  b : ∃ mb, NsH H builtinsNs mb ∧ ∀ x : Str, x ≠ "__name__" → mb x = bootBuiltins x
  nl : ∃ mc, NsH H cStatics mc ∧ mc "sys.recursionlimit" = none
  sm : ∃ o, H sysModules = some o
theorem Base.le {K : Frag} {H H' : KH} (B : Base K H) (l : H.le H') : Base K H' where
  k := fun a o e => l _ _ (B.k a o e)
  g := let ⟨m, o, es, ep, e, r⟩ := B.g; ⟨m, o, es, ep, l _ _ e, r⟩
  b := let ⟨m, ⟨o, es, ep, e, r⟩, q⟩ := B.b; ⟨m, ⟨o, es, ep, l _ _ e, r⟩, q⟩
  nl := let ⟨m, ⟨o, es, ep, e, r⟩, q⟩ := B.nl; ⟨m, ⟨o, es, ep, l _ _ e, r⟩, q⟩
  sm := let ⟨o, e⟩ := B.sm; ⟨o, l _ _ e⟩
theorem Base.inK {K : Frag} {H : KH} {h : Heap} (B : Base K H) (k : InH H h) : K.In h := fun a o e => k _ _ (B.k a o e)
theorem Base.noLimit {K : Frag} {H : KH} {h : Heap} (B : Base K H) (k : InH H h) : h.NoLimit := let ⟨m, n, q⟩ := B.nl; ⟨m, n.at k, q⟩
theorem Rs.inK {K : Frag} {H0 H : KH} {env : Env} {V : Str → Option Value} {h : Heap} (S : Rs H0 H env V h) (B : Base K H0) : K.In h := (B.le S.b0).inK S.kn
structure Room (A : Around) (n : Nat) : Prop where
  hd : A.handled = none
  dp : A.depth + n ≤ 900
  un : A.units + 20 * n ≤ 9000
theorem Room.depth {A : Around} {n : Nat} (r : Room A n) : A.depth < recursionLimit := by have := r.dp; have e : recursionLimit = 1000 := rfl; lia
theorem Room.units {A : Around} {n : Nat} (r : Room A n) : A.units < cLine := by
  have := r.un
  have e : cLine = 9900 := by rfl
  lia
theorem Room.mono {A : Around} {m n : Nat} (r : Room A n) (h : m ≤ n) : Room A m := ⟨r.hd, by have := r.dp; lia, by have := r.un; lia⟩
theorem Room.mo {A : Around} {m n : Nat} (r : Room A n) (h : m ≤ n := by first | decide | exact Nat.add_le_add_left (by decide) _ | exact Nat.le_add_left_of_le (by decide) | lia) : Room A m := r.mono h
theorem Room.deeper {A : Around} {n : Nat} {env : Env} (r : Room A (n + 1)) : Room (A.deeper env) n := ⟨r.hd, by have := r.dp; show A.depth + 1 + n ≤ _; lia, by have := r.un; show A.units + 3 + 20 * n ≤ _; lia⟩
theorem Room.in1 {A : Around} {n : Nat} (r : Room A (n + 1)) : Room A.in1 n := ⟨r.hd, by have := r.dp; show A.depth + n ≤ _; lia, by have := r.un; show A.units + 1 + 20 * n ≤ _; lia⟩
noncomputable def bindV : List (Str × Value) → (Str → Option Value) → Str → Option Value
  | [], V => V
  | (n, v) :: r, V => bindV r (setV V n v)
theorem bindL_V (k : Str → Option NameKind) : ∀ (binds : List (Str × Value)) (m V : Str → Option Value), (∀ x, k x = some .local → m x = V x) → ∀ x, k x = some .local → bindL k binds m x = bindV binds V x
  | [], _, _, h, x, kx => h x kx
  | (n, v) :: r, m, V, h, x, kx => by
    unfold bindL bindV
    refine bindL_V k r _ _ (fun y ky => ?_) x kx
    unfold setV
    by_cases kn : k n = some .local
    · rw [if_pos kn]
      show (if y = n then some v else m y) = _
      rw [h y ky]
    · rw [if_neg kn, if_neg (fun q => by subst q; exact kn ky)]; exact h y ky
theorem bindC_V (k : Str → Option NameKind) : ∀ (binds : List (Str × Value)) (m V : Str → Option Value), (∀ x, k x = some .cell → m x = V x) → ∀ x, k x = some .cell → bindC k binds m x = bindV binds V x
  | [], _, _, h, x, kx => h x kx
  | (n, v) :: r, m, V, h, x, kx => by
    unfold bindC bindV
    refine bindC_V k r _ _ (fun y ky => ?_) x kx
    unfold setV
    by_cases kn : k n = some .local
    · rw [if_pos kn, if_neg (fun q => by subst q; rw [ky] at kn; cases kn)]; exact h y ky
    · rw [if_neg kn]
      show (if y = n then some v else m y) = _
      rw [h y ky]
section
variable {prog : Program} {w : World} {A : Around} {E : Value → Shared → Prop} {s : Shared} {K : Frag} {H0 H : KH} {env : Env} {V : Str → Option Value} {ms : List (Addr × Obj)}
theorem code_fn {name qual : Str} {params : Arguments} {body : List Stmt} {scope : Scope} {dV kV doc pm cdv ct oc : Value} {an od : Option Addr} {osl : Array (Option Value)} {f : Addr} {args : List Value} {binds : List (Str × Value)} {R : Result → Shared → Prop}
    (B : Base K H0) (l0 : H0.le H) (kn : InH H s.heap) (hms : ∀ p ∈ ms, s.heap.get? p.1 = some p.2 ∧ H p.1 = none) (nd : (ms.map (·.1)).Nodup) (hroom : A.depth < recursionLimit)
    (ho : K.lookup f = some ⟨oc, od, .func (fnOf name qual params body scope dV kV doc pm an cdv ct), osl⟩) (hcd : codeIn K cdv qual = true)
    (hbind : bindArgs (fnOf name qual params body scope dV kV doc pm an cdv ct) ⟨args, []⟩ = pure binds)
    (hkind : (binds.all fun y => scope.names.lookup y.1 == some .local || scope.names.lookup y.1 == some .cell) = true)
    (hco : scope.isCoroutine = false) (hgen : scope.isGenerator = false) (hk : scope.kind = .function)
    (h : ∀ L h₁ tk, St ⟨H0, H, s.heap, ms.map (·.1)⟩ H (envOfC qual scope L f cdv) (bindV binds fun _ => none) ms h₁ →
      wpAny (model prog w) (A.deeper (envOfC qual scope L f cdv)) (execs body (envOfC qual scope L f cdv)) (fun fl s' => R (.ok (.ret (match fl with | .ret v => v | _ => .none))) s') (fun _ _ => False) (uP s h₁ tk)) :
    codeAny (model prog w) A (.call (.ref f) ⟨args, []⟩) R s := by
  have X : K.In s.heap := (B.le l0).inK kn
  have hkinds : ∀ n, ∀ x ∈ binds, scope.names.lookup x.1 = some .local ∨ (scope.names.lookup x.1 = some .cell ∧ ((cellsFrom n scope.names []).lookup x.1).isSome = true) := kindsX hkind
  refine codeAny_call_function hroom (X _ _ ho) rfl hco hgen rfl (codeRec_of X hcd) ?_
  rw [hbind]
  refine wpAny_pure (wpAny_newFunctionEnv_cells hk (hkinds _) fun env' he s' x => ?_)
  subst he
  refine ⟨((B.le l0).noLimit kn).keeps x.toInCall.keep, codeAny_func ?_⟩
  obtain ⟨h₁, tk, rfl, up⟩ := x.done
  have fresh : ∀ a, s.heap.objs.size ≤ a → s.heap.get? a = none := fun a ha => fresh_of_size ha
  have fresh0 : s.heap.get? s.heap.objs.size = none := fresh _ (Nat.le_refl _)
  have ns := x.toInCall.ns
  have S : St ⟨H0, H, s.heap, ms.map (·.1)⟩ H (envOfC qual scope s.heap.objs.size f cdv) (bindV binds fun _ => none) ms h₁ := by
    refine { rd := ⟨hk, ⟨_, ns, fun y u ky hy => (bindL_V _ binds _ _ (fun _ _ => rfl) y ky).trans hy⟩, fun y ky => ?_⟩, b0 := l0, kn := kn.up up, gl := ⟨rfl, rfl⟩, le := .refl _, upI := fun b o _ e => up _ _ e, frI := fun a e => .inl e, xs := fun a ha => ?_, offL := ⟨kn.off fresh0, fresh0⟩,
             offC := fun y c ky hc => ⟨kn.off (fresh _ (Nat.le_of_lt (x.above y c (mem_of_lookup hc)))), fresh _ (Nat.le_of_lt (x.above y c (mem_of_lookup hc)))⟩, apart := fun y z c hy hz => name_of_addr x.apart (mem_of_lookup hy) (mem_of_lookup hz), mu := fun p hp => ?_, nd := nd }
    · have : ((cellsFrom (s.heap.objs.size + 1) scope.names []).lookup y).isSome = true := cellsFrom_some scope.names _ [] (.inl ky)
      obtain ⟨c, hc⟩ := Option.isSome_iff_exists.mp this
      exact ⟨c, _, hc, x.cell y c hc, fun u hu => (bindC_V _ binds _ _ (fun _ _ => rfl) y ky).trans hu⟩
    · obtain ⟨p, hp, rfl⟩ := List.mem_map.mp ha
      exact ⟨p.2, hp⟩
    · obtain ⟨a, b⟩ := hms p hp
      refine ⟨up _ _ a, b, .inl (List.mem_map_of_mem hp), fun q => ?_, fun y c _ hc q => ?_⟩
      · rw [show p.1 = s.heap.objs.size from q, fresh0] at a; cases a
      · rw [q, fresh c (Nat.le_of_lt (x.above y c (mem_of_lookup hc)))] at a; cases a
  exact wpAny_mono (h _ h₁ tk S) (fun _ _ q => q) fun _ _ q => q.elim
theorem call_fn {name qual : Str} {params : Arguments} {body : List Stmt} {scope : Scope} {dV kV doc pm cdv ct oc : Value} {an od : Option Addr} {osl : Array (Option Value)} {f : Addr} {args : List Value} {binds : List (Str × Value)} {Q : Value → Shared → Prop}
    (B : Base K H0) (l0 : H0.le H) (kn : InH H s.heap) (hms : ∀ p ∈ ms, s.heap.get? p.1 = some p.2 ∧ H p.1 = none) (nd : (ms.map (·.1)).Nodup) (hroom : A.depth < recursionLimit)
    (ho : K.lookup f = some ⟨oc, od, .func (fnOf name qual params body scope dV kV doc pm an cdv ct), osl⟩) (hcd : codeIn K cdv qual = true)
    (hbind : bindArgs (fnOf name qual params body scope dV kV doc pm an cdv ct) ⟨args, []⟩ = pure binds)
    (hkind : (binds.all fun y => scope.names.lookup y.1 == some .local || scope.names.lookup y.1 == some .cell) = true)
    (hco : scope.isCoroutine = false) (hgen : scope.isGenerator = false) (hk : scope.kind = .function)
    (h : ∀ L h₁ tk, St ⟨H0, H, s.heap, ms.map (·.1)⟩ H (envOfC qual scope L f cdv) (bindV binds fun _ => none) ms h₁ →
      wpAny (model prog w) (A.deeper (envOfC qual scope L f cdv)) (execs body (envOfC qual scope L f cdv)) (fun fl s' => Q (match fl with | .ret v => v | _ => .none) s') (fun _ _ => False) (uP s h₁ tk)) :
    wpAny (model prog w) A (call (.ref f) args) Q E s :=
  wpAny_call (code_fn B l0 kn hms nd hroom ho hcd hbind hkind hco hgen hk h)
theorem ev_glob {x : Str} {pos : Pos} {v : Value} {Q : Value → Shared → Prop} (B : Base K H0) (S : Rs H0 H env V s.heap) (e : nsIn K mainGlobals x = some (some v)) (h : Q v s) (hx : env.kindOf x = some .globalImplicit)
    (hd : (x == ("__debug__" : Str)) = false := by decide) : wpAny (model prog w) A (eval (.Name x pos) env) Q E s := by
  obtain ⟨mg, g⟩ := (B.le S.b0).g
  exact Name_function_global S.rd.fn hx (loadGlobal_global (env := env) (S.gl.1 ▸ g.at S.kn) (mg_of (S.inK B) (g.at S.kn) e) h) hd
theorem ev_blt {x : Str} {pos : Pos} {v : Value} {Q : Value → Shared → Prop} (B : Base K H0) (S : Rs H0 H env V s.heap) (e : nsIn K mainGlobals x = some none) (hv : bootBuiltins x = some v) (h : Q v s) (hx : env.kindOf x = some .globalImplicit)
    (hn : x ≠ "__name__" := by decide) (hd : (x == ("__debug__" : Str)) = false := by decide) : wpAny (model prog w) A (eval (.Name x pos) env) Q E s := by
  obtain ⟨mg, g⟩ := (B.le S.b0).g
  obtain ⟨mb, b, hb⟩ := (B.le S.b0).b
  exact Name_function_global S.rd.fn hx (loadGlobal_builtin (env := env) (S.gl.1 ▸ g.at S.kn) (mg_none_of (S.inK B) (g.at S.kn) e) (S.gl.2 ▸ b.at S.kn) ((hb x hn).trans hv) h) hd
theorem ev_callK {x : Str} {p pos : Pos} {a : PySem.Expr} {rest : List PySem.Expr} {f : Addr} {Q : Value → Shared → Prop} (B : Base K H0) (S : Rs H0 H env V s.heap) (e : nsIn K mainGlobals x = some (some (.ref f))) (hx : env.kindOf x = some .globalImplicit) (hk : keepIn K (.ref f) = true)
    (h : wpAny (model prog w) A (spliced (backTo pos (starEach (a :: rest) env))) (fun vs s₁ => K.In s₁.heap ∧ wpAny (model prog w) A (call (.ref f) vs) Q E s₁) E s)
    (he : starEach (a :: rest) env = (false, eval a env) :: starEach rest env := by rfl) (hplain : (backTo pos (starEach rest env)).any (·.1) = false := by rfl) (hd : (x == ("__debug__" : Str)) = false := by decide) :
    wpAny (model prog w) A (eval (.Call (.Name x p) (a :: rest) [] pos) env) Q E s :=
  Call_Name rfl (ev_glob B S e (callWith_K (h₀ := s.heap) (S.inK B) hk h he hplain) hx hd)
theorem ev_callB {x : Str} {p pos : Pos} {a : PySem.Expr} {rest : List PySem.Expr} {id : String} {Q : Value → Shared → Prop} (B : Base K H0) (S : Rs H0 H env V s.heap) (e : nsIn K mainGlobals x = some none) (hv : bootBuiltins x = some (.builtin id)) (hx : env.kindOf x = some .globalImplicit)
    (h : wpAny (model prog w) A (spliced (backTo pos (starEach (a :: rest) env))) (fun vs s₁ => wpAny (model prog w) A (call (.builtin id) vs) Q E s₁) E s)
    (he : starEach (a :: rest) env = (false, eval a env) :: starEach rest env := by rfl) (hplain : (backTo pos (starEach (a :: rest) env)).any (·.1) = false := by rfl) (hn : x ≠ "__name__" := by decide) (hd : (x == ("__debug__" : Str)) = false := by decide) :
    wpAny (model prog w) A (eval (.Call (.Name x p) (a :: rest) [] pos) env) Q E s := by
  refine Call_Name rfl (ev_blt B S e hv (callWith_builtin hplain ?_) hx hn hd)
  rw [he] at h ⊢
  exact evalArgs_plain h
theorem ev_callT {x : Str} {p pos : Pos} {a : PySem.Expr} {rest : List PySem.Expr} {T : String} {Q : Value → Shared → Prop} (B : Base K H0) (S : Rs H0 H env V s.heap) (e : nsIn K mainGlobals x = some none) (hv : bootBuiltins x = some (.type T)) (hx : env.kindOf x = some .globalImplicit)
    (h : wpAny (model prog w) A (spliced (backTo pos (starEach (a :: rest) env))) (fun vs s₁ => wpAny (model prog w) A (call (.type T) vs) Q E s₁) E s)
    (he : starEach (a :: rest) env = (false, eval a env) :: starEach rest env := by rfl) (hplain : (backTo pos (starEach rest env)).any (·.1) = false := by rfl) (hn : x ≠ "__name__" := by decide) (hd : (x == ("__debug__" : Str)) = false := by decide) :
    wpAny (model prog w) A (eval (.Call (.Name x p) (a :: rest) [] pos) env) Q E s :=
  Call_Name rfl (ev_blt B S e hv (PyProof.Rows.callWith_type1 h he hplain) hx hn hd)
theorem arg0 {pos : Pos} {Q : List Value → Shared → Prop} (h : Q [] s) : wpAny (model prog w) A (spliced (backTo pos (starEach [] env))) Q E s := wpAny_items_nil h
end
end Mine
end
section
open PySem PySem.W PyProof.Rows PySem.Calls
namespace Mine
section
variable {prog : Program} {w : World} {A : Around} {E : Value → Shared → Prop} {s : Shared} {K : Frag} {c : Cx} {H : KH} {env : Env} {V : Str → Option Value} {ms : List (Addr × Obj)}
theorem Rs.noMod {H0 : KH} {h : Heap} (B : Base K H0) (S : Rs H0 H env V h) {a : Addr} (n : h.get? a = none) : a ≠ sysModules := fun q => by
  obtain ⟨o, e⟩ := (B.le S.b0).sm
  rw [q, S.kn _ _ e] at n; cases n
noncomputable def DictH (prog : Program) (w : World) (H : KH) (d : Addr) (kvs : List (Str × Value)) : Prop := d ≠ sysModules ∧ ∃ o, H d = some o ∧ o.IsDictOf (strKind prog w) kvs
theorem DictH.at {d : Addr} {kvs : List (Str × Value)} {h : Heap} (x : DictH prog w H d kvs) (k : InH H h) : h.DictOf (strKind prog w) d kvs := let ⟨_, o, e, r⟩ := x; Heap.dictOf_iff.mpr ⟨o, k _ _ e, r⟩
theorem DictH.known {d : Addr} {kvs : List (Str × Value)} (x : DictH prog w H d kvs) : H d ≠ none := let ⟨_, o, e, _⟩ := x; by rw [e]; exact nofun
theorem DictH.le {H' : KH} {d : Addr} {kvs : List (Str × Value)} (x : DictH prog w H d kvs) (l : H.le H') : DictH prog w H' d kvs := let ⟨n, o, e, r⟩ := x; ⟨n, o, l _ _ e, r⟩
theorem DictH.nd {d : Addr} {kvs : List (Str × Value)} (x : DictH prog w H d kvs) : (kvs.map (·.1)).Nodup := let ⟨_, _, _, _, _, _, _, _, _, r⟩ := x; r
noncomputable def OwnD (prog : Program) (w : World) (o : Obj) (kvs : List (Str × Value)) : Prop := o.IsDictOf (strKind prog w) kvs
theorem up_filled {h h' : Heap} {o : Obj} (hs : Heap.SameBut h.objs.size (h.push o) h') : Up h h' := fun b x e => (hs.2 b (Nat.ne_of_lt (Heap.lt_size e))).trans (Heap.get?_push_of_some _ e)
theorem dict_copy {d : Addr} {kvs : List (Str × Value)} {Q : Value → Shared → Prop} (B : Base K c.H0) (S : St c H env V ms s.heap) (D : s.heap.DictOf (strKind prog w) d kvs) (nm : d ≠ sysModules) (hsz : kvs.length ≤ sizeLine)
    (h : ∀ a o h', St c H env V ((a, o) :: ms) h' → OwnD prog w o kvs → a ≠ sysModules → s.heap.get? a = none → Q (.ref a) (uH s h')) : wpAny (model prog w) A (call (.type "dict") [.ref d]) Q E s := by
  refine kt_call_dict (beq_eq_false_iff_ne.mpr nm) D hsz fun h' hd hs => ?_
  obtain ⟨o, e, r⟩ := Heap.dictOf_iff.mp hd
  exact h _ o h' (S.new (up_filled hs) (fresh_of_size (Nat.le_refl _)) e) r (S.noMod B (fresh_of_size (Nat.le_refl _))) (fresh_of_size (Nat.le_refl _))
theorem dict_empty {pos : Pos} {Q : Value → Shared → Prop} (B : Base K c.H0) (S : St c H env V ms s.heap)
    (h : ∀ a o h', St c H env V ((a, o) :: ms) h' → OwnD prog w o [] → a ≠ sysModules → s.heap.get? a = none → Q (.ref a) (uH s h')) : wpAny (model prog w) A (eval (.Dict [] [] pos) env) Q E s := by
  refine wpAny_Dict_empty ?_
  obtain ⟨o, e, r⟩ := Heap.dictOf_iff.mp (Heap.DictOf.new (knd := strKind prog w) s.heap)
  exact h _ o _ (S.new (Up.push _ _) (fresh_of_size (Nat.le_refl _)) e) r (S.noMod B (fresh_of_size (Nat.le_refl _))) (fresh_of_size (Nat.le_refl _))
theorem dict_one {k v : PySem.Expr} {pos : Pos} {Q : Value → Shared → Prop} (B : Base K c.H0) (S : St c H env V ms s.heap)
    (h : ∀ a o h1, St c H env V ((a, o) :: ms) h1 → a ≠ sysModules → wpAny (model prog w) A (eval k env) (fun kv s1 => wpAny (model prog w) A (eval v env) (fun vv s2 => Ex5 fun x t H' V' ms' => kv = .str x t ∧ St c H' env V' ((a, o) :: ms') s2.heap ∧
      ∀ o' h' tk, St c H' env V' ((a, o') :: ms') h' → OwnD prog w o' [(x, vv)] → Q (.ref a) (uP s2 h' tk)) E s1) E (uH s h1)) :
    wpAny (model prog w) A (eval (.Dict [some k] [v] pos) env) Q E s := by
  obtain ⟨o, e, r⟩ := Heap.dictOf_iff.mp (Heap.DictOf.new (knd := strKind prog w) s.heap)
  refine wpAny_Dict_walk (knd := strKind prog w) rfl rfl (by simp) (by simp) (pairTrees_cons_walk ?_)
  refine wpAny_mono (h _ o _ (S.new (Up.push _ _) (fresh_of_size (Nat.le_refl _)) e) (S.noMod B (fresh_of_size (Nat.le_refl _)))) (fun kv s1 h1 => wpAny_mono h1 (fun vv s2 h2 => pairTrees_nil_walk ?_) fun _ _ q => q) fun _ _ q => q
  obtain ⟨x, t, H', V', ms', rfl, S', hq⟩ := h2
  refine display_done_str rfl (by simp [strPairs]) (Heap.dictOf_iff.mpr ⟨o, (S'.mu _ (.head _)).1, r⟩) fun h' hd hs => ?_
  obtain ⟨o', e', r'⟩ := Heap.dictOf_iff.mp hd
  exact hq o' h' _ (S'.change (fun b y q z => (hs.2 b q).trans z) e') r'
theorem dict_update {d e : Addr} {o : Obj} {kvs more : List (Str × Value)} {Q : Value → Shared → Prop} (S : St c H env V ((d, o) :: ms) s.heap) (hd : OwnD prog w o kvs) (D : s.heap.DictOf (strKind prog w) e more) (ne : d ≠ e) (nm : e ≠ sysModules) (hsz : kvs.length + more.length ≤ sizeLine)
    (h : ∀ o' h', St c H env V ((d, o') :: ms) h' → OwnD prog w o' (merged kvs more) → Q .none (uH s h')) : wpAny (model prog w) A (call (.builtin "dict.update") [.ref d, .ref e]) Q E s := by
  have hD : s.heap.DictOf (strKind prog w) d kvs := Heap.dictOf_iff.mpr ⟨o, (S.mu _ (.head _)).1, hd⟩
  refine call_meetsIn PySem.F.slot_dict_update hD.typeIs PySem.F.entry_dict_update (PySem.F.args_dict_update_2 _ _) (meets_dict_update (strKind prog w) d e ne (beq_eq_false_iff_ne.mpr nm)) ⟨kvs, more, hD, D, hsz, fun h' hmm _ hs => ?_⟩
  obtain ⟨o', e', r⟩ := Heap.dictOf_iff.mp hmm
  exact h o' h' (S.change (fun b x q y => (hs.2 b q).trans y) e') r
theorem meth_update {d : Addr} {o : Obj} {kvs : List (Str × Value)} {pos : Pos} {t : Sem Value} {Q : Value → Shared → Prop} (S : St c H env V ((d, o) :: ms) s.heap) (hd : OwnD prog w o kvs)
    (h : wpAny (model prog w) A t (fun v s₁ => wpAny (model prog w) A (call (.builtin "dict.update") [.ref d, v]) Q E s₁) E s) : MethodOn prog w A "update" pos (.ref d) [(false, t)] Q E s := by
  have hD : s.heap.DictOf (strKind prog w) d kvs := Heap.dictOf_iff.mpr ⟨o, (S.mu _ (.head _)).1, hd⟩
  refine ⟨"dict", "dict.update", F.plainAttrs_dict, F.slot_dict_update, F.type_dict_update, hD.typeIs, hD.mapOf.noDict, callWith_builtin rfl (evalArgs_plain (spliced_cons (wpAny_mono h (fun v s₁ q => spliced_nil q) fun _ _ q => q)))⟩
end
end Mine
end
section
open PySem PySem.W PyProof.Rows PySem.Calls
namespace Mine
noncomputable def clOf (env : Env) : List (Str × NameKind) → List (Str × Addr) → List (Str × Addr)
  | [], acc => acc
  | (n, k) :: r, acc => clOf env r (if k == .free then (n, (env.cells.lookup n).getD 0) :: acc else acc)
theorem clOf_acc (env : Env) : ∀ (names : List (Str × NameKind)) (acc : List (Str × Addr)) (x : Str), ((∃ a, acc.lookup x = some a) ∨ (x, NameKind.free) ∈ names) → (∀ a, acc.lookup x = some a → a = (env.cells.lookup x).getD 0) → (clOf env names acc).lookup x = some ((env.cells.lookup x).getD 0)
  | [], acc, x, h, ok => by
    rcases h with ⟨a, h⟩ | h
    · rw [ok a h] at h; exact h
    · cases h
  | (n, k) :: r, acc, x, h, ok => by
    unfold clOf
    by_cases hk : (k == NameKind.free) = true
    · rw [if_pos hk]
      have ek : k = .free := beq_iff_eq.mp hk
      by_cases hx : (x == n) = true
      · have ex : x = n := beq_iff_eq.mp hx
        subst ex
        refine clOf_acc env r _ x (.inl ⟨_, by rw [List.lookup_cons, hx]⟩) (fun a e => ?_)
        rw [List.lookup_cons, hx] at e; cases e; rfl
      · have hx' : (x == n) = false := by simpa using hx
        refine clOf_acc env r _ x ?_ (fun a e => ?_)
        · rcases h with ⟨a, h⟩ | h
          · exact .inl ⟨a, by rw [List.lookup_cons, hx']; exact h⟩
          · rcases List.mem_cons.mp h with q | q
            · cases q; simp at hx'
            · exact .inr q
        · rw [List.lookup_cons, hx'] at e; exact ok a e
    · rw [if_neg hk]
      refine clOf_acc env r acc x ?_ ok
      rcases h with h | h
      · exact .inl h
      · rcases List.mem_cons.mp h with q | q
        · cases q; exact absurd rfl hk
        · exact .inr q
theorem forIn_clOf {env : Env} (f : Str × NameKind → List (Str × Addr) → Sem (ForInStep (List (Str × Addr))))
    (hf : ∀ n k cs, f (n, k) cs = if k == .free then (do let a ← cellOf env n; pure (.yield ((n, a) :: cs))) else pure (.yield cs)) :
    ∀ (names : List (Str × NameKind)) (acc : List (Str × Addr)), (∀ n, (n, NameKind.free) ∈ names → (env.cells.lookup n).isSome = true) → forIn names acc f = pure (clOf env names acc)
  | [], _, _ => rfl
  | (n, k) :: r, acc, h => by
    rw [List.forIn_cons, hf]
    unfold clOf
    by_cases hk : (k == NameKind.free) = true
    · have ek : k = .free := beq_iff_eq.mp hk
      obtain ⟨a, ha⟩ := Option.isSome_iff_exists.mp (h n (by rw [ek]; exact .head _))
      have hc : cellOf env n = pure a := by unfold cellOf; rw [ha]
      rw [if_pos hk, if_pos hk, hc, ha]
      exact forIn_clOf f hf r _ fun m hm => h m (.tail _ hm)
    · rw [if_neg hk, if_neg hk]
      exact forIn_clOf f hf r _ fun m hm => h m (.tail _ hm)
theorem closureFor_eq {scope : Scope} {env : Env} (h : ∀ n, (n, NameKind.free) ∈ scope.names → (env.cells.lookup n).isSome = true) : closureFor scope env = pure (clOf env scope.names []) := by
  simp only [closureFor]
  rw [forIn_clOf (env := env) _ (fun n k cs => rfl) scope.names [] h]
  rfl
noncomputable def compKind (scope : Scope) (env : Env) (x : Str) : Option NameKind := (relabel scope env).names.lookup x
noncomputable def compV (scope : Scope) (env : Env) (V : Str → Option Value) (x : Str) (v : Value) : Str → Option Value :=
  fun y => if y = x then some v else if compKind scope env y = some .cell then V y else none
theorem lookup_map_kind {names : List (Str × NameKind)} {f : Str → NameKind → NameKind} {x : Str} : (names.map fun y => (y.1, f y.1 y.2)).lookup x = (names.lookup x).map (f x) := by
  induction names with
  | nil => rfl
  | cons y r ih =>
    obtain ⟨n, k⟩ := y
    show List.lookup x ((n, f n k) :: _) = _
    rw [List.lookup_cons, List.lookup_cons]
    cases h : x == n with
    | true => rw [beq_iff_eq.mp h]; rfl
    | false => exact ih
theorem mem_of_lookup' {α : Type} {l : List (Str × α)} {n : Str} {c : α} (h : l.lookup n = some c) : (n, c) ∈ l := mem_of_lookup h
section
variable {prog : Program} {w : World} {A : Around} {E : Value → Shared → Prop} {s : Shared} {K : Frag} {c : Cx} {H H0 : KH} {env : Env} {V : Str → Option Value} {ms : List (Addr × Obj)}
theorem relabel_cell {scope : Scope} (hcell : ∀ y ∈ scope.names, y.2 ≠ .cell) {x : Str} (h : compKind scope env x = some .cell) : (x, NameKind.free) ∈ scope.names ∧ env.kindOf x = some .cell := by
  unfold compKind relabel at h
  have e := lookup_map_kind (names := scope.names) (x := x) (f := fun n k => if (k == .free && env.scope.kind == .function && env.kindOf n == some .cell) = true then .cell else k)
  have h' : (scope.names.map fun y => (y.1, if (y.2 == .free && env.scope.kind == .function && env.kindOf y.1 == some .cell) = true then NameKind.cell else y.2)).lookup x = some .cell := by
    refine Eq.trans (congrArg (List.lookup x) (List.map_congr_left fun y _ => ?_)) h
    obtain ⟨n, k⟩ := y
    dsimp only
    generalize (k == NameKind.free && env.scope.kind == ScopeKind.function && env.kindOf n == some NameKind.cell) = b
    cases b <;> rfl
  rw [e] at h'
  obtain ⟨k, hk, hq⟩ := Option.map_eq_some_iff.mp h'
  split at hq
  · rename_i hc
    simp only [Bool.and_eq_true, beq_iff_eq] at hc
    exact ⟨by rw [← hc.1.1]; exact mem_of_lookup hk, hc.2⟩
  · subst hq; exact absurd rfl (hcell _ (mem_of_lookup hk))
theorem rs_comp {scope : Scope} {x : Str} {v : Value} {C : Addr} {m : Str → Option Value} {h : Heap} (S : Rs H0 H env V h) (hkind : scope.kind = .function) (hcell : ∀ y ∈ scope.names, y.2 ≠ .cell) (hn : h.Ns C m) (hm : m x = some v) (hx : scope.names.lookup x = some .local) :
    Rs H0 H (compEnvC scope (clOf env scope.names []) C env) (compV scope env V x v) h := by
  refine ⟨⟨hkind, ⟨m, hn, fun y u ky hy => ?_⟩, fun y ky => ?_⟩, S.b0, S.kn, S.gl⟩
  · unfold compV at hy
    split at hy
    · rename_i q; subst q; rw [← hy]; exact hm
    · have : compKind scope env y = some .local := ky
      rw [this] at hy; simp at hy
  · obtain ⟨hf, hk⟩ := relabel_cell hcell ky
    refine absG fun gG hgG => ?_
    obtain ⟨a, v0, la, ha, r⟩ := S.rd.cl y hk
    refine hgG ?_; clear hgG
    refine ⟨a, v0, ?_, ha, fun u hu => ?_⟩
    · show (clOf env scope.names []).lookup y = some a
      rw [clOf_acc env scope.names [] y (.inr hf) (fun a e => by cases e), la]; rfl
    · unfold compV at hu
      split at hu
      · rename_i q
        subst q
        exact absurd (mem_of_lookup hx) (fun _ => by
          have k1 : compKind scope env y = some .local := lookup_relabel_local hx
          have k2 : compKind scope env y = some .cell := ky
          rw [k1] at k2; cases k2)
      · have : compKind scope env y = some .cell := ky
        rw [if_pos this] at hu
        exact r u hu
noncomputable def IterOf (prog : Program) (w : World) (A : Around) (s : Shared) (xv : Value) (n : Nat) (P : Nat → Value → Prop) : Prop :=
  ∀ (Q : Value → Shared → Prop) (E : Value → Shared → Prop), (∀ I fp wr WS h', Walks prog w A I fp wr n P WS → WS 0 h' → Up s.heap h' → (∀ b ∈ wr, s.heap.get? b = none) → (∀ b ∈ fp, b < h'.objs.size) → Q (.ref I) (uH s h')) → wpAny (model prog w) A (pyIter xv) Q E s
theorem iter_list {a : Addr} {items : Array Value} (hh : A.handled = none) (l : s.heap.IsList a items) : IterOf prog w A s (.ref a) items.size (fun i v => items[i]? = some v) := by
  intro Q E h
  have hlt : a < s.heap.objs.size := by obtain ⟨_, e, _⟩ := l; exact Heap.lt_size e
  refine wpAny_pyIter_list l (h _ _ _ _ _ (Walks.list hh s.heap.objs.size a (Nat.ne_of_lt hlt) items) ⟨⟨_, Heap.get?_push_size _ rfl, rfl, rfl⟩, l.push _⟩ (Up.push _ _) (fun b hb => ?_) fun b hb => ?_)
  · rw [List.mem_singleton.mp hb]; exact fresh_of_size (Nat.le_refl _)
  · rw [Heap.size_push]
    rcases List.mem_cons.mp hb with rfl | hb
    · exact Nat.lt_succ_self _
    · rw [List.mem_singleton.mp hb]; exact Nat.lt_succ_of_lt hlt
theorem iter_dict {a : Addr} {kvs : List (Str × Value)} (hh : A.handled = none) (nm : a ≠ sysModules) (D : s.heap.DictOf (strKind prog w) a kvs) : IterOf prog w A s (.ref a) kvs.length (fun i v => ∃ k x, kvs[i]? = some (k, x) ∧ (strKind prog w).is k v = true) := by
  intro Q E h
  refine absG fun gG hgG => ?_
  obtain ⟨o, es, ep, e, r⟩ := D
  refine hgG ?_; clear hgG
  have hlt : a < s.heap.objs.size := Heap.lt_size e
  have dat : s.heap.DictAt (strKind prog w) a kvs ep := ⟨o, es, e, r⟩
  refine wpAny_pyIter_dict (beq_eq_false_iff_ne.mpr nm) dat (h _ _ _ _ _ (Walks.dictKeys hh s.heap.objs.size a (Nat.ne_of_lt hlt) kvs ep) ⟨⟨_, Heap.get?_push_size _ rfl, rfl, rfl⟩, dat.at' fun o e => Heap.get?_push_of_some _ e⟩ (Up.push _ _) (fun b hb => ?_) fun b hb => ?_)
  · rw [List.mem_singleton.mp hb]; exact fresh_of_size (Nat.le_refl _)
  · rw [Heap.size_push]
    rcases List.mem_cons.mp hb with rfl | hb
    · exact Nat.lt_succ_self _
    · rw [List.mem_singleton.mp hb]; exact Nat.lt_succ_of_lt hlt
noncomputable def testsOf (ifs : List PySem.Expr) (cenv : Env) : Sem Bool := forIn ifs true fun c r => if r = true then do let ok ← isTrue c cenv (eval c cenv); pure (ForInStep.yield ok) else pure (ForInStep.yield r)
theorem tests_nil {M : Model} {cenv : Env} {Q : Bool → Shared → Prop} (h : Q true s) : wpAny M A (testsOf [] cenv) Q E s := wpAny_pure h
theorem tests_one {M : Model} {cenv : Env} {c : PySem.Expr} {Q : Bool → Shared → Prop} (h : wpAny M A (isTrue c cenv (eval c cenv)) Q E s) : wpAny M A (testsOf [c] cenv) Q E s := by
  unfold testsOf
  rw [List.forIn_cons]
  refine wpAny_bind (wpAny_bind (wpAny_mono h (fun b s₁ q => wpAny_pure ?_) fun _ _ q => q))
  exact wpAny_pure q
theorem keeps_refl {s : Shared} : Keeps s s := ⟨s.heap, s.toks, rfl, fun _ _ e => e⟩
theorem keeps_of {s : Shared} {h' : Heap} {tk : Nat} (u : Up s.heap h') : Keeps s (uP s h' tk) := ⟨h', tk, rfl, u⟩
structure CompScope (env : Env) (scope : Scope) (x : Str) : Prop where
  kind : scope.kind = .function
  cell : ∀ y ∈ scope.names, y.2 ≠ .cell
  loc : ∀ y ∈ scope.names, y.2 = .local → scope.names.lookup y.1 = some .local
  var : scope.names.lookup x = some .local
  free : ∀ y ∈ scope.names, y.2 = .free → env.kindOf y.1 = some .cell
noncomputable def compOk (env : Env) (scope : Scope) (x : Str) : Bool :=
  scope.kind == .function && scope.names.all (fun y => y.2 != .cell && (y.2 != .local || scope.names.lookup y.1 == some .local) && (y.2 != .free || env.kindOf y.1 == some .cell)) && scope.names.lookup x == some .local
theorem CompScope.of {scope : Scope} {x : Str} (h : compOk env scope x = true) : CompScope env scope x := by
  unfold compOk at h
  rw [Bool.and_eq_true, Bool.and_eq_true] at h
  obtain ⟨⟨h1, h2⟩, h3⟩ := h
  have key := fun y hy => List.all_eq_true.mp h2 y hy
  refine ⟨by simpa using h1, fun y hy q => ?_, fun y hy q => ?_, by simpa using h3, fun y hy q => ?_⟩ <;> have k := key y hy <;> rw [Bool.and_eq_true, Bool.and_eq_true] at k
  · rw [q] at k; exact absurd k.1.1 (by decide)
  · have := k.1.2; rw [q] at this; simpa using this
  · have := k.2; rw [q] at this; simpa using this
theorem clos_of {scope : Scope} {x : Str} {h : Heap} (R : Rs H0 H env V h) (Z : CompScope env scope x) : closureFor scope env = pure (clOf env scope.names []) :=
  closureFor_eq fun n hn => by
    obtain ⟨a, _, l, _⟩ := R.rd.cl n (Z.free _ hn rfl)
    rw [l]; rfl
theorem dcomp {kx vx iter : PySem.Expr} {x : Str} {px : Pos} {ifs : List PySem.Expr} {scope : Scope} {pos : Pos} {Q : Value → Shared → Prop} (B : Base K c.H0) (S₀ : St c H env V ms s.heap) (Z : CompScope env scope x)
    (p : Value → Bool) (FK : Value → Str → Prop) (FV : Value → Value → Prop)
    (h : wpAny (model prog w) A (eval iter env) (fun xv s₁ => Ex5 fun H₁ V₁ ms₁ n P => St c H₁ env V₁ ms₁ s₁.heap ∧ IterOf prog w A s₁ xv n P ∧ n ≤ sizeLine ∧
      (∀ cenv i v s₃ E', P i v → Rs c.H0 H₁ cenv (compV scope env V₁ x v) s₃.heap → cenv.scope = relabel scope env → wpAny (model prog w) A (testsOf ifs cenv) (fun ok s₄ => ok = p v ∧ Keeps s₃ s₄) E' s₃) ∧
      (∀ cenv i v s₃ E', P i v → p v = true → Rs c.H0 H₁ cenv (compV scope env V₁ x v) s₃.heap → cenv.scope = relabel scope env → wpAny (model prog w) A (eval kx cenv) (fun key s₄ => (∃ k, (strKind prog w).is k key = true ∧ FK v k) ∧ Keeps s₃ s₄) E' s₃) ∧
      (∀ cenv i v s₃ E', P i v → p v = true → Rs c.H0 H₁ cenv (compV scope env V₁ x v) s₃.heap → cenv.scope = relabel scope env → wpAny (model prog w) A (eval vx cenv) (fun y s₄ => FV v y ∧ Keeps s₃ s₄) E' s₃) ∧
      (∀ D o kvs (vs : List Value) h' tk, St c H₁ env V₁ ((D, o) :: ms₁) h' → D ≠ sysModules → OwnD prog w o kvs → vs.length = n → (∀ j v, vs[j]? = some v → P j v) → StoredAll FK FV (vs.filter p) kvs → Q (.ref D) (uP s₁ h' tk))) E s)
    (hs : ∀ x, foldedSetIterable iter env x = pure x := by intro _; rfl) :
    wpAny (model prog w) A (eval (.DictComp kx vx [⟨.Name x px, iter, ifs, 0⟩] scope pos) env) Q E s := by
  refine wpAny_DictComp_free (strKind prog w) p FK FV (clos_of S₀.toRs Z) Z.cell Z.kind Z.loc Z.var (wpAny_mono h (fun xv s₁ h₁ => ?_) fun _ _ q => q) hs
  refine absG fun gG hgG => ?_
  obtain ⟨H₁, V₁, ms₁, n, P, S, it, hn, ht, hk, hv, hq⟩ := h₁
  refine hgG ?_; clear hgG
  refine it _ _ fun I fp wr WS h' W w0 up new low => ⟨I, fp, wr, n, P, WS, rfl, W, hn, w0, low, ⟨?_, ?_, ?_⟩, ?_⟩
  · intro C i v s₃ m₃ E' hP hns hm hkp
    have up₃ : Up s₁.heap s₃.heap := fun b o e => hkp b o (fun m => by rw [new b m] at e; cases e) (up _ _ e)
    exact ht _ i v s₃ E' hP (rs_comp (S.toRs.up up₃) Z.kind Z.cell hns hm Z.var) rfl
  · intro C i v s₃ m₃ E' hP hp hns hm hkp
    have up₃ : Up s₁.heap s₃.heap := fun b o e => hkp b o (fun m => by rw [new b m] at e; cases e) (up _ _ e)
    exact hk _ i v s₃ E' hP hp (rs_comp (S.toRs.up up₃) Z.kind Z.cell hns hm Z.var) rfl
  · intro C i v s₃ m₃ E' hP hp hns hm hkp
    have up₃ : Up s₁.heap s₃.heap := fun b o e => hkp b o (fun m => by rw [new b m] at e; cases e) (up _ _ e)
    exact hv _ i v s₃ E' hP hp (rs_comp (S.toRs.up up₃) Z.kind Z.cell hns hm Z.var) rfl
  · intro D h'' tk kvs vs hD hd hl hP hF hkp
    have up₃ : Up s₁.heap h'' := fun b o e => hkp b o (fun m => by rw [new b m] at e; cases e) (up _ _ e)
    obtain ⟨o, e, r⟩ := Heap.dictOf_iff.mp hd
    have fr : s₁.heap.get? D = none := up.none hD
    exact hq D o kvs vs h'' tk (S.new up₃ fr e) (S.noMod B fr) r hl hP hF
theorem lcomp_assign {elt iter : PySem.Expr} {x y : Str} {px py : Pos} {ifs : List PySem.Expr} {scope : Scope} {pos spos : Pos} {Q : Flow → Shared → Prop} (S₀ : St c H env V ms s.heap) (Z : CompScope env scope x)
    (p : Value → Bool) (F : Value → Value → Prop) (hsw : swapsWith (.ListComp elt [⟨.Name x px, iter, ifs, 0⟩] scope pos) (some (.Name y py)) spos.line env = pure true) (hy : env.kindOf y = some .local)
    (h : wpAny (model prog w) A (eval iter env) (fun xv s₁ => Ex5 fun H₁ V₁ ms₁ n P => St c H₁ env V₁ ms₁ s₁.heap ∧ IterOf prog w A s₁ xv n P ∧ n ≤ sizeLine ∧
      (∀ cenv i v s₃ E', P i v → Rs c.H0 H₁ cenv (compV scope env V₁ x v) s₃.heap → cenv.scope = relabel scope env → wpAny (model prog w) A (testsOf ifs cenv) (fun ok s₄ => ok = p v ∧ Keeps s₃ s₄) E' s₃) ∧
      (∀ cenv i v s₃ E', P i v → p v = true → Rs c.H0 H₁ cenv (compV scope env V₁ x v) s₃.heap → cenv.scope = relabel scope env → wpAny (model prog w) A (eval elt cenv) (fun y s₄ => F v y ∧ Keeps s₃ s₄) E' s₃) ∧
      (∀ D ep ys (vs : List Value) h' tk, St c H₁ env (setV V₁ y (.ref D)) ((D, { cls := .type "list", data := .seq ys ep }) :: ms₁) h' → vs.length = n → (∀ j v, vs[j]? = some v → P j v) → Paired F (vs.filter p) ys.toList → Q .next (uP s₁ h' tk))) E s)
    (hs : ∀ x, foldedSetIterable iter env x = pure x := by intro _; rfl) :
    wpAny (model prog w) A (exec (.Assign [.Name y py] (.ListComp elt [⟨.Name x px, iter, ifs, 0⟩] scope pos) spos) env) Q E s := by
  refine wpAny_Assign_ListComp_free p F hsw (clos_of S₀.toRs Z) Z.cell Z.kind Z.loc Z.var hy (by rw [S₀.rd.fn]; rfl) (wpAny_mono h (fun xv s₁ h₁ => ?_) fun _ _ q => q) hs
  refine absG fun gG hgG => ?_
  obtain ⟨H₁, V₁, ms₁, n, P, S, it, hn, ht, he, hq⟩ := h₁
  refine hgG ?_; clear hgG
  obtain ⟨m, hns0, hm0⟩ := S.rd.ns
  refine it _ _ fun I fp wr WS h' W w0 up new low => ⟨I, fp, wr, n, P, WS, m, rfl, W, hn, w0, low, fun q => ?_, hns0.keeps up, ⟨?_, ?_⟩, ?_⟩
  · refine absG fun gG hgG => ?_
    obtain ⟨o, _, _, e, _⟩ := hns0
    refine hgG ?_; clear hgG
    rw [new _ q] at e; cases e
  · intro C i v s₃ m₃ E' _ hP hns hm hkp _
    have up₃ : Up s₁.heap s₃.heap := fun b o e => hkp b o (fun m => by rw [new b m] at e; cases e) (up _ _ e)
    exact ht _ i v s₃ E' hP (rs_comp (S.toRs.up up₃) Z.kind Z.cell hns hm Z.var) rfl
  · intro C i v s₃ m₃ E' _ hP hp hns hm hkp _
    have up₃ : Up s₁.heap s₃.heap := fun b o e => hkp b o (fun m => by rw [new b m] at e; cases e) (up _ _ e)
    exact he _ i v s₃ E' hP hp (rs_comp (S.toRs.up up₃) Z.kind Z.cell hns hm Z.var) rfl
  · intro D h'' tk ys vs hD _ hl hlen hP hF hns hkp
    have other : ∀ b o, b ≠ env.locals → s₁.heap.get? b = some o → h''.get? b = some o := fun b o hb e => hkp b o hb (fun m => by rw [new b m] at e; cases e) (up _ _ e)
    obtain ⟨ep, e⟩ := hl
    exact hq D ep ys vs h'' tk (S.addNew (S.locally hy hm0 hns other) (up.none hD) e) hlen hP hF
noncomputable def ListH (H : KH) (a : Addr) (vs : List Value) : Prop := ∃ ep, H a = some { cls := .type "list", data := .seq vs.toArray ep }
theorem ListH.at {a : Addr} {vs : List Value} {h : Heap} (x : ListH H a vs) (k : InH H h) : h.IsList a vs.toArray := let ⟨ep, e⟩ := x; ⟨_, k _ _ e, rfl, ep, rfl⟩
theorem ListH.le {H' : KH} {a : Addr} {vs : List Value} (x : ListH H a vs) (l : H.le H') : ListH H' a vs := let ⟨ep, e⟩ := x; ⟨ep, l _ _ e⟩
inductive Nx (c : Cx) (env : Env) (s₂ : Shared) (H' : KH) (os : List (Addr × Obj)) (I : KH → (Str → Option Value) → List (Addr × Obj) → Prop) (s₃ : Shared) : Prop
  | mk (H'' : KH) (V'' : Str → Option Value) (ms'' : List (Addr × Obj)) (h'' : Heap) (tk'' : Nat) (e : s₃ = (uP s₂ h'' tk'')) (l : H'.le H'') (S : St c H'' env V'' (ms'' ++ os) h'') (i : I H'' V'' ms'')
noncomputable abbrev TurnQ (c : Cx) (env : Env) (s₂ : Shared) (H' : KH) (os : List (Addr × Obj)) (I : KH → (Str → Option Value) → List (Addr × Obj) → Prop) (Q : Flow → Shared → Prop) (f : Flow) (s₃ : Shared) : Prop := match f with
  | .next => Nx c env s₂ H' os I s₃
  | .ret v => Q (.ret v) s₃
  | _ => False
inductive ForL (prog : Program) (w : World) (A : Around) (c : Cx) (env : Env) (x : Str) (body : List Stmt) (Inv : Nat → KH → (Str → Option Value) → List (Addr × Obj) → Prop) (Q : Flow → Shared → Prop) (xv : Value) (s₁ : Shared) : Prop
  | mk (a : Addr) (vs : List Value) (H₁ : KH) (V₁ : Str → Option Value) (ms₁ : List (Addr × Obj)) (e : xv = .ref a) (l : ListH H₁ a vs) (S : St c H₁ env V₁ ms₁ s₁.heap) (i0 : Inv 0 H₁ V₁ ms₁)
    (turn : ∀ i v I oI H' V' ms' h' tk', vs[i]? = some v → H₁.le H' → Inv i H' V' ms' → St c H' env (setV V' x v) (ms' ++ [(I, oI)]) h' → I ∉ c.X →
        wpAny (model prog w) A (execs body env) (TurnQ c env s₁ H' [(I, oI)] (Inv (i + 1)) Q) (fun _ _ => False) (uP s₁ h' tk'))
    (fin : ∀ H' V' ms' h' tk', H₁.le H' → Inv vs.length H' V' ms' → St c H' env V' ms' h' → Q .next (uP s₁ h' tk'))
theorem for_list {x : Str} {px pos : Pos} {iter : PySem.Expr} {body : List Stmt} {Q : Flow → Shared → Prop} (hh : A.handled = none) (hx : env.kindOf x = some .local ∨ env.kindOf x = some .cell)
    (Inv : Nat → KH → (Str → Option Value) → List (Addr × Obj) → Prop)
    (h : wpAny (model prog w) A (eval iter env) (ForL prog w A c env x body Inv Q) E s)
    (hs : ∀ x, foldedSetIterable iter env x = pure x := by intro _; rfl) :
    wpAny (model prog w) A (exec (.For (.Name x px) iter body [] pos) env) Q E s := by
  refine wpAny_For (wpAny_mono h (fun xv s₁ h₁ => ?_) fun _ _ q => q) hs
  refine absG fun gG hgG => ?_
  obtain ⟨a, vs, H₁, V₁, ms₁, rfl, hl, S₁, i0, turn, fin⟩ := h₁
  refine hgG ?_; clear hgG
  refine wpAny_pyIter_list (hl.at S₁.kn) ?_
  have fr : s₁.heap.get? s₁.heap.objs.size = none := fresh_of_size (Nat.le_refl _)
  have hX := S₁.notX fr
  have e0 := Heap.get?_push_size s₁.heap (o := { cls := .type "list_iterator", data := .fields #[.ref a, .int 0 0] }) rfl
  have S₂ := S₁.new (Up.push s₁.heap _) fr e0
  generalize s₁.heap.objs.size = I at *
  refine codeAny_forLoop (fun n s' => Ex7 fun i oI H' V' ms' h' tk' => An8 (s' = (uP s₁ h' tk')) (n = vs.length + 1 - i) (i ≤ vs.length) (H₁.le H') (St c H' env V' (ms' ++ [(I, oI)]) h') (oI.cls = .type "list_iterator") (oI.data = .fields #[.ref a, .int i 0]) (Inv i H' V' ms')) ?_ (vs.length + 1)
    ⟨0, _, H₁, V₁, ms₁, _, _, rfl, rfl, Nat.zero_le _, .refl _, S₂.perm (List.perm_append_singleton _ _).symm, rfl, rfl, i0⟩
  intro n s' rI2
  refine absG fun gG hgG => ?_
  obtain ⟨i, oI, H', V', ms', h', tk', rfl, rfl, hi, le, S', hc, hd, hI⟩ := rI2
  refine hgG ?_; clear hgG
  have SI := S'.perm (List.perm_append_singleton _ _)
  have it : h'.IsListIter I a i := ⟨oI, (SI.mu _ (.head _)).1, hc, hd⟩
  have lst : h'.IsList a vs.toArray := (hl.le le).at S'.kn
  rcases Nat.lt_or_ge i vs.length with lt | ge
  · refine wpAny_pyNext_list_item (s := uP s₁ h' tk') it lst (x := vs[i]) (by simp [lt]) fun h₂ it₂ sb => ?_
    refine absG fun gG hgG => ?_
    obtain ⟨oI', e', hc', hd'⟩ := it₂
    refine hgG ?_; clear hgG
    have S₃ := SI.change (fun b x q y => (sb.2 b q).trans y) e'
    refine wpAny_assign_Name (St.store (s := uP s₁ h₂ tk') (S₃.perm (List.perm_append_singleton _ _).symm) hx fun h₃ tk₃ S₄ => ?_)
    refine wpAny_mono (turn i vs[i] I oI' H' V' ms' h₃ tk₃ (by simp [lt]) le hI S₄ hX) (fun f s₃ q => ?_) fun _ _ q => q.elim
    cases f with
    | next =>
      refine absG fun gG hgG => ?_
      obtain ⟨H'', V'', ms'', h'', tk'', rfl, le', S₅, i'⟩ := q
      refine hgG ?_; clear hgG
      exact ⟨_, by lia, i + 1, oI', H'', V'', ms'', h'', tk'', rfl, rfl, lt, le.trans le', S₅, hc', by simpa using hd', i'⟩
    | brk => exact q.elim
    | cont => exact q.elim
    | ret v => exact q
  · have e : i = vs.length := Nat.le_antisymm hi ge
    subst e
    refine wpAny_pyNext_list_end (s := uP s₁ h' tk') hh it lst (by simp) fun h₂ eb => ?_
    exact wpAny_execs_nil (fin H' V' ms' h₂ tk' le hI (SI.lose hX fun b x q y => eb b x q y))
end
end Mine
end
section
open PySem PySem.W PyProof.Rows PySem.Calls
set_option maxRecDepth 100000
set_option maxHeartbeats 4000000
namespace Mine
noncomputable abbrev pw : Program := PySem.Challenge.pw_og0015_01
noncomputable def sAt : List Stmt → Nat → Stmt
  | s :: _, 0 => s
  | _ :: r, k + 1 => sAt r k
  | [], _ => .Pass ⟨0, 0, 0, 0⟩
noncomputable def inCls : Stmt → List Stmt
  | .ClassDef _ _ _ b _ _ _ _ _ _ _ => b
  | _ => []
noncomputable def tS (i : Nat) : Stmt := sAt pw.main.body i
noncomputable def mS (i j : Nat) : Stmt := sAt (inCls (tS i)) j
noncomputable abbrev s (x : String) : Str := Str.ofString x
noncomputable abbrev N : Value := .none
noncomputable abbrev R (a : Addr) : Value := .ref a
noncomputable abbrev I (n : Int) (t : Tok) : Value := .int n t
noncomputable abbrev B (b : Bool) : Value := .bool b
noncomputable abbrev V (x : String) (t : Tok) : Value := .str (.ofString x) t
noncomputable abbrev E (P : Params) (x : String) (t : Tok) (v : Value) : DictEntry := ⟨PyData.keyHash P (.ofString x), .str (.ofString x) t, v⟩
noncomputable abbrev ob (c : Value) (d : Option Addr) (k : Data) (l : List (Option Value)) : Obj := ⟨c, d, k, l.toArray⟩
noncomputable abbrev tu (l : List Value) : Obj := ⟨.type "tuple", none, .seq l.toArray, #[]⟩
noncomputable abbrev fi (c : Value) (l : List Value) : Obj := ⟨c, none, .fields l.toArray, #[]⟩
noncomputable abbrev di (l : List DictEntry) : Obj := ⟨.type "dict", none, .dict l.toArray, #[]⟩
noncomputable def fO (st : Stmt) (q : String) (pm c : Value) : Obj := match st with
  | .FunctionDef n a b _ _ _ sc _ _ _ => ⟨.type "function", none, .func ⟨n, .ofString q, a, .stmts b, sc, 3, [], .none, .none, .none, pm, none, c, .none, 0⟩, #[]⟩
  | _ => ⟨.none, none, .plain, #[]⟩
noncomputable def rO (st : Stmt) (q : String) : Obj := match st with
  | .FunctionDef n a b _ _ _ sc _ _ _ => ⟨.none, none, .func ⟨n, .ofString q, a, .stmts b, sc, 0, [], .none, .none, .none, .none, none, .none, .none, 0⟩, #[]⟩
  | _ => ⟨.none, none, .plain, #[]⟩
noncomputable def a11 : Obj := tu []
noncomputable def a13 : Obj := fi (.type "code") [V "<module>" 182, V "<module>" 183, V "/claim/cut.py" 184, I 1 0, I 0 0, I 0 0, I 0 0, I 0 0, R 11, B false, I 181 0, R 12, N, N, N, N, I 185 0, I 1 0, V "/claim/cut.py" 186]
noncomputable def a14 : Obj := ob (.type "frame") none .plain [some (R 13), some (R 3), some (R 3), none, some (V "__main__" 164), none, some (R 0)]
noncomputable def a15 : Obj := tu []
noncomputable def a16 : Obj := fi N []
noncomputable def a17 : Obj := tu [V "k" 190]
noncomputable def a18 : Obj := tu []
noncomputable def a19 : Obj := rO (tS 0) "_wall"
noncomputable def a20 : Obj := fi (.type "code") [V "_wall" 187, V "_wall" 188, V "/claim/cut.py" 189, I 1 0, I 1 0, I 0 0, I 0 0, I 3 0, R 15, B true, I 181 0, R 16, N, R 17, R 18, R 19, I 191 0, I 1 0, V "/claim/cut.py" 192]
noncomputable def a21 : Obj := fO (tS 0) "_wall" (V "__main__" 164) (R 20)
noncomputable def a22 : Obj := tu []
noncomputable def a23 : Obj := fi (.type "builtin_function_or_method") [.builtin "type.__prepare__", .type "type"]
noncomputable def a24 (P : Params) : Obj := ob (.type "dict") none (.dict [E P "__module__" 203 (V "lazycore.core" 194), E P "__qualname__" 205 (V "Var" 204), E P "__firstlineno__" 207 (I 5 206), E P "__init__" 215 (R 35), E P "groups" 222 (R 42), E P "parts" 229 (R 49), E P "rebuilt" 238 (R 56), E P "__static_attributes__" 240 (R 57)].toArray 8) []
noncomputable def a25 : Obj := tu []
noncomputable def a26 : Obj := fi N [I 7 0, I 4 0, R 34, I 10 0, I 4 0, R 41, I 13 0, I 4 0, R 48, I 16 0, I 4 0, R 55]
noncomputable def a27 : Obj := fi (.type "code") [V "Var" 198, V "Var" 199, V "/claim/cut.py" 200, I 5 0, I 0 0, I 0 0, I 0 0, I 0 0, R 25, B false, I 181 0, R 26, N, N, N, N, I 201 0, I 5 0, V "/claim/cut.py" 202]
noncomputable def a28 : Obj := ob (.type "frame") none .plain [some (R 27), some (R 3), some (R 24), none, some (V "lazycore.core" 194), none, some (R 0)]
noncomputable def a29 : Obj := tu []
noncomputable def a30 : Obj := fi N []
noncomputable def a31 : Obj := tu [V "self" 211, V "name" 212]
noncomputable def a32 : Obj := tu []
noncomputable def a33 : Obj := rO (mS 2 0) "Var.__init__"
noncomputable def a34 : Obj := fi (.type "code") [V "__init__" 208, V "Var.__init__" 209, V "/claim/cut.py" 210, I 7 0, I 2 0, I 0 0, I 0 0, I 3 0, R 29, B true, I 181 0, R 30, N, R 31, R 32, R 33, I 213 0, I 7 0, V "/claim/cut.py" 214]
noncomputable def a35 : Obj := fO (mS 2 0) "Var.__init__" (V "lazycore.core" 194) (R 34)
noncomputable def a36 : Obj := tu []
noncomputable def a37 : Obj := fi N []
noncomputable def a38 : Obj := tu [V "self" 219]
noncomputable def a39 : Obj := tu []
noncomputable def a40 : Obj := rO (mS 2 1) "Var.groups"
noncomputable def a41 : Obj := fi (.type "code") [V "groups" 216, V "Var.groups" 217, V "/claim/cut.py" 218, I 10 0, I 1 0, I 0 0, I 0 0, I 3 0, R 36, B true, I 181 0, R 37, N, R 38, R 39, R 40, I 220 0, I 10 0, V "/claim/cut.py" 221]
noncomputable def a42 : Obj := fO (mS 2 1) "Var.groups" (V "lazycore.core" 194) (R 41)
noncomputable def a43 : Obj := tu []
noncomputable def a44 : Obj := fi N []
noncomputable def a45 : Obj := tu [V "self" 226]
noncomputable def a46 : Obj := tu []
noncomputable def a47 : Obj := rO (mS 2 2) "Var.parts"
noncomputable def a48 : Obj := fi (.type "code") [V "parts" 223, V "Var.parts" 224, V "/claim/cut.py" 225, I 13 0, I 1 0, I 0 0, I 0 0, I 3 0, R 43, B true, I 181 0, R 44, N, R 45, R 46, R 47, I 227 0, I 13 0, V "/claim/cut.py" 228]
noncomputable def a49 : Obj := fO (mS 2 2) "Var.parts" (V "lazycore.core" 194) (R 48)
noncomputable def a50 : Obj := tu []
noncomputable def a51 : Obj := fi N []
noncomputable def a52 : Obj := tu [V "self" 233, V "groups" 234, V "parts" 235]
noncomputable def a53 : Obj := tu []
noncomputable def a54 : Obj := rO (mS 2 3) "Var.rebuilt"
noncomputable def a55 : Obj := fi (.type "code") [V "rebuilt" 230, V "Var.rebuilt" 231, V "/claim/cut.py" 232, I 16 0, I 3 0, I 0 0, I 0 0, I 3 0, R 50, B true, I 181 0, R 51, N, R 52, R 53, R 54, I 236 0, I 16 0, V "/claim/cut.py" 237]
noncomputable def a56 : Obj := fO (mS 2 3) "Var.rebuilt" (V "lazycore.core" 194) (R 55)
noncomputable def a57 : Obj := tu [V "name" 239]
noncomputable def a58 (P : Params) : Obj := ob (.type "dict") none (.dict [E P "__module__" 203 (V "lazycore.core" 194), E P "__firstlineno__" 207 (I 5 206), E P "__init__" 215 (R 35), E P "groups" 222 (R 42), E P "parts" 229 (R 49), E P "rebuilt" 238 (R 56), E P "__static_attributes__" 240 (R 57), E P "__dict__" 242 (R 60), E P "__weakref__" 244 (R 61), E P "__doc__" 245 N].toArray 4) []
noncomputable def a59 : Obj := ob (.type "type") none (.cls ⟨s "Var", [.type "object"], [R 59, .type "object"], 58, s "Var", true, [], [], false, none, false⟩) [none, none, some (V "Var" 196), some (V "Var" 204), some (.builtin "object.__new__"), some (B true)]
noncomputable def a60 : Obj := fi (.type "getset_descriptor") [V "__dict__" 241, R 59, .builtin "function.__dict__", .builtin "function.__dict__#set"]
noncomputable def a61 : Obj := fi (.type "getset_descriptor") [V "__weakref__" 243, R 59, .builtin "ExceptionGroup.__weakref__", N]
noncomputable def a62 : Obj := fi (.type "super") [R 59, R 59, R 59]
noncomputable def a63 : Obj := fi (.type "builtin_function_or_method") [.builtin "object.__init_subclass__", R 59]
noncomputable def a64 : Obj := tu []
noncomputable def a65 : Obj := fi (.type "builtin_function_or_method") [.builtin "type.__prepare__", .type "type"]
noncomputable def a66 (P : Params) : Obj := ob (.type "dict") none (.dict [E P "__module__" 255 (V "lazycore.core" 194), E P "__qualname__" 257 (V "Lit" 256), E P "__firstlineno__" 259 (I 18 258), E P "__init__" 268 (R 77), E P "groups" 275 (R 84), E P "parts" 282 (R 91), E P "rebuilt" 291 (R 98), E P "__static_attributes__" 294 (R 99)].toArray 8) []
noncomputable def a67 : Obj := tu []
noncomputable def a68 : Obj := fi N [I 20 0, I 4 0, R 76, I 24 0, I 4 0, R 83, I 27 0, I 4 0, R 90, I 30 0, I 4 0, R 97]
noncomputable def a69 : Obj := fi (.type "code") [V "Lit" 250, V "Lit" 251, V "/claim/cut.py" 252, I 18 0, I 0 0, I 0 0, I 0 0, I 0 0, R 67, B false, I 181 0, R 68, N, N, N, N, I 253 0, I 18 0, V "/claim/cut.py" 254]
noncomputable def a70 : Obj := ob (.type "frame") none .plain [some (R 69), some (R 3), some (R 66), none, some (V "lazycore.core" 194), none, some (R 0)]
noncomputable def a71 : Obj := tu []
noncomputable def a72 : Obj := fi N []
noncomputable def a73 : Obj := tu [V "self" 263, V "kind" 264, V "value" 265]
noncomputable def a74 : Obj := tu []
noncomputable def a75 : Obj := rO (mS 3 0) "Lit.__init__"
noncomputable def a76 : Obj := fi (.type "code") [V "__init__" 260, V "Lit.__init__" 261, V "/claim/cut.py" 262, I 20 0, I 3 0, I 0 0, I 0 0, I 3 0, R 71, B true, I 181 0, R 72, N, R 73, R 74, R 75, I 266 0, I 20 0, V "/claim/cut.py" 267]
noncomputable def a77 : Obj := fO (mS 3 0) "Lit.__init__" (V "lazycore.core" 194) (R 76)
noncomputable def a78 : Obj := tu []
noncomputable def a79 : Obj := fi N []
noncomputable def a80 : Obj := tu [V "self" 272]
noncomputable def a81 : Obj := tu []
noncomputable def a82 : Obj := rO (mS 3 1) "Lit.groups"
noncomputable def a83 : Obj := fi (.type "code") [V "groups" 269, V "Lit.groups" 270, V "/claim/cut.py" 271, I 24 0, I 1 0, I 0 0, I 0 0, I 3 0, R 78, B true, I 181 0, R 79, N, R 80, R 81, R 82, I 273 0, I 24 0, V "/claim/cut.py" 274]
noncomputable def a84 : Obj := fO (mS 3 1) "Lit.groups" (V "lazycore.core" 194) (R 83)
noncomputable def a85 : Obj := tu []
noncomputable def a86 : Obj := fi N []
noncomputable def a87 : Obj := tu [V "self" 279]
noncomputable def a88 : Obj := tu []
noncomputable def a89 : Obj := rO (mS 3 2) "Lit.parts"
noncomputable def a90 : Obj := fi (.type "code") [V "parts" 276, V "Lit.parts" 277, V "/claim/cut.py" 278, I 27 0, I 1 0, I 0 0, I 0 0, I 3 0, R 85, B true, I 181 0, R 86, N, R 87, R 88, R 89, I 280 0, I 27 0, V "/claim/cut.py" 281]
noncomputable def a91 : Obj := fO (mS 3 2) "Lit.parts" (V "lazycore.core" 194) (R 90)
noncomputable def a92 : Obj := tu []
noncomputable def a93 : Obj := fi N []
noncomputable def a94 : Obj := tu [V "self" 286, V "groups" 287, V "parts" 288]
noncomputable def a95 : Obj := tu []
noncomputable def a96 : Obj := rO (mS 3 3) "Lit.rebuilt"
noncomputable def a97 : Obj := fi (.type "code") [V "rebuilt" 283, V "Lit.rebuilt" 284, V "/claim/cut.py" 285, I 30 0, I 3 0, I 0 0, I 0 0, I 3 0, R 92, B true, I 181 0, R 93, N, R 94, R 95, R 96, I 289 0, I 30 0, V "/claim/cut.py" 290]
noncomputable def a98 : Obj := fO (mS 3 3) "Lit.rebuilt" (V "lazycore.core" 194) (R 97)
noncomputable def a99 : Obj := tu [V "kind" 292, V "value" 293]
noncomputable def a100 (P : Params) : Obj := ob (.type "dict") none (.dict [E P "__module__" 255 (V "lazycore.core" 194), E P "__firstlineno__" 259 (I 18 258), E P "__init__" 268 (R 77), E P "groups" 275 (R 84), E P "parts" 282 (R 91), E P "rebuilt" 291 (R 98), E P "__static_attributes__" 294 (R 99), E P "__dict__" 296 (R 102), E P "__weakref__" 298 (R 103), E P "__doc__" 299 N].toArray 4) []
noncomputable def a101 : Obj := ob (.type "type") none (.cls ⟨s "Lit", [.type "object"], [R 101, .type "object"], 100, s "Lit", true, [], [], false, none, false⟩) [none, none, some (V "Lit" 248), some (V "Lit" 256), some (.builtin "object.__new__"), some (B true)]
noncomputable def a102 : Obj := fi (.type "getset_descriptor") [V "__dict__" 295, R 101, .builtin "function.__dict__", .builtin "function.__dict__#set"]
noncomputable def a103 : Obj := fi (.type "getset_descriptor") [V "__weakref__" 297, R 101, .builtin "ExceptionGroup.__weakref__", N]
noncomputable def a104 : Obj := fi (.type "super") [R 101, R 101, R 101]
noncomputable def a105 : Obj := fi (.type "builtin_function_or_method") [.builtin "object.__init_subclass__", R 101]
noncomputable def a106 : Obj := tu []
noncomputable def a107 : Obj := fi (.type "builtin_function_or_method") [.builtin "type.__prepare__", .type "type"]
noncomputable def a108 (P : Params) : Obj := ob (.type "dict") none (.dict [E P "__module__" 309 (V "lazycore.core" 194), E P "__qualname__" 311 (V "App" 310), E P "__firstlineno__" 313 (I 32 312), E P "__init__" 322 (R 119), E P "groups" 329 (R 126), E P "parts" 336 (R 133), E P "rebuilt" 345 (R 140), E P "__static_attributes__" 348 (R 141)].toArray 8) []
noncomputable def a109 : Obj := tu []
noncomputable def a110 : Obj := fi N [I 34 0, I 4 0, R 118, I 38 0, I 4 0, R 125, I 41 0, I 4 0, R 132, I 44 0, I 4 0, R 139]
noncomputable def a111 : Obj := fi (.type "code") [V "App" 304, V "App" 305, V "/claim/cut.py" 306, I 32 0, I 0 0, I 0 0, I 0 0, I 0 0, R 109, B false, I 181 0, R 110, N, N, N, N, I 307 0, I 32 0, V "/claim/cut.py" 308]
noncomputable def a112 : Obj := ob (.type "frame") none .plain [some (R 111), some (R 3), some (R 108), none, some (V "lazycore.core" 194), none, some (R 0)]
noncomputable def a113 : Obj := tu []
noncomputable def a114 : Obj := fi N []
noncomputable def a115 : Obj := tu [V "self" 317, V "fun" 318, V "args" 319]
noncomputable def a116 : Obj := tu []
noncomputable def a117 : Obj := rO (mS 4 0) "App.__init__"
noncomputable def a118 : Obj := fi (.type "code") [V "__init__" 314, V "App.__init__" 315, V "/claim/cut.py" 316, I 34 0, I 3 0, I 0 0, I 0 0, I 3 0, R 113, B true, I 181 0, R 114, N, R 115, R 116, R 117, I 320 0, I 34 0, V "/claim/cut.py" 321]
noncomputable def a119 : Obj := fO (mS 4 0) "App.__init__" (V "lazycore.core" 194) (R 118)
noncomputable def a120 : Obj := tu []
noncomputable def a121 : Obj := fi N []
noncomputable def a122 : Obj := tu [V "self" 326]
noncomputable def a123 : Obj := tu []
noncomputable def a124 : Obj := rO (mS 4 1) "App.groups"
noncomputable def a125 : Obj := fi (.type "code") [V "groups" 323, V "App.groups" 324, V "/claim/cut.py" 325, I 38 0, I 1 0, I 0 0, I 0 0, I 3 0, R 120, B true, I 181 0, R 121, N, R 122, R 123, R 124, I 327 0, I 38 0, V "/claim/cut.py" 328]
noncomputable def a126 : Obj := fO (mS 4 1) "App.groups" (V "lazycore.core" 194) (R 125)
noncomputable def a127 : Obj := tu []
noncomputable def a128 : Obj := fi N []
noncomputable def a129 : Obj := tu [V "self" 333]
noncomputable def a130 : Obj := tu []
noncomputable def a131 : Obj := rO (mS 4 2) "App.parts"
noncomputable def a132 : Obj := fi (.type "code") [V "parts" 330, V "App.parts" 331, V "/claim/cut.py" 332, I 41 0, I 1 0, I 0 0, I 0 0, I 3 0, R 127, B true, I 181 0, R 128, N, R 129, R 130, R 131, I 334 0, I 41 0, V "/claim/cut.py" 335]
noncomputable def a133 : Obj := fO (mS 4 2) "App.parts" (V "lazycore.core" 194) (R 132)
noncomputable def a134 : Obj := tu []
noncomputable def a135 : Obj := fi N []
noncomputable def a136 : Obj := tu [V "self" 340, V "groups" 341, V "parts" 342]
noncomputable def a137 : Obj := tu []
noncomputable def a138 : Obj := rO (mS 4 3) "App.rebuilt"
noncomputable def a139 : Obj := fi (.type "code") [V "rebuilt" 337, V "App.rebuilt" 338, V "/claim/cut.py" 339, I 44 0, I 3 0, I 0 0, I 0 0, I 3 0, R 134, B true, I 181 0, R 135, N, R 136, R 137, R 138, I 343 0, I 44 0, V "/claim/cut.py" 344]
noncomputable def a140 : Obj := fO (mS 4 3) "App.rebuilt" (V "lazycore.core" 194) (R 139)
noncomputable def a141 : Obj := tu [V "args" 346, V "fun" 347]
noncomputable def a142 (P : Params) : Obj := ob (.type "dict") none (.dict [E P "__module__" 309 (V "lazycore.core" 194), E P "__firstlineno__" 313 (I 32 312), E P "__init__" 322 (R 119), E P "groups" 329 (R 126), E P "parts" 336 (R 133), E P "rebuilt" 345 (R 140), E P "__static_attributes__" 348 (R 141), E P "__dict__" 350 (R 144), E P "__weakref__" 352 (R 145), E P "__doc__" 353 N].toArray 4) []
noncomputable def a143 : Obj := ob (.type "type") none (.cls ⟨s "App", [.type "object"], [R 143, .type "object"], 142, s "App", true, [], [], false, none, false⟩) [none, none, some (V "App" 302), some (V "App" 310), some (.builtin "object.__new__"), some (B true)]
noncomputable def a144 : Obj := fi (.type "getset_descriptor") [V "__dict__" 349, R 143, .builtin "function.__dict__", .builtin "function.__dict__#set"]
noncomputable def a145 : Obj := fi (.type "getset_descriptor") [V "__weakref__" 351, R 143, .builtin "ExceptionGroup.__weakref__", N]
noncomputable def a146 : Obj := fi (.type "super") [R 143, R 143, R 143]
noncomputable def a147 : Obj := fi (.type "builtin_function_or_method") [.builtin "object.__init_subclass__", R 143]
noncomputable def a148 : Obj := tu []
noncomputable def a149 : Obj := fi (.type "builtin_function_or_method") [.builtin "type.__prepare__", .type "type"]
noncomputable def a150 (P : Params) : Obj := ob (.type "dict") none (.dict [E P "__module__" 363 (V "lazycore.core" 194), E P "__qualname__" 365 (V "Lam" 364), E P "__firstlineno__" 367 (I 46 366), E P "__init__" 376 (R 161), E P "groups" 383 (R 168), E P "parts" 390 (R 175), E P "rebuilt" 399 (R 182), E P "__static_attributes__" 402 (R 183)].toArray 8) []
noncomputable def a151 : Obj := tu []
noncomputable def a152 : Obj := fi N [I 48 0, I 4 0, R 160, I 52 0, I 4 0, R 167, I 55 0, I 4 0, R 174, I 58 0, I 4 0, R 181]
noncomputable def a153 : Obj := fi (.type "code") [V "Lam" 358, V "Lam" 359, V "/claim/cut.py" 360, I 46 0, I 0 0, I 0 0, I 0 0, I 0 0, R 151, B false, I 181 0, R 152, N, N, N, N, I 361 0, I 46 0, V "/claim/cut.py" 362]
noncomputable def a154 : Obj := ob (.type "frame") none .plain [some (R 153), some (R 3), some (R 150), none, some (V "lazycore.core" 194), none, some (R 0)]
noncomputable def a155 : Obj := tu []
noncomputable def a156 : Obj := fi N []
noncomputable def a157 : Obj := tu [V "self" 371, V "params" 372, V "body" 373]
noncomputable def a158 : Obj := tu []
noncomputable def a159 : Obj := rO (mS 5 0) "Lam.__init__"
noncomputable def a160 : Obj := fi (.type "code") [V "__init__" 368, V "Lam.__init__" 369, V "/claim/cut.py" 370, I 48 0, I 3 0, I 0 0, I 0 0, I 3 0, R 155, B true, I 181 0, R 156, N, R 157, R 158, R 159, I 374 0, I 48 0, V "/claim/cut.py" 375]
noncomputable def a161 : Obj := fO (mS 5 0) "Lam.__init__" (V "lazycore.core" 194) (R 160)
noncomputable def a162 : Obj := tu []
noncomputable def a163 : Obj := fi N []
noncomputable def a164 : Obj := tu [V "self" 380]
noncomputable def a165 : Obj := tu []
noncomputable def a166 : Obj := rO (mS 5 1) "Lam.groups"
noncomputable def a167 : Obj := fi (.type "code") [V "groups" 377, V "Lam.groups" 378, V "/claim/cut.py" 379, I 52 0, I 1 0, I 0 0, I 0 0, I 3 0, R 162, B true, I 181 0, R 163, N, R 164, R 165, R 166, I 381 0, I 52 0, V "/claim/cut.py" 382]
noncomputable def a168 : Obj := fO (mS 5 1) "Lam.groups" (V "lazycore.core" 194) (R 167)
noncomputable def a169 : Obj := tu []
noncomputable def a170 : Obj := fi N []
noncomputable def a171 : Obj := tu [V "self" 387]
noncomputable def a172 : Obj := tu []
noncomputable def a173 : Obj := rO (mS 5 2) "Lam.parts"
noncomputable def a174 : Obj := fi (.type "code") [V "parts" 384, V "Lam.parts" 385, V "/claim/cut.py" 386, I 55 0, I 1 0, I 0 0, I 0 0, I 3 0, R 169, B true, I 181 0, R 170, N, R 171, R 172, R 173, I 388 0, I 55 0, V "/claim/cut.py" 389]
noncomputable def a175 : Obj := fO (mS 5 2) "Lam.parts" (V "lazycore.core" 194) (R 174)
noncomputable def a176 : Obj := tu []
noncomputable def a177 : Obj := fi N []
noncomputable def a178 : Obj := tu [V "self" 394, V "groups" 395, V "parts" 396]
noncomputable def a179 : Obj := tu []
noncomputable def a180 : Obj := rO (mS 5 3) "Lam.rebuilt"
noncomputable def a181 : Obj := fi (.type "code") [V "rebuilt" 391, V "Lam.rebuilt" 392, V "/claim/cut.py" 393, I 58 0, I 3 0, I 0 0, I 0 0, I 3 0, R 176, B true, I 181 0, R 177, N, R 178, R 179, R 180, I 397 0, I 58 0, V "/claim/cut.py" 398]
noncomputable def a182 : Obj := fO (mS 5 3) "Lam.rebuilt" (V "lazycore.core" 194) (R 181)
noncomputable def a183 : Obj := tu [V "body" 400, V "params" 401]
noncomputable def a184 (P : Params) : Obj := ob (.type "dict") none (.dict [E P "__module__" 363 (V "lazycore.core" 194), E P "__firstlineno__" 367 (I 46 366), E P "__init__" 376 (R 161), E P "groups" 383 (R 168), E P "parts" 390 (R 175), E P "rebuilt" 399 (R 182), E P "__static_attributes__" 402 (R 183), E P "__dict__" 404 (R 186), E P "__weakref__" 406 (R 187), E P "__doc__" 407 N].toArray 4) []
noncomputable def a185 : Obj := ob (.type "type") none (.cls ⟨s "Lam", [.type "object"], [R 185, .type "object"], 184, s "Lam", true, [], [], false, none, false⟩) [none, none, some (V "Lam" 356), some (V "Lam" 364), some (.builtin "object.__new__"), some (B true)]
noncomputable def a186 : Obj := fi (.type "getset_descriptor") [V "__dict__" 403, R 185, .builtin "function.__dict__", .builtin "function.__dict__#set"]
noncomputable def a187 : Obj := fi (.type "getset_descriptor") [V "__weakref__" 405, R 185, .builtin "ExceptionGroup.__weakref__", N]
noncomputable def a188 : Obj := fi (.type "super") [R 185, R 185, R 185]
noncomputable def a189 : Obj := fi (.type "builtin_function_or_method") [.builtin "object.__init_subclass__", R 185]
noncomputable def a190 : Obj := tu []
noncomputable def a191 : Obj := fi (.type "builtin_function_or_method") [.builtin "type.__prepare__", .type "type"]
noncomputable def a192 (P : Params) : Obj := ob (.type "dict") none (.dict [E P "__module__" 417 (V "lazycore.core" 194), E P "__qualname__" 419 (V "Let" 418), E P "__firstlineno__" 421 (I 60 420), E P "__init__" 431 (R 203), E P "groups" 438 (R 210), E P "parts" 445 (R 217), E P "rebuilt" 454 (R 224), E P "__static_attributes__" 458 (R 225)].toArray 8) []
noncomputable def a193 : Obj := tu []
noncomputable def a194 : Obj := fi N [I 62 0, I 4 0, R 202, I 67 0, I 4 0, R 209, I 70 0, I 4 0, R 216, I 73 0, I 4 0, R 223]
noncomputable def a195 : Obj := fi (.type "code") [V "Let" 412, V "Let" 413, V "/claim/cut.py" 414, I 60 0, I 0 0, I 0 0, I 0 0, I 0 0, R 193, B false, I 181 0, R 194, N, N, N, N, I 415 0, I 60 0, V "/claim/cut.py" 416]
noncomputable def a196 : Obj := ob (.type "frame") none .plain [some (R 195), some (R 3), some (R 192), none, some (V "lazycore.core" 194), none, some (R 0)]
noncomputable def a197 : Obj := tu []
noncomputable def a198 : Obj := fi N []
noncomputable def a199 : Obj := tu [V "self" 425, V "binds" 426, V "body" 427, V "is_rec" 428]
noncomputable def a200 : Obj := tu []
noncomputable def a201 : Obj := rO (mS 6 0) "Let.__init__"
noncomputable def a202 : Obj := fi (.type "code") [V "__init__" 422, V "Let.__init__" 423, V "/claim/cut.py" 424, I 62 0, I 4 0, I 0 0, I 0 0, I 3 0, R 197, B true, I 181 0, R 198, N, R 199, R 200, R 201, I 429 0, I 62 0, V "/claim/cut.py" 430]
noncomputable def a203 : Obj := fO (mS 6 0) "Let.__init__" (V "lazycore.core" 194) (R 202)
noncomputable def a204 : Obj := tu []
noncomputable def a205 : Obj := fi N []
noncomputable def a206 : Obj := tu [V "self" 435]
noncomputable def a207 : Obj := tu []
noncomputable def a208 : Obj := rO (mS 6 1) "Let.groups"
noncomputable def a209 : Obj := fi (.type "code") [V "groups" 432, V "Let.groups" 433, V "/claim/cut.py" 434, I 67 0, I 1 0, I 0 0, I 0 0, I 3 0, R 204, B true, I 181 0, R 205, N, R 206, R 207, R 208, I 436 0, I 67 0, V "/claim/cut.py" 437]
noncomputable def a210 : Obj := fO (mS 6 1) "Let.groups" (V "lazycore.core" 194) (R 209)
noncomputable def a211 : Obj := tu []
noncomputable def a212 : Obj := fi N []
noncomputable def a213 : Obj := tu [V "self" 442]
noncomputable def a214 : Obj := tu []
noncomputable def a215 : Obj := rO (mS 6 2) "Let.parts"
noncomputable def a216 : Obj := fi (.type "code") [V "parts" 439, V "Let.parts" 440, V "/claim/cut.py" 441, I 70 0, I 1 0, I 0 0, I 0 0, I 3 0, R 211, B true, I 181 0, R 212, N, R 213, R 214, R 215, I 443 0, I 70 0, V "/claim/cut.py" 444]
noncomputable def a217 : Obj := fO (mS 6 2) "Let.parts" (V "lazycore.core" 194) (R 216)
noncomputable def a218 : Obj := tu []
noncomputable def a219 : Obj := fi N []
noncomputable def a220 : Obj := tu [V "self" 449, V "groups" 450, V "parts" 451]
noncomputable def a221 : Obj := tu []
noncomputable def a222 : Obj := rO (mS 6 3) "Let.rebuilt"
noncomputable def a223 : Obj := fi (.type "code") [V "rebuilt" 446, V "Let.rebuilt" 447, V "/claim/cut.py" 448, I 73 0, I 3 0, I 0 0, I 0 0, I 3 0, R 218, B true, I 181 0, R 219, N, R 220, R 221, R 222, I 452 0, I 73 0, V "/claim/cut.py" 453]
noncomputable def a224 : Obj := fO (mS 6 3) "Let.rebuilt" (V "lazycore.core" 194) (R 223)
noncomputable def a225 : Obj := tu [V "binds" 455, V "body" 456, V "is_rec" 457]
noncomputable def a226 (P : Params) : Obj := ob (.type "dict") none (.dict [E P "__module__" 417 (V "lazycore.core" 194), E P "__firstlineno__" 421 (I 60 420), E P "__init__" 431 (R 203), E P "groups" 438 (R 210), E P "parts" 445 (R 217), E P "rebuilt" 454 (R 224), E P "__static_attributes__" 458 (R 225), E P "__dict__" 460 (R 228), E P "__weakref__" 462 (R 229), E P "__doc__" 463 N].toArray 4) []
noncomputable def a227 : Obj := ob (.type "type") none (.cls ⟨s "Let", [.type "object"], [R 227, .type "object"], 226, s "Let", true, [], [], false, none, false⟩) [none, none, some (V "Let" 410), some (V "Let" 418), some (.builtin "object.__new__"), some (B true)]
noncomputable def a228 : Obj := fi (.type "getset_descriptor") [V "__dict__" 459, R 227, .builtin "function.__dict__", .builtin "function.__dict__#set"]
noncomputable def a229 : Obj := fi (.type "getset_descriptor") [V "__weakref__" 461, R 227, .builtin "ExceptionGroup.__weakref__", N]
noncomputable def a230 : Obj := fi (.type "super") [R 227, R 227, R 227]
noncomputable def a231 : Obj := fi (.type "builtin_function_or_method") [.builtin "object.__init_subclass__", R 227]
noncomputable def a232 : Obj := tu []
noncomputable def a233 : Obj := fi (.type "builtin_function_or_method") [.builtin "type.__prepare__", .type "type"]
noncomputable def a234 (P : Params) : Obj := ob (.type "dict") none (.dict [E P "__module__" 473 (V "lazycore.core" 194), E P "__qualname__" 475 (V "Alt" 474), E P "__firstlineno__" 477 (I 75 476), E P "__init__" 487 (R 245), E P "__static_attributes__" 491 (R 246)].toArray 5) []
noncomputable def a235 : Obj := tu []
noncomputable def a236 : Obj := fi N [I 77 0, I 4 0, R 244]
noncomputable def a237 : Obj := fi (.type "code") [V "Alt" 468, V "Alt" 469, V "/claim/cut.py" 470, I 75 0, I 0 0, I 0 0, I 0 0, I 0 0, R 235, B false, I 181 0, R 236, N, N, N, N, I 471 0, I 75 0, V "/claim/cut.py" 472]
noncomputable def a238 : Obj := ob (.type "frame") none .plain [some (R 237), some (R 3), some (R 234), none, some (V "lazycore.core" 194), none, some (R 0)]
noncomputable def a239 : Obj := tu []
noncomputable def a240 : Obj := fi N []
noncomputable def a241 : Obj := tu [V "self" 481, V "key" 482, V "names" 483, V "body" 484]
noncomputable def a242 : Obj := tu []
noncomputable def a243 : Obj := rO (mS 7 0) "Alt.__init__"
noncomputable def a244 : Obj := fi (.type "code") [V "__init__" 478, V "Alt.__init__" 479, V "/claim/cut.py" 480, I 77 0, I 4 0, I 0 0, I 0 0, I 3 0, R 239, B true, I 181 0, R 240, N, R 241, R 242, R 243, I 485 0, I 77 0, V "/claim/cut.py" 486]
noncomputable def a245 : Obj := fO (mS 7 0) "Alt.__init__" (V "lazycore.core" 194) (R 244)
noncomputable def a246 : Obj := tu [V "body" 488, V "key" 489, V "names" 490]
noncomputable def a247 (P : Params) : Obj := ob (.type "dict") none (.dict [E P "__module__" 473 (V "lazycore.core" 194), E P "__firstlineno__" 477 (I 75 476), E P "__init__" 487 (R 245), E P "__static_attributes__" 491 (R 246), E P "__dict__" 493 (R 249), E P "__weakref__" 495 (R 250), E P "__doc__" 496 N].toArray 4) []
noncomputable def a248 : Obj := ob (.type "type") none (.cls ⟨s "Alt", [.type "object"], [R 248, .type "object"], 247, s "Alt", true, [], [], false, none, false⟩) [none, none, some (V "Alt" 466), some (V "Alt" 474), some (.builtin "object.__new__"), some (B true)]
noncomputable def a249 : Obj := fi (.type "getset_descriptor") [V "__dict__" 492, R 248, .builtin "function.__dict__", .builtin "function.__dict__#set"]
noncomputable def a250 : Obj := fi (.type "getset_descriptor") [V "__weakref__" 494, R 248, .builtin "ExceptionGroup.__weakref__", N]
noncomputable def a251 : Obj := fi (.type "super") [R 248, R 248, R 248]
noncomputable def a252 : Obj := fi (.type "builtin_function_or_method") [.builtin "object.__init_subclass__", R 248]
noncomputable def a253 : Obj := tu []
noncomputable def a254 : Obj := fi (.type "builtin_function_or_method") [.builtin "type.__prepare__", .type "type"]
noncomputable def a255 (P : Params) : Obj := ob (.type "dict") none (.dict [E P "__module__" 506 (V "lazycore.core" 194), E P "__qualname__" 508 (V "Case" 507), E P "__firstlineno__" 510 (I 81 509), E P "__init__" 521 (R 266), E P "groups" 528 (R 273), E P "parts" 535 (R 280), E P "rebuilt" 544 (R 287), E P "__static_attributes__" 549 (R 288)].toArray 8) []
noncomputable def a256 : Obj := tu []
noncomputable def a257 : Obj := fi N [I 83 0, I 4 0, R 265, I 89 0, I 4 0, R 272, I 92 0, I 4 0, R 279, I 95 0, I 4 0, R 286]
noncomputable def a258 : Obj := fi (.type "code") [V "Case" 501, V "Case" 502, V "/claim/cut.py" 503, I 81 0, I 0 0, I 0 0, I 0 0, I 0 0, R 256, B false, I 181 0, R 257, N, N, N, N, I 504 0, I 81 0, V "/claim/cut.py" 505]
noncomputable def a259 : Obj := ob (.type "frame") none .plain [some (R 258), some (R 3), some (R 255), none, some (V "lazycore.core" 194), none, some (R 0)]
noncomputable def a260 : Obj := tu []
noncomputable def a261 : Obj := fi N []
noncomputable def a262 : Obj := tu [V "self" 514, V "value" 515, V "name" 516, V "alts" 517, V "other" 518]
noncomputable def a263 : Obj := tu []
noncomputable def a264 : Obj := rO (mS 8 0) "Case.__init__"
noncomputable def a265 : Obj := fi (.type "code") [V "__init__" 511, V "Case.__init__" 512, V "/claim/cut.py" 513, I 83 0, I 5 0, I 0 0, I 0 0, I 3 0, R 260, B true, I 181 0, R 261, N, R 262, R 263, R 264, I 519 0, I 83 0, V "/claim/cut.py" 520]
noncomputable def a266 : Obj := fO (mS 8 0) "Case.__init__" (V "lazycore.core" 194) (R 265)
noncomputable def a267 : Obj := tu []
noncomputable def a268 : Obj := fi N []
noncomputable def a269 : Obj := tu [V "self" 525]
noncomputable def a270 : Obj := tu []
noncomputable def a271 : Obj := rO (mS 8 1) "Case.groups"
noncomputable def a272 : Obj := fi (.type "code") [V "groups" 522, V "Case.groups" 523, V "/claim/cut.py" 524, I 89 0, I 1 0, I 0 0, I 0 0, I 3 0, R 267, B true, I 181 0, R 268, N, R 269, R 270, R 271, I 526 0, I 89 0, V "/claim/cut.py" 527]
noncomputable def a273 : Obj := fO (mS 8 1) "Case.groups" (V "lazycore.core" 194) (R 272)
noncomputable def a274 : Obj := tu []
noncomputable def a275 : Obj := fi N []
noncomputable def a276 : Obj := tu [V "self" 532]
noncomputable def a277 : Obj := tu []
noncomputable def a278 : Obj := rO (mS 8 2) "Case.parts"
noncomputable def a279 : Obj := fi (.type "code") [V "parts" 529, V "Case.parts" 530, V "/claim/cut.py" 531, I 92 0, I 1 0, I 0 0, I 0 0, I 3 0, R 274, B true, I 181 0, R 275, N, R 276, R 277, R 278, I 533 0, I 92 0, V "/claim/cut.py" 534]
noncomputable def a280 : Obj := fO (mS 8 2) "Case.parts" (V "lazycore.core" 194) (R 279)
noncomputable def a281 : Obj := tu []
noncomputable def a282 : Obj := fi N []
noncomputable def a283 : Obj := tu [V "self" 539, V "groups" 540, V "parts" 541]
noncomputable def a284 : Obj := tu []
noncomputable def a285 : Obj := rO (mS 8 3) "Case.rebuilt"
noncomputable def a286 : Obj := fi (.type "code") [V "rebuilt" 536, V "Case.rebuilt" 537, V "/claim/cut.py" 538, I 95 0, I 3 0, I 0 0, I 0 0, I 3 0, R 281, B true, I 181 0, R 282, N, R 283, R 284, R 285, I 542 0, I 95 0, V "/claim/cut.py" 543]
noncomputable def a287 : Obj := fO (mS 8 3) "Case.rebuilt" (V "lazycore.core" 194) (R 286)
noncomputable def a288 : Obj := tu [V "alts" 545, V "name" 546, V "other" 547, V "value" 548]
noncomputable def a289 (P : Params) : Obj := ob (.type "dict") none (.dict [E P "__module__" 506 (V "lazycore.core" 194), E P "__firstlineno__" 510 (I 81 509), E P "__init__" 521 (R 266), E P "groups" 528 (R 273), E P "parts" 535 (R 280), E P "rebuilt" 544 (R 287), E P "__static_attributes__" 549 (R 288), E P "__dict__" 551 (R 291), E P "__weakref__" 553 (R 292), E P "__doc__" 554 N].toArray 4) []
noncomputable def a290 : Obj := ob (.type "type") none (.cls ⟨s "Case", [.type "object"], [R 290, .type "object"], 289, s "Case", true, [], [], false, none, false⟩) [none, none, some (V "Case" 499), some (V "Case" 507), some (.builtin "object.__new__"), some (B true)]
noncomputable def a291 : Obj := fi (.type "getset_descriptor") [V "__dict__" 550, R 290, .builtin "function.__dict__", .builtin "function.__dict__#set"]
noncomputable def a292 : Obj := fi (.type "getset_descriptor") [V "__weakref__" 552, R 290, .builtin "ExceptionGroup.__weakref__", N]
noncomputable def a293 : Obj := fi (.type "super") [R 290, R 290, R 290]
noncomputable def a294 : Obj := fi (.type "builtin_function_or_method") [.builtin "object.__init_subclass__", R 290]
noncomputable def a295 : Obj := tu []
noncomputable def a296 : Obj := fi (.type "builtin_function_or_method") [.builtin "type.__prepare__", .type "type"]
noncomputable def a297 (P : Params) : Obj := ob (.type "dict") none (.dict [E P "__module__" 564 (V "lazycore.core" 194), E P "__qualname__" 566 (V "Con" 565), E P "__firstlineno__" 568 (I 97 567), E P "__init__" 577 (R 308), E P "groups" 584 (R 315), E P "parts" 591 (R 322), E P "rebuilt" 600 (R 329), E P "__static_attributes__" 603 (R 330)].toArray 8) []
noncomputable def a298 : Obj := tu []
noncomputable def a299 : Obj := fi N [I 99 0, I 4 0, R 307, I 103 0, I 4 0, R 314, I 106 0, I 4 0, R 321, I 109 0, I 4 0, R 328]
noncomputable def a300 : Obj := fi (.type "code") [V "Con" 559, V "Con" 560, V "/claim/cut.py" 561, I 97 0, I 0 0, I 0 0, I 0 0, I 0 0, R 298, B false, I 181 0, R 299, N, N, N, N, I 562 0, I 97 0, V "/claim/cut.py" 563]
noncomputable def a301 : Obj := ob (.type "frame") none .plain [some (R 300), some (R 3), some (R 297), none, some (V "lazycore.core" 194), none, some (R 0)]
noncomputable def a302 : Obj := tu []
noncomputable def a303 : Obj := fi N []
noncomputable def a304 : Obj := tu [V "self" 572, V "name" 573, V "args" 574]
noncomputable def a305 : Obj := tu []
noncomputable def a306 : Obj := rO (mS 9 0) "Con.__init__"
noncomputable def a307 : Obj := fi (.type "code") [V "__init__" 569, V "Con.__init__" 570, V "/claim/cut.py" 571, I 99 0, I 3 0, I 0 0, I 0 0, I 3 0, R 302, B true, I 181 0, R 303, N, R 304, R 305, R 306, I 575 0, I 99 0, V "/claim/cut.py" 576]
noncomputable def a308 : Obj := fO (mS 9 0) "Con.__init__" (V "lazycore.core" 194) (R 307)
noncomputable def a309 : Obj := tu []
noncomputable def a310 : Obj := fi N []
noncomputable def a311 : Obj := tu [V "self" 581]
noncomputable def a312 : Obj := tu []
noncomputable def a313 : Obj := rO (mS 9 1) "Con.groups"
noncomputable def a314 : Obj := fi (.type "code") [V "groups" 578, V "Con.groups" 579, V "/claim/cut.py" 580, I 103 0, I 1 0, I 0 0, I 0 0, I 3 0, R 309, B true, I 181 0, R 310, N, R 311, R 312, R 313, I 582 0, I 103 0, V "/claim/cut.py" 583]
noncomputable def a315 : Obj := fO (mS 9 1) "Con.groups" (V "lazycore.core" 194) (R 314)
noncomputable def a316 : Obj := tu []
noncomputable def a317 : Obj := fi N []
noncomputable def a318 : Obj := tu [V "self" 588]
noncomputable def a319 : Obj := tu []
noncomputable def a320 : Obj := rO (mS 9 2) "Con.parts"
noncomputable def a321 : Obj := fi (.type "code") [V "parts" 585, V "Con.parts" 586, V "/claim/cut.py" 587, I 106 0, I 1 0, I 0 0, I 0 0, I 3 0, R 316, B true, I 181 0, R 317, N, R 318, R 319, R 320, I 589 0, I 106 0, V "/claim/cut.py" 590]
noncomputable def a322 : Obj := fO (mS 9 2) "Con.parts" (V "lazycore.core" 194) (R 321)
noncomputable def a323 : Obj := tu []
noncomputable def a324 : Obj := fi N []
noncomputable def a325 : Obj := tu [V "self" 595, V "groups" 596, V "parts" 597]
noncomputable def a326 : Obj := tu []
noncomputable def a327 : Obj := rO (mS 9 3) "Con.rebuilt"
noncomputable def a328 : Obj := fi (.type "code") [V "rebuilt" 592, V "Con.rebuilt" 593, V "/claim/cut.py" 594, I 109 0, I 3 0, I 0 0, I 0 0, I 3 0, R 323, B true, I 181 0, R 324, N, R 325, R 326, R 327, I 598 0, I 109 0, V "/claim/cut.py" 599]
noncomputable def a329 : Obj := fO (mS 9 3) "Con.rebuilt" (V "lazycore.core" 194) (R 328)
noncomputable def a330 : Obj := tu [V "args" 601, V "name" 602]
noncomputable def a331 (P : Params) : Obj := ob (.type "dict") none (.dict [E P "__module__" 564 (V "lazycore.core" 194), E P "__firstlineno__" 568 (I 97 567), E P "__init__" 577 (R 308), E P "groups" 584 (R 315), E P "parts" 591 (R 322), E P "rebuilt" 600 (R 329), E P "__static_attributes__" 603 (R 330), E P "__dict__" 605 (R 333), E P "__weakref__" 607 (R 334), E P "__doc__" 608 N].toArray 4) []
noncomputable def a332 : Obj := ob (.type "type") none (.cls ⟨s "Con", [.type "object"], [R 332, .type "object"], 331, s "Con", true, [], [], false, none, false⟩) [none, none, some (V "Con" 557), some (V "Con" 565), some (.builtin "object.__new__"), some (B true)]
noncomputable def a333 : Obj := fi (.type "getset_descriptor") [V "__dict__" 604, R 332, .builtin "function.__dict__", .builtin "function.__dict__#set"]
noncomputable def a334 : Obj := fi (.type "getset_descriptor") [V "__weakref__" 606, R 332, .builtin "ExceptionGroup.__weakref__", N]
noncomputable def a335 : Obj := fi (.type "super") [R 332, R 332, R 332]
noncomputable def a336 : Obj := fi (.type "builtin_function_or_method") [.builtin "object.__init_subclass__", R 332]
noncomputable def a337 : Obj := tu []
noncomputable def a338 : Obj := fi (.type "builtin_function_or_method") [.builtin "type.__prepare__", .type "type"]
noncomputable def a339 (P : Params) : Obj := ob (.type "dict") none (.dict [E P "__module__" 618 (V "lazycore.core" 194), E P "__qualname__" 620 (V "Prim" 619), E P "__firstlineno__" 622 (I 111 621), E P "__init__" 631 (R 350), E P "groups" 638 (R 357), E P "parts" 645 (R 364), E P "rebuilt" 654 (R 371), E P "__static_attributes__" 657 (R 372)].toArray 8) []
noncomputable def a340 : Obj := tu []
noncomputable def a341 : Obj := fi N [I 113 0, I 4 0, R 349, I 117 0, I 4 0, R 356, I 120 0, I 4 0, R 363, I 123 0, I 4 0, R 370]
noncomputable def a342 : Obj := fi (.type "code") [V "Prim" 613, V "Prim" 614, V "/claim/cut.py" 615, I 111 0, I 0 0, I 0 0, I 0 0, I 0 0, R 340, B false, I 181 0, R 341, N, N, N, N, I 616 0, I 111 0, V "/claim/cut.py" 617]
noncomputable def a343 : Obj := ob (.type "frame") none .plain [some (R 342), some (R 3), some (R 339), none, some (V "lazycore.core" 194), none, some (R 0)]
noncomputable def a344 : Obj := tu []
noncomputable def a345 : Obj := fi N []
noncomputable def a346 : Obj := tu [V "self" 626, V "op" 627, V "args" 628]
noncomputable def a347 : Obj := tu []
noncomputable def a348 : Obj := rO (mS 10 0) "Prim.__init__"
noncomputable def a349 : Obj := fi (.type "code") [V "__init__" 623, V "Prim.__init__" 624, V "/claim/cut.py" 625, I 113 0, I 3 0, I 0 0, I 0 0, I 3 0, R 344, B true, I 181 0, R 345, N, R 346, R 347, R 348, I 629 0, I 113 0, V "/claim/cut.py" 630]
noncomputable def a350 : Obj := fO (mS 10 0) "Prim.__init__" (V "lazycore.core" 194) (R 349)
noncomputable def a351 : Obj := tu []
noncomputable def a352 : Obj := fi N []
noncomputable def a353 : Obj := tu [V "self" 635]
noncomputable def a354 : Obj := tu []
noncomputable def a355 : Obj := rO (mS 10 1) "Prim.groups"
noncomputable def a356 : Obj := fi (.type "code") [V "groups" 632, V "Prim.groups" 633, V "/claim/cut.py" 634, I 117 0, I 1 0, I 0 0, I 0 0, I 3 0, R 351, B true, I 181 0, R 352, N, R 353, R 354, R 355, I 636 0, I 117 0, V "/claim/cut.py" 637]
noncomputable def a357 : Obj := fO (mS 10 1) "Prim.groups" (V "lazycore.core" 194) (R 356)
noncomputable def a358 : Obj := tu []
noncomputable def a359 : Obj := fi N []
noncomputable def a360 : Obj := tu [V "self" 642]
noncomputable def a361 : Obj := tu []
noncomputable def a362 : Obj := rO (mS 10 2) "Prim.parts"
noncomputable def a363 : Obj := fi (.type "code") [V "parts" 639, V "Prim.parts" 640, V "/claim/cut.py" 641, I 120 0, I 1 0, I 0 0, I 0 0, I 3 0, R 358, B true, I 181 0, R 359, N, R 360, R 361, R 362, I 643 0, I 120 0, V "/claim/cut.py" 644]
noncomputable def a364 : Obj := fO (mS 10 2) "Prim.parts" (V "lazycore.core" 194) (R 363)
noncomputable def a365 : Obj := tu []
noncomputable def a366 : Obj := fi N []
noncomputable def a367 : Obj := tu [V "self" 649, V "groups" 650, V "parts" 651]
noncomputable def a368 : Obj := tu []
noncomputable def a369 : Obj := rO (mS 10 3) "Prim.rebuilt"
noncomputable def a370 : Obj := fi (.type "code") [V "rebuilt" 646, V "Prim.rebuilt" 647, V "/claim/cut.py" 648, I 123 0, I 3 0, I 0 0, I 0 0, I 3 0, R 365, B true, I 181 0, R 366, N, R 367, R 368, R 369, I 652 0, I 123 0, V "/claim/cut.py" 653]
noncomputable def a371 : Obj := fO (mS 10 3) "Prim.rebuilt" (V "lazycore.core" 194) (R 370)
noncomputable def a372 : Obj := tu [V "args" 655, V "op" 656]
noncomputable def a373 (P : Params) : Obj := ob (.type "dict") none (.dict [E P "__module__" 618 (V "lazycore.core" 194), E P "__firstlineno__" 622 (I 111 621), E P "__init__" 631 (R 350), E P "groups" 638 (R 357), E P "parts" 645 (R 364), E P "rebuilt" 654 (R 371), E P "__static_attributes__" 657 (R 372), E P "__dict__" 659 (R 375), E P "__weakref__" 661 (R 376), E P "__doc__" 662 N].toArray 4) []
noncomputable def a374 : Obj := ob (.type "type") none (.cls ⟨s "Prim", [.type "object"], [R 374, .type "object"], 373, s "Prim", true, [], [], false, none, false⟩) [none, none, some (V "Prim" 611), some (V "Prim" 619), some (.builtin "object.__new__"), some (B true)]
noncomputable def a375 : Obj := fi (.type "getset_descriptor") [V "__dict__" 658, R 374, .builtin "function.__dict__", .builtin "function.__dict__#set"]
noncomputable def a376 : Obj := fi (.type "getset_descriptor") [V "__weakref__" 660, R 374, .builtin "ExceptionGroup.__weakref__", N]
noncomputable def a377 : Obj := fi (.type "super") [R 374, R 374, R 374]
noncomputable def a378 : Obj := fi (.type "builtin_function_or_method") [.builtin "object.__init_subclass__", R 374]
noncomputable def a379 : Obj := tu []
noncomputable def a380 : Obj := fi (.type "builtin_function_or_method") [.builtin "type.__prepare__", .type "type"]
noncomputable def a381 (P : Params) : Obj := ob (.type "dict") none (.dict [E P "__module__" 674 (V "lazycore.demand" 665), E P "__qualname__" 676 (V "Signature" 675), E P "__firstlineno__" 678 (I 126 677), E P "__init__" 688 (R 392), E P "row" 695 (R 399), E P "__static_attributes__" 699 (R 400)].toArray 6) []
noncomputable def a382 : Obj := tu []
noncomputable def a383 : Obj := fi N [I 128 0, I 4 0, R 391, I 133 0, I 4 0, R 398]
noncomputable def a384 : Obj := fi (.type "code") [V "Signature" 669, V "Signature" 670, V "/claim/cut.py" 671, I 126 0, I 0 0, I 0 0, I 0 0, I 0 0, R 382, B false, I 181 0, R 383, N, N, N, N, I 672 0, I 126 0, V "/claim/cut.py" 673]
noncomputable def a385 : Obj := ob (.type "frame") none .plain [some (R 384), some (R 3), some (R 381), none, some (V "lazycore.demand" 665), none, some (R 0)]
noncomputable def a386 : Obj := tu []
noncomputable def a387 : Obj := fi N []
noncomputable def a388 : Obj := tu [V "self" 682, V "flags" 683, V "free" 684, V "diverges" 685]
noncomputable def a389 : Obj := tu []
noncomputable def a390 : Obj := rO (mS 12 0) "Signature.__init__"
noncomputable def a391 : Obj := fi (.type "code") [V "__init__" 679, V "Signature.__init__" 680, V "/claim/cut.py" 681, I 128 0, I 4 0, I 0 0, I 0 0, I 3 0, R 386, B true, I 181 0, R 387, N, R 388, R 389, R 390, I 686 0, I 128 0, V "/claim/cut.py" 687]
noncomputable def a392 : Obj := fO (mS 12 0) "Signature.__init__" (V "lazycore.demand" 665) (R 391)
noncomputable def a393 : Obj := tu []
noncomputable def a394 : Obj := fi N []
noncomputable def a395 : Obj := tu [V "self" 692]
noncomputable def a396 : Obj := tu []
noncomputable def a397 : Obj := rO (mS 12 1) "Signature.row"
noncomputable def a398 : Obj := fi (.type "code") [V "row" 689, V "Signature.row" 690, V "/claim/cut.py" 691, I 133 0, I 1 0, I 0 0, I 0 0, I 3 0, R 393, B true, I 181 0, R 394, N, R 395, R 396, R 397, I 693 0, I 133 0, V "/claim/cut.py" 694]
noncomputable def a399 : Obj := fO (mS 12 1) "Signature.row" (V "lazycore.demand" 665) (R 398)
noncomputable def a400 : Obj := tu [V "diverges" 696, V "flags" 697, V "free" 698]
noncomputable def a401 (P : Params) : Obj := ob (.type "dict") none (.dict [E P "__module__" 674 (V "lazycore.demand" 665), E P "__firstlineno__" 678 (I 126 677), E P "__init__" 688 (R 392), E P "row" 695 (R 399), E P "__static_attributes__" 699 (R 400), E P "__dict__" 701 (R 403), E P "__weakref__" 703 (R 404), E P "__doc__" 704 N].toArray 4) []
noncomputable def a402 : Obj := ob (.type "type") none (.cls ⟨s "Signature", [.type "object"], [R 402, .type "object"], 401, s "Signature", true, [], [], false, none, false⟩) [none, none, some (V "Signature" 667), some (V "Signature" 675), some (.builtin "object.__new__"), some (B true)]
noncomputable def a403 : Obj := fi (.type "getset_descriptor") [V "__dict__" 700, R 402, .builtin "function.__dict__", .builtin "function.__dict__#set"]
noncomputable def a404 : Obj := fi (.type "getset_descriptor") [V "__weakref__" 702, R 402, .builtin "ExceptionGroup.__weakref__", N]
noncomputable def a405 : Obj := fi (.type "super") [R 402, R 402, R 402]
noncomputable def a406 : Obj := fi (.type "builtin_function_or_method") [.builtin "object.__init_subclass__", R 402]
noncomputable def a407 : Obj := tu []
noncomputable def a408 : Obj := fi N []
noncomputable def a409 : Obj := tu [V "many" 710]
noncomputable def a410 : Obj := tu []
noncomputable def a411 : Obj := rO (tS 13) "hopeful"
noncomputable def a412 : Obj := fi (.type "code") [V "hopeful" 707, V "hopeful" 708, V "/claim/cut.py" 709, I 135 0, I 1 0, I 0 0, I 0 0, I 3 0, R 407, B true, I 181 0, R 408, N, R 409, R 410, R 411, I 711 0, I 135 0, V "/claim/cut.py" 712]
noncomputable def a413 : Obj := fO (tS 13) "hopeful" (V "lazycore.demand" 665) (R 412)
noncomputable def a414 : Obj := tu []
noncomputable def a415 : Obj := fi N []
noncomputable def a416 : Obj := tu [V "one" 717, V "other" 718, V "found" 719]
noncomputable def a417 : Obj := tu []
noncomputable def a418 : Obj := rO (tS 14) "both"
noncomputable def a419 : Obj := fi (.type "code") [V "both" 714, V "both" 715, V "/claim/cut.py" 716, I 137 0, I 2 0, I 0 0, I 0 0, I 3 0, R 414, B true, I 181 0, R 415, N, R 416, R 417, R 418, I 720 0, I 137 0, V "/claim/cut.py" 721]
noncomputable def a420 : Obj := fO (tS 14) "both" (V "lazycore.demand" 665) (R 419)
noncomputable def a421 : Obj := tu []
noncomputable def a422 : Obj := fi N []
noncomputable def a423 : Obj := rO (tS 15) "either"
noncomputable def a424 : Obj := fi (.type "code") [V "either" 723, V "either" 724, V "/claim/cut.py" 725, I 143 0, I 1 0, I 0 0, I 0 0, I 3 0, R 421, B true, I 181 0, R 422, N, N, N, R 423, I 726 0, I 143 0, V "/claim/cut.py" 727]
noncomputable def a425 : Obj := fO (tS 15) "either" (V "lazycore.demand" 665) (R 424)
noncomputable def a426 : Obj := tu []
noncomputable def a427 : Obj := fi N []
noncomputable def a428 : Obj := rO (tS 16) "without"
noncomputable def a429 : Obj := fi (.type "code") [V "without" 729, V "without" 730, V "/claim/cut.py" 731, I 149 0, I 2 0, I 0 0, I 0 0, I 3 0, R 426, B true, I 181 0, R 427, N, N, N, R 428, I 732 0, I 149 0, V "/claim/cut.py" 733]
noncomputable def a430 : Obj := fO (tS 16) "without" (V "lazycore.demand" 665) (R 429)
noncomputable def a431 : Obj := tu []
noncomputable def a432 : Obj := fi N []
noncomputable def a433 : Obj := tu [V "env" 738, V "more" 739, V "found" 740]
noncomputable def a434 : Obj := tu []
noncomputable def a435 : Obj := rO (tS 17) "extended"
noncomputable def a436 : Obj := fi (.type "code") [V "extended" 735, V "extended" 736, V "/claim/cut.py" 737, I 153 0, I 2 0, I 0 0, I 0 0, I 3 0, R 431, B true, I 181 0, R 432, N, R 433, R 434, R 435, I 741 0, I 153 0, V "/claim/cut.py" 742]
noncomputable def a437 : Obj := fO (tS 17) "extended" (V "lazycore.demand" 665) (R 436)
noncomputable def a438 : Obj := tu []
noncomputable def a439 : Obj := fi N []
noncomputable def a440 : Obj := tu [V "expr" 747, V "env" 748]
noncomputable def a441 : Obj := tu []
noncomputable def a442 : Obj := rO (tS 18) "needed"
noncomputable def a443 : Obj := fi (.type "code") [V "needed" 744, V "needed" 745, V "/claim/cut.py" 746, I 157 0, I 2 0, I 0 0, I 0 0, I 3 0, R 438, B true, I 181 0, R 439, N, R 440, R 441, R 442, I 749 0, I 157 0, V "/claim/cut.py" 750]
noncomputable def a444 : Obj := fO (tS 18) "needed" (V "lazycore.demand" 665) (R 443)
noncomputable def a445 : Obj := tu []
noncomputable def a446 : Obj := fi N []
noncomputable def a447 : Obj := tu [V "expr" 755, V "env" 756, V "found" 757, V "arg" 758]
noncomputable def a448 : Obj := tu []
noncomputable def a449 : Obj := rO (tS 19) "prim_needs"
noncomputable def a450 : Obj := fi (.type "code") [V "prim_needs" 752, V "prim_needs" 753, V "/claim/cut.py" 754, I 169 0, I 2 0, I 0 0, I 0 0, I 3 0, R 445, B true, I 181 0, R 446, N, R 447, R 448, R 449, I 759 0, I 169 0, V "/claim/cut.py" 760]
noncomputable def a451 : Obj := fO (tS 19) "prim_needs" (V "lazycore.demand" 665) (R 450)
noncomputable def a452 : Obj := tu []
noncomputable def a453 : Obj := fi N []
noncomputable def a454 : Obj := tu [V "expr" 765, V "env" 766, V "found" 767, V "known" 768, V "flag" 769, V "arg" 770]
noncomputable def a455 : Obj := tu []
noncomputable def a456 : Obj := rO (tS 20) "call_needs"
noncomputable def a457 : Obj := fi (.type "code") [V "call_needs" 762, V "call_needs" 763, V "/claim/cut.py" 764, I 176 0, I 2 0, I 0 0, I 0 0, I 3 0, R 452, B true, I 181 0, R 453, N, R 454, R 455, R 456, I 771 0, I 176 0, V "/claim/cut.py" 772]
noncomputable def a458 : Obj := fO (tS 20) "call_needs" (V "lazycore.demand" 665) (R 457)
noncomputable def a459 : Obj := tu []
noncomputable def a460 : Obj := fi N []
noncomputable def a461 : Obj := tu [V "expr" 777, V "env" 778, V "lots" 779, V "alt" 780]
noncomputable def a462 : Obj := tu []
noncomputable def a463 : Obj := rO (tS 21) "case_needs"
noncomputable def a464 : Obj := fi (.type "code") [V "case_needs" 774, V "case_needs" 775, V "/claim/cut.py" 776, I 192 0, I 2 0, I 0 0, I 0 0, I 3 0, R 459, B true, I 181 0, R 460, N, R 461, R 462, R 463, I 781 0, I 192 0, V "/claim/cut.py" 782]
noncomputable def a465 : Obj := fO (tS 21) "case_needs" (V "lazycore.demand" 665) (R 464)
noncomputable def a466 : Obj := tu []
noncomputable def a467 : Obj := fi N []
noncomputable def a468 : Obj := rO (tS 22) "signature_of"
noncomputable def a469 : Obj := fi (.type "code") [V "signature_of" 784, V "signature_of" 785, V "/claim/cut.py" 786, I 199 0, I 2 0, I 0 0, I 0 0, I 3 0, R 466, B true, I 181 0, R 467, N, N, N, R 468, I 787 0, I 199 0, V "/claim/cut.py" 788]
noncomputable def a470 : Obj := fO (tS 22) "signature_of" (V "lazycore.demand" 665) (R 469)
noncomputable def a471 : Obj := tu []
noncomputable def a472 : Obj := fi N []
noncomputable def a473 : Obj := rO (tS 23) "functions_in"
noncomputable def a474 : Obj := fi (.type "code") [V "functions_in" 790, V "functions_in" 791, V "/claim/cut.py" 792, I 205 0, I 1 0, I 0 0, I 0 0, I 3 0, R 471, B true, I 181 0, R 472, N, N, N, R 473, I 793 0, I 205 0, V "/claim/cut.py" 794]
noncomputable def a475 : Obj := fO (tS 23) "functions_in" (V "lazycore.demand" 665) (R 474)
noncomputable def a476 : Obj := tu []
noncomputable def a477 : Obj := fi N []
noncomputable def a478 : Obj := rO (tS 24) "settled"
noncomputable def a479 : Obj := fi (.type "code") [V "settled" 796, V "settled" 797, V "/claim/cut.py" 798, I 207 0, I 2 0, I 0 0, I 0 0, I 3 0, R 476, B true, I 181 0, R 477, N, N, N, R 478, I 799 0, I 207 0, V "/claim/cut.py" 800]
noncomputable def a480 : Obj := fO (tS 24) "settled" (V "lazycore.demand" 665) (R 479)
noncomputable def a481 : Obj := tu []
noncomputable def a482 : Obj := fi N []
noncomputable def a483 : Obj := rO (tS 25) "bound_env"
noncomputable def a484 : Obj := fi (.type "code") [V "bound_env" 802, V "bound_env" 803, V "/claim/cut.py" 804, I 218 0, I 2 0, I 0 0, I 0 0, I 3 0, R 481, B true, I 181 0, R 482, N, N, N, R 483, I 805 0, I 218 0, V "/claim/cut.py" 806]
noncomputable def a485 : Obj := fO (tS 25) "bound_env" (V "lazycore.demand" 665) (R 484)
noncomputable def a486 : Obj := tu []
noncomputable def a487 : Obj := fi N []
noncomputable def a488 : Obj := rO (tS 26) "with_binds"
noncomputable def a489 : Obj := fi (.type "code") [V "with_binds" 808, V "with_binds" 809, V "/claim/cut.py" 810, I 223 0, I 4 0, I 0 0, I 0 0, I 3 0, R 486, B true, I 181 0, R 487, N, N, N, R 488, I 811 0, I 223 0, V "/claim/cut.py" 812]
noncomputable def a490 : Obj := fO (tS 26) "with_binds" (V "lazycore.demand" 665) (R 489)
noncomputable def a491 : Obj := tu []
noncomputable def a492 : Obj := fi N []
noncomputable def a493 : Obj := tu [V "expr" 817, V "env" 818, V "inner" 819]
noncomputable def a494 : Obj := tu []
noncomputable def a495 : Obj := rO (tS 27) "let_needs"
noncomputable def a496 : Obj := fi (.type "code") [V "let_needs" 814, V "let_needs" 815, V "/claim/cut.py" 816, I 234 0, I 2 0, I 0 0, I 0 0, I 3 0, R 491, B true, I 181 0, R 492, N, R 493, R 494, R 495, I 820 0, I 234 0, V "/claim/cut.py" 821]
noncomputable def a497 : Obj := fO (tS 27) "let_needs" (V "lazycore.demand" 665) (R 496)
noncomputable def a498 : Obj := tu []
noncomputable def a499 : Obj := fi N []
noncomputable def a500 : Obj := tu [V "script" 828, V "k" 829, V "cell" 830, V "big" 831, V "mixed" 832]
noncomputable def a501 : Obj := tu []
noncomputable def a502 : Obj := rO (tS 29) "_law_pool"
noncomputable def a503 : Obj := fi (.type "code") [V "_law_pool" 825, V "_law_pool" 826, V "/claim/cut.py" 827, I 238 0, I 2 0, I 0 0, I 0 0, I 3 0, R 498, B true, I 181 0, R 499, N, R 500, R 501, R 502, I 833 0, I 238 0, V "/claim/cut.py" 834]
noncomputable def a504 : Obj := fO (tS 29) "_law_pool" (V "law_og0015_01" 823) (R 503)
noncomputable def a505 : Obj := tu []
noncomputable def a506 : Obj := fi N []
noncomputable def a507 : Obj := tu [V "source" 839, V "top" 840, V "got" 841]
noncomputable def a508 : Obj := tu []
noncomputable def a509 : Obj := rO (tS 30) "_law_take"
noncomputable def a510 : Obj := fi (.type "code") [V "_law_take" 836, V "_law_take" 837, V "/claim/cut.py" 838, I 245 0, I 2 0, I 0 0, I 0 0, I 3 0, R 505, B true, I 181 0, R 506, N, R 507, R 508, R 509, I 842 0, I 245 0, V "/claim/cut.py" 843]
noncomputable def a511 : Obj := fO (tS 30) "_law_take" (V "law_og0015_01" 823) (R 510)
noncomputable def a512 : Obj := tu []
noncomputable def a513 : Obj := fi N []
noncomputable def a514 : Obj := tu [V "source" 848, V "things" 849]
noncomputable def a515 : Obj := tu []
noncomputable def a516 : Obj := rO (tS 31) "_law_one"
noncomputable def a517 : Obj := fi (.type "code") [V "_law_one" 845, V "_law_one" 846, V "/claim/cut.py" 847, I 252 0, I 2 0, I 0 0, I 0 0, I 3 0, R 512, B true, I 181 0, R 513, N, R 514, R 515, R 516, I 850 0, I 252 0, V "/claim/cut.py" 851]
noncomputable def a518 : Obj := fO (tS 31) "_law_one" (V "law_og0015_01" 823) (R 517)
noncomputable def a519 : Obj := tu []
noncomputable def a520 : Obj := fi N []
noncomputable def a521 : Obj := tu [V "box" 856, V "base" 857]
noncomputable def a522 : Obj := tu []
noncomputable def a523 : Obj := rO (tS 32) "_law_new"
noncomputable def a524 : Obj := fi (.type "code") [V "_law_new" 853, V "_law_new" 854, V "/claim/cut.py" 855, I 254 0, I 2 0, I 0 0, I 0 0, I 3 0, R 519, B true, I 181 0, R 520, N, R 521, R 522, R 523, I 858 0, I 254 0, V "/claim/cut.py" 859]
noncomputable def a525 : Obj := fO (tS 32) "_law_new" (V "law_og0015_01" 823) (R 524)
noncomputable def a526 : Obj := tu []
noncomputable def a527 : Obj := fi N []
noncomputable def a528 : Obj := rO (tS 33) "_law_expr"
noncomputable def a529 : Obj := fi (.type "code") [V "_law_expr" 861, V "_law_expr" 862, V "/claim/cut.py" 863, I 257 0, I 4 0, I 0 0, I 0 0, I 3 0, R 526, B true, I 181 0, R 527, N, N, N, R 528, I 864 0, I 257 0, V "/claim/cut.py" 865]
noncomputable def a530 : Obj := fO (tS 33) "_law_expr" (V "law_og0015_01" 823) (R 529)
noncomputable def a531 : Obj := tu []
noncomputable def a532 : Obj := fi N []
noncomputable def a533 : Obj := tu [V "source" 870, V "box" 871, V "names" 872, V "deep" 873, V "value" 874, V "name" 875, V "field" 876, V "alts" 877, V "other" 878]
noncomputable def a534 : Obj := tu []
noncomputable def a535 : Obj := rO (tS 34) "_law_case"
noncomputable def a536 : Obj := fi (.type "code") [V "_law_case" 867, V "_law_case" 868, V "/claim/cut.py" 869, I 276 0, I 4 0, I 0 0, I 0 0, I 3 0, R 531, B true, I 181 0, R 532, N, R 533, R 534, R 535, I 879 0, I 276 0, V "/claim/cut.py" 880]
noncomputable def a537 : Obj := fO (tS 34) "_law_case" (V "law_og0015_01" 823) (R 536)
noncomputable def a538 : Obj := tu []
noncomputable def a539 : Obj := fi N []
noncomputable def a540 : Obj := rO (tS 35) "_law_let"
noncomputable def a541 : Obj := fi (.type "code") [V "_law_let" 882, V "_law_let" 883, V "/claim/cut.py" 884, I 286 0, I 4 0, I 0 0, I 0 0, I 3 0, R 538, B true, I 181 0, R 539, N, N, N, R 540, I 885 0, I 286 0, V "/claim/cut.py" 886]
noncomputable def a542 : Obj := fO (tS 35) "_law_let" (V "law_og0015_01" 823) (R 541)
noncomputable def a543 : Obj := tu []
noncomputable def a544 : Obj := fi N []
noncomputable def a545 : Obj := rO (tS 36) "_law_ways"
noncomputable def a546 : Obj := fi (.type "code") [V "_law_ways" 888, V "_law_ways" 889, V "/claim/cut.py" 890, I 292 0, I 1 0, I 0 0, I 0 0, I 3 0, R 543, B true, I 181 0, R 544, N, N, N, R 545, I 891 0, I 292 0, V "/claim/cut.py" 892]
noncomputable def a547 : Obj := fO (tS 36) "_law_ways" (V "law_og0015_01" 823) (R 546)
noncomputable def a548 : Obj := tu []
noncomputable def a549 : Obj := fi N []
noncomputable def a550 : Obj := rO (tS 37) "_law_reached"
noncomputable def a551 : Obj := fi (.type "code") [V "_law_reached" 894, V "_law_reached" 895, V "/claim/cut.py" 896, I 295 0, I 1 0, I 0 0, I 0 0, I 3 0, R 548, B true, I 181 0, R 549, N, N, N, R 550, I 897 0, I 295 0, V "/claim/cut.py" 898]
noncomputable def a552 : Obj := fO (tS 37) "_law_reached" (V "law_og0015_01" 823) (R 551)
noncomputable def a553 : Obj := tu []
noncomputable def a554 : Obj := fi N []
noncomputable def a555 : Obj := rO (tS 38) "_law_dead"
noncomputable def a556 : Obj := fi (.type "code") [V "_law_dead" 900, V "_law_dead" 901, V "/claim/cut.py" 902, I 300 0, I 1 0, I 0 0, I 0 0, I 3 0, R 553, B true, I 181 0, R 554, N, N, N, R 555, I 903 0, I 300 0, V "/claim/cut.py" 904]
noncomputable def a557 : Obj := fO (tS 38) "_law_dead" (V "law_og0015_01" 823) (R 556)
noncomputable def a558 : Obj := tu []
noncomputable def a559 : Obj := fi N []
noncomputable def a560 : Obj := rO (tS 39) "_law_sure"
noncomputable def a561 : Obj := fi (.type "code") [V "_law_sure" 906, V "_law_sure" 907, V "/claim/cut.py" 908, I 314 0, I 2 0, I 0 0, I 0 0, I 3 0, R 558, B true, I 181 0, R 559, N, N, N, R 560, I 909 0, I 314 0, V "/claim/cut.py" 910]
noncomputable def a562 : Obj := fO (tS 39) "_law_sure" (V "law_og0015_01" 823) (R 561)
noncomputable def a563 : Obj := tu []
noncomputable def a564 : Obj := fi N []
noncomputable def a565 : Obj := rO (tS 40) "_law_comes"
noncomputable def a566 : Obj := fi (.type "code") [V "_law_comes" 912, V "_law_comes" 913, V "/claim/cut.py" 914, I 335 0, I 2 0, I 0 0, I 0 0, I 3 0, R 563, B true, I 181 0, R 564, N, N, N, R 565, I 915 0, I 335 0, V "/claim/cut.py" 916]
noncomputable def a567 : Obj := fO (tS 40) "_law_comes" (V "law_og0015_01" 823) (R 566)
noncomputable def a568 : Obj := tu []
noncomputable def a569 : Obj := fi N []
noncomputable def a570 : Obj := rO (tS 41) "_law_sets_right"
noncomputable def a571 : Obj := fi (.type "code") [V "_law_sets_right" 918, V "_law_sets_right" 919, V "/claim/cut.py" 920, I 355 0, I 1 0, I 0 0, I 0 0, I 3 0, R 568, B true, I 181 0, R 569, N, N, N, R 570, I 921 0, I 355 0, V "/claim/cut.py" 922]
noncomputable def a572 : Obj := fO (tS 41) "_law_sets_right" (V "law_og0015_01" 823) (R 571)
noncomputable def a573 : Obj := tu []
noncomputable def a574 : Obj := fi N []
noncomputable def a575 : Obj := rO (tS 42) "law"
noncomputable def a576 : Obj := fi (.type "code") [V "law" 924, V "law" 925, V "/claim/cut.py" 926, I 367 0, I 1 0, I 0 0, I 0 0, I 3 0, R 573, B true, I 181 0, R 574, N, N, N, R 575, I 927 0, I 367 0, V "/claim/cut.py" 928]
noncomputable def a577 : Obj := fO (tS 42) "law" (V "law_og0015_01" 823) (R 576)
noncomputable def gl (P : Params) (nm : Value) : List DictEntry := ⟨PyData.keyHash P (.ofString "__name__"), .str (.ofString "__name__") 165, nm⟩ :: [E P "__doc__" 166 N, E P "__package__" 167 N, E P "__loader__" 168 (.builtin "__main__.__loader__#opaque"), E P "__spec__" 169 N, E P "__annotations__" 170 (R 6), E P "__builtins__" 171 (R 4), E P "__file__" 173 (V "/claim/cut.py" 172), E P "__cached__" 174 N, E P "_wall" 193 (R 21), E P "Var" 247 (R 59), E P "Lit" 301 (R 101), E P "App" 355 (R 143), E P "Lam" 409 (R 185), E P "Let" 465 (R 227), E P "Alt" 498 (R 248), E P "Case" 556 (R 290), E P "Con" 610 (R 332), E P "Prim" 664 (R 374), E P "Signature" 706 (R 402), E P "hopeful" 713 (R 413), E P "both" 722 (R 420), E P "either" 728 (R 425), E P "without" 734 (R 430), E P "extended" 743 (R 437), E P "needed" 751 (R 444), E P "prim_needs" 761 (R 451), E P "call_needs" 773 (R 458), E P "case_needs" 783 (R 465), E P "signature_of" 789 (R 470), E P "functions_in" 795 (R 475), E P "settled" 801 (R 480), E P "bound_env" 807 (R 485), E P "with_binds" 813 (R 490), E P "let_needs" 822 (R 497), E P "_law_pool" 835 (R 504), E P "_law_take" 844 (R 511), E P "_law_one" 852 (R 518), E P "_law_new" 860 (R 525), E P "_law_expr" 866 (R 530), E P "_law_case" 881 (R 537), E P "_law_let" 887 (R 542), E P "_law_ways" 893 (R 547), E P "_law_reached" 899 (R 552), E P "_law_dead" 905 (R 557), E P "_law_sure" 911 (R 562), E P "_law_comes" 917 (R 567), E P "_law_sets_right" 923 (R 572), E P "law" 929 (R 577)]
noncomputable def tl : List Value := [I 1 0, I 0 0, R 20, I 5 0, I 0 0, R 27, I 18 0, I 0 0, R 69, I 32 0, I 0 0, R 111, I 46 0, I 0 0, R 153, I 60 0, I 0 0, R 195, I 75 0, I 0 0, R 237, I 81 0, I 0 0, R 258, I 97 0, I 0 0, R 300, I 111 0, I 0 0, R 342, I 126 0, I 0 0, R 384, I 135 0, I 0 0, R 412, I 137 0, I 0 0, R 419, I 143 0, I 0 0, R 424, I 149 0, I 0 0, R 429, I 153 0, I 0 0, R 436, I 157 0, I 0 0, R 443, I 169 0, I 0 0, R 450, I 176 0, I 0 0, R 457, I 192 0, I 0 0, R 464, I 199 0, I 0 0, R 469, I 205 0, I 0 0, R 474, I 207 0, I 0 0, R 479, I 218 0, I 0 0, R 484, I 223 0, I 0 0, R 489, I 234 0, I 0 0, R 496, I 238 0, I 0 0, R 503, I 245 0, I 0 0, R 510, I 252 0, I 0 0, R 517, I 254 0, I 0 0, R 524, I 257 0, I 0 0, R 529, I 276 0, I 0 0, R 536, I 286 0, I 0 0, R 541, I 292 0, I 0 0, R 546, I 295 0, I 0 0, R 551, I 300 0, I 0 0, R 556, I 314 0, I 0 0, R 561, I 335 0, I 0 0, R 566, I 355 0, I 0 0, R 571, I 367 0, I 0 0, R 576]
noncomputable def g3 (nm : Value) (k : Nat) (P : Params) : Obj := ⟨.type "dict", none, .dict ((gl P nm).take k).toArray k, #[]⟩
noncomputable def t12 (k : Nat) : Obj := ⟨.none, none, .fields (tl.take k).toArray, #[]⟩
noncomputable def hl (G T : Obj) (P : Params) : List Obj := [boot_o_0 P, boot_o_1 P, boot_o_2 P, G, boot_o_4 P, boot_o_5 P, boot_o_6 P, boot_o_7 P, boot_o_8 P, boot_o_9 P, boot_o_10 P, a11, T, a13, a14, a15, a16, a17, a18, a19, a20, a21, a22, a23, a24 P, a25, a26, a27, a28, a29, a30, a31, a32, a33, a34, a35, a36, a37, a38, a39, a40, a41, a42, a43, a44, a45, a46, a47, a48, a49, a50, a51, a52, a53, a54, a55, a56, a57, a58 P, a59, a60, a61, a62, a63, a64, a65, a66 P, a67, a68, a69, a70, a71, a72, a73, a74, a75, a76, a77, a78, a79, a80, a81, a82, a83, a84, a85, a86, a87, a88, a89, a90, a91, a92, a93, a94, a95, a96, a97, a98, a99, a100 P, a101, a102, a103, a104, a105, a106, a107, a108 P, a109, a110, a111, a112, a113, a114, a115, a116, a117, a118, a119, a120, a121, a122, a123, a124, a125, a126, a127, a128, a129, a130, a131, a132, a133, a134, a135, a136, a137, a138, a139, a140, a141, a142 P, a143, a144, a145, a146, a147, a148, a149, a150 P, a151, a152, a153, a154, a155, a156, a157, a158, a159, a160, a161, a162, a163, a164, a165, a166, a167, a168, a169, a170, a171, a172, a173, a174, a175, a176, a177, a178, a179, a180, a181, a182, a183, a184 P, a185, a186, a187, a188, a189, a190, a191, a192 P, a193, a194, a195, a196, a197, a198, a199, a200, a201, a202, a203, a204, a205, a206, a207, a208, a209, a210, a211, a212, a213, a214, a215, a216, a217, a218, a219, a220, a221, a222, a223, a224, a225, a226 P, a227, a228, a229, a230, a231, a232, a233, a234 P, a235, a236, a237, a238, a239, a240, a241, a242, a243, a244, a245, a246, a247 P, a248, a249, a250, a251, a252, a253, a254, a255 P, a256, a257, a258, a259, a260, a261, a262, a263, a264, a265, a266, a267, a268, a269, a270, a271, a272, a273, a274, a275, a276, a277, a278, a279, a280, a281, a282, a283, a284, a285, a286, a287, a288, a289 P, a290, a291, a292, a293, a294, a295, a296, a297 P, a298, a299, a300, a301, a302, a303, a304, a305, a306, a307, a308, a309, a310, a311, a312, a313, a314, a315, a316, a317, a318, a319, a320, a321, a322, a323, a324, a325, a326, a327, a328, a329, a330, a331 P, a332, a333, a334, a335, a336, a337, a338, a339 P, a340, a341, a342, a343, a344, a345, a346, a347, a348, a349, a350, a351, a352, a353, a354, a355, a356, a357, a358, a359, a360, a361, a362, a363, a364, a365, a366, a367, a368, a369, a370, a371, a372, a373 P, a374, a375, a376, a377, a378, a379, a380, a381 P, a382, a383, a384, a385, a386, a387, a388, a389, a390, a391, a392, a393, a394, a395, a396, a397, a398, a399, a400, a401 P, a402, a403, a404, a405, a406, a407, a408, a409, a410, a411, a412, a413, a414, a415, a416, a417, a418, a419, a420, a421, a422, a423, a424, a425, a426, a427, a428, a429, a430, a431, a432, a433, a434, a435, a436, a437, a438, a439, a440, a441, a442, a443, a444, a445, a446, a447, a448, a449, a450, a451, a452, a453, a454, a455, a456, a457, a458, a459, a460, a461, a462, a463, a464, a465, a466, a467, a468, a469, a470, a471, a472, a473, a474, a475, a476, a477, a478, a479, a480, a481, a482, a483, a484, a485, a486, a487, a488, a489, a490, a491, a492, a493, a494, a495, a496, a497, a498, a499, a500, a501, a502, a503, a504, a505, a506, a507, a508, a509, a510, a511, a512, a513, a514, a515, a516, a517, a518, a519, a520, a521, a522, a523, a524, a525, a526, a527, a528, a529, a530, a531, a532, a533, a534, a535, a536, a537, a538, a539, a540, a541, a542, a543, a544, a545, a546, a547, a548, a549, a550, a551, a552, a553, a554, a555, a556, a557, a558, a559, a560, a561, a562, a563, a564, a565, a566, a567, a568, a569, a570, a571, a572, a573, a574, a575, a576, a577]
noncomputable def hp (n : Nat) (G : Params → Obj) (T : Obj) (P : Params) : Heap := ⟨⟨(hl (G P) T P).take n⟩, {}⟩
noncomputable def st (n tk : Nat) (G : Params → Obj) (T : Obj) (w : World) (os : OsState) : Shared := ⟨hp n G T w.params, #[], {}, tk, os⟩
noncomputable def evs : List Obj → List Obj
  | a :: _ :: r => a :: evs r
  | [a] => [a]
  | [] => []
noncomputable def bt : Nat → List Obj → BT
  | 0, _ => .nil
  | _, [] => .nil
  | f + 1, o :: r => .node o (bt f (evs r)) (bt f (evs (r.drop 1)))
noncomputable def sT (n tk : Nat) (G : Params → Obj) (T : Obj) (w : World) (os : OsState) : SharedT := ⟨bt 12 ((hl (G w.params) T w.params).take n), n, {}, #[], {}, tk, os⟩
noncomputable abbrev bE : List Stmt := behindTheImports pw
noncomputable def envE : Env := { scope := pw.main.scope, locals := mainNs, globals := mainNs, cells := [], code := R 13, frame := some 14 }
noncomputable abbrev cE : Code := .body bE envE
noncomputable abbrev q0 : Pos := ⟨0, 0, 0, 0⟩
noncomputable abbrev ann : Option Value := some (R 6)
noncomputable def sl (a n : Nat) : List Stmt := (bE.drop a).take n
theorem qk {α : Type} {f g : (String → Option Builtin) → Program → World → Nat → Option Value → Nat → Nat → SharedT → Thread → α} (e : f = g) {t u : String → Option Builtin} (e' : t = u) {p w m a b n s th r} (h : g u p w m a b n s th = r) : f t p w m a b n s th = r := by rw [e, e']; exact h
theorem pre (w : World) (os : OsState) : topGo treeTable pw w 11 ann 12 ⟨boot_heap w.params, #[], boot_drawn, boot_toks, os⟩ (topStub pw) = some (st 15 187 boot_o_3 (t12 0) w os, ⟨denote treeTable cE, cE, q0, [topFrame q0]⟩) := by kernel_rfl
theorem block (w : World) (os : OsState) : segRun treeTable pw w 11 ann 1 1 (st 15 187 boot_o_3 (t12 0) w os) (blockOf bE envE cE q0 [topFrame q0]) = some (.next, (sT 15 187 boot_o_3 (t12 0) w os).abs, cE, q0) := by kernel_rfl
theorem p0 (w : World) (os : OsState) : segRunT treeTable pw w 11 ann 1 356 (sT 15 187 boot_o_3 (t12 0) w os) (piecesOf (sl 0 3) envE cE q0 [topFrame q0]) = some (.next, sT 64 248 (g3 (V "lazycore.core" 194) 11) (t12 6) w os, cE, ⟨5, 0, 17, 16⟩) := qk PySem.W.Fast.te10110043849684766642 PySem.W.Fast.te14364793385576792824 (by kernel_rfl)
theorem p1 (w : World) (os : OsState) : segRunT treeTable pw w 11 ann 1 320 (sT 64 248 (g3 (V "lazycore.core" 194) 11) (t12 6) w os) (piecesOf (sl 3 1) envE cE ⟨5, 0, 17, 16⟩ [topFrame q0]) = some (.next, sT 106 302 (g3 (V "lazycore.core" 194) 12) (t12 9) w os, cE, ⟨18, 0, 31, 16⟩) := qk PySem.W.Fast.te10110043849684766642 PySem.W.Fast.te14364793385576792824 (by kernel_rfl)
theorem p2 (w : World) (os : OsState) : segRunT treeTable pw w 11 ann 1 320 (sT 106 302 (g3 (V "lazycore.core" 194) 12) (t12 9) w os) (piecesOf (sl 4 1) envE cE ⟨18, 0, 31, 16⟩ [topFrame q0]) = some (.next, sT 148 356 (g3 (V "lazycore.core" 194) 13) (t12 12) w os, cE, ⟨32, 0, 45, 16⟩) := qk PySem.W.Fast.te10110043849684766642 PySem.W.Fast.te14364793385576792824 (by kernel_rfl)
theorem p3 (w : World) (os : OsState) : segRunT treeTable pw w 11 ann 1 320 (sT 148 356 (g3 (V "lazycore.core" 194) 13) (t12 12) w os) (piecesOf (sl 5 1) envE cE ⟨32, 0, 45, 16⟩ [topFrame q0]) = some (.next, sT 190 410 (g3 (V "lazycore.core" 194) 14) (t12 15) w os, cE, ⟨46, 0, 59, 17⟩) := qk PySem.W.Fast.te10110043849684766642 PySem.W.Fast.te14364793385576792824 (by kernel_rfl)
theorem p4 (w : World) (os : OsState) : segRunT treeTable pw w 11 ann 1 322 (sT 190 410 (g3 (V "lazycore.core" 194) 14) (t12 15) w os) (piecesOf (sl 6 1) envE cE ⟨46, 0, 59, 17⟩ [topFrame q0]) = some (.next, sT 232 466 (g3 (V "lazycore.core" 194) 15) (t12 18) w os, cE, ⟨60, 0, 74, 17⟩) := qk PySem.W.Fast.te10110043849684766642 PySem.W.Fast.te14364793385576792824 (by kernel_rfl)
theorem p5 (w : World) (os : OsState) : segRunT treeTable pw w 11 ann 1 227 (sT 232 466 (g3 (V "lazycore.core" 194) 15) (t12 18) w os) (piecesOf (sl 7 1) envE cE ⟨60, 0, 74, 17⟩ [topFrame q0]) = some (.next, sT 253 499 (g3 (V "lazycore.core" 194) 16) (t12 21) w os, cE, ⟨75, 0, 80, 24⟩) := qk PySem.W.Fast.te10110043849684766642 PySem.W.Fast.te14364793385576792824 (by kernel_rfl)
theorem p6 (w : World) (os : OsState) : segRunT treeTable pw w 11 ann 1 324 (sT 253 499 (g3 (V "lazycore.core" 194) 16) (t12 21) w os) (piecesOf (sl 8 1) envE cE ⟨75, 0, 80, 24⟩ [topFrame q0]) = some (.next, sT 295 557 (g3 (V "lazycore.core" 194) 17) (t12 24) w os, cE, ⟨81, 0, 96, 17⟩) := qk PySem.W.Fast.te10110043849684766642 PySem.W.Fast.te14364793385576792824 (by kernel_rfl)
theorem p7 (w : World) (os : OsState) : segRunT treeTable pw w 11 ann 1 320 (sT 295 557 (g3 (V "lazycore.core" 194) 17) (t12 24) w os) (piecesOf (sl 9 1) envE cE ⟨81, 0, 96, 17⟩ [topFrame q0]) = some (.next, sT 337 611 (g3 (V "lazycore.core" 194) 18) (t12 27) w os, cE, ⟨97, 0, 110, 17⟩) := qk PySem.W.Fast.te10110043849684766642 PySem.W.Fast.te14364793385576792824 (by kernel_rfl)
theorem p8 (w : World) (os : OsState) : segRunT treeTable pw w 11 ann 1 329 (sT 337 611 (g3 (V "lazycore.core" 194) 18) (t12 27) w os) (piecesOf (sl 10 2) envE cE ⟨97, 0, 110, 17⟩ [topFrame q0]) = some (.next, sT 379 667 (g3 (V "lazycore.demand" 665) 19) (t12 30) w os, cE, ⟨125, 0, 125, 8⟩) := qk PySem.W.Fast.te10110043849684766642 PySem.W.Fast.te14364793385576792824 (by kernel_rfl)
theorem p9 (w : World) (os : OsState) : segRunT treeTable pw w 11 ann 1 401 (sT 379 667 (g3 (V "lazycore.demand" 665) 19) (t12 30) w os) (piecesOf (sl 12 6) envE cE ⟨125, 0, 125, 8⟩ [topFrame q0]) = some (.next, sT 438 744 (g3 (V "lazycore.demand" 665) 25) (t12 48) w os, cE, ⟨153, 0, 156, 16⟩) := qk PySem.W.Fast.te10110043849684766642 PySem.W.Fast.te14364793385576792824 (by kernel_rfl)
theorem p10 (w : World) (os : OsState) : segRunT treeTable pw w 11 ann 1 393 (sT 438 744 (g3 (V "lazycore.demand" 665) 25) (t12 48) w os) (piecesOf (sl 18 14) envE cE ⟨153, 0, 156, 16⟩ [topFrame q0]) = some (.next, sT 519 853 (g3 (V "law_og0015_01" 823) 38) (t12 87) w os, cE, ⟨252, 0, 253, 49⟩) := qk PySem.W.Fast.te10110043849684766642 PySem.W.Fast.te14364793385576792824 (by kernel_rfl)
theorem p11 (w : World) (os : OsState) : segRunT treeTable pw w 11 ann 1 302 (sT 519 853 (g3 (V "law_og0015_01" 823) 38) (t12 87) w os) (piecesOf (sl 32 11) envE cE ⟨252, 0, 253, 49⟩ [topFrame q0]) = some (.next, sT 578 930 (g3 (V "law_og0015_01" 823) 49) (t12 120) w os, cE, ⟨367, 0, 381, 34⟩) := qk PySem.W.Fast.te10110043849684766642 PySem.W.Fast.te14364793385576792824 (by kernel_rfl)
theorem fin (w : World) (os : OsState) : topRun treeTable pw w 11 ann 2 (sT 578 930 (g3 (V "law_og0015_01" 823) 49) (t12 120) w os).abs ⟨doneF .next, cE, ⟨367, 0, 381, 34⟩, [topFrame q0]⟩ = some (st 578 930 (g3 (V "law_og0015_01" 823) 49) (t12 120) w os) := by kernel_rfl
theorem parts : bE = sl 0 3 ++ (sl 3 1 ++ (sl 4 1 ++ (sl 5 1 ++ (sl 6 1 ++ (sl 7 1 ++ (sl 8 1 ++ (sl 9 1 ++ (sl 10 2 ++ (sl 12 6 ++ (sl 18 14 ++ (sl 32 11 ++ []))))))))))) := by kernel_rfl
theorem run (w : World) (os : OsState) : topRun treeTable pw w 11 ann (Nat.add 12 (Nat.add 1 (Nat.add 356 (Nat.add 320 (Nat.add 320 (Nat.add 320 (Nat.add 322 (Nat.add 227 (Nat.add 324 (Nat.add 320 (Nat.add 329 (Nat.add 401 (Nat.add 393 (Nat.add 302 2)))))))))))))) ⟨boot_heap w.params, #[], boot_drawn, boot_toks, os⟩ (topStub pw) = some (st 578 930 (g3 (V "law_og0015_01" 823) 49) (t12 120) w os) := by
  refine go_top (pre w os) (piece_block (block w os) ?_)
  refine (congrArg (fun b => topRun treeTable pw w 11 ann _ (sT 15 187 boot_o_3 (t12 0) w os).abs (restOf b envE cE q0 [topFrame q0])) parts).trans ?_
  exact piece_app (segRun_of (p0 w os)) (piece_app (segRun_of (p1 w os)) (piece_app (segRun_of (p2 w os)) (piece_app (segRun_of (p3 w os)) (piece_app (segRun_of (p4 w os)) (piece_app (segRun_of (p5 w os)) (piece_app (segRun_of (p6 w os)) (piece_app (segRun_of (p7 w os)) (piece_app (segRun_of (p8 w os)) (piece_app (segRun_of (p9 w os)) (piece_app (segRun_of (p10 w os)) (piece_app (segRun_of (p11 w os)) (piece_nil (fin w os)))))))))))))
end Mine
end
section
open PySem PySem.W PyProof.Rows PySem.Calls
set_option maxRecDepth 100000
set_option maxHeartbeats 4000000
namespace Mine
noncomputable abbrev nmL : Value := (V "law_og0015_01" 823)
noncomputable def view : Program := { pw with main := { pw.main with body := pw.main.body.filter fun x => match x with | .Assign .. => false | _ => true } }
noncomputable def kf (P : Params) : Frag := [(2, boot_o_2 P), (3, g3 nmL 49 P), (15, a15), (17, a17), (18, a18), (20, a20), (21, a21), (29, a29), (31, a31), (32, a32), (34, a34), (35, a35), (36, a36), (38, a38), (39, a39), (41, a41), (42, a42), (43, a43), (45, a45), (46, a46), (48, a48), (49, a49), (50, a50), (52, a52), (53, a53), (55, a55), (56, a56), (57, a57), (58, a58 P), (59, a59), (60, a60), (61, a61), (71, a71), (73, a73), (74, a74), (76, a76), (77, a77), (78, a78), (80, a80), (81, a81), (83, a83), (84, a84), (85, a85), (87, a87), (88, a88), (90, a90), (91, a91), (92, a92), (94, a94), (95, a95), (97, a97), (98, a98), (99, a99), (100, a100 P), (101, a101), (102, a102), (103, a103), (113, a113), (115, a115), (116, a116), (118, a118), (119, a119), (120, a120), (122, a122), (123, a123), (125, a125), (126, a126), (127, a127), (129, a129), (130, a130), (132, a132), (133, a133), (134, a134), (136, a136), (137, a137), (139, a139), (140, a140), (141, a141), (142, a142 P), (143, a143), (144, a144), (145, a145), (155, a155), (157, a157), (158, a158), (160, a160), (161, a161), (162, a162), (164, a164), (165, a165), (167, a167), (168, a168), (169, a169), (171, a171), (172, a172), (174, a174), (175, a175), (176, a176), (178, a178), (179, a179), (181, a181), (182, a182), (183, a183), (184, a184 P), (185, a185), (186, a186), (187, a187), (197, a197), (199, a199), (200, a200), (202, a202), (203, a203), (204, a204), (206, a206), (207, a207), (209, a209), (210, a210), (211, a211), (213, a213), (214, a214), (216, a216), (217, a217), (218, a218), (220, a220), (221, a221), (223, a223), (224, a224), (225, a225), (226, a226 P), (227, a227), (228, a228), (229, a229), (239, a239), (241, a241), (242, a242), (244, a244), (245, a245), (246, a246), (247, a247 P), (248, a248), (249, a249), (250, a250), (260, a260), (262, a262), (263, a263), (265, a265), (266, a266), (267, a267), (269, a269), (270, a270), (272, a272), (273, a273), (274, a274), (276, a276), (277, a277), (279, a279), (280, a280), (281, a281), (283, a283), (284, a284), (286, a286), (287, a287), (288, a288), (289, a289 P), (290, a290), (291, a291), (292, a292), (302, a302), (304, a304), (305, a305), (307, a307), (308, a308), (309, a309), (311, a311), (312, a312), (314, a314), (315, a315), (316, a316), (318, a318), (319, a319), (321, a321), (322, a322), (323, a323), (325, a325), (326, a326), (328, a328), (329, a329), (330, a330), (331, a331 P), (332, a332), (333, a333), (334, a334), (344, a344), (346, a346), (347, a347), (349, a349), (350, a350), (351, a351), (353, a353), (354, a354), (356, a356), (357, a357), (358, a358), (360, a360), (361, a361), (363, a363), (364, a364), (365, a365), (367, a367), (368, a368), (370, a370), (371, a371), (372, a372), (373, a373 P), (374, a374), (375, a375), (376, a376), (386, a386), (388, a388), (389, a389), (391, a391), (392, a392), (393, a393), (395, a395), (396, a396), (398, a398), (399, a399), (400, a400), (401, a401 P), (402, a402), (403, a403), (404, a404), (407, a407), (409, a409), (410, a410), (412, a412), (413, a413), (414, a414), (416, a416), (417, a417), (419, a419), (420, a420), (421, a421), (424, a424), (425, a425), (426, a426), (429, a429), (430, a430), (431, a431), (433, a433), (434, a434), (436, a436), (437, a437), (438, a438), (440, a440), (441, a441), (443, a443), (444, a444), (445, a445), (447, a447), (448, a448), (450, a450), (451, a451), (452, a452), (454, a454), (455, a455), (457, a457), (458, a458), (459, a459), (461, a461), (462, a462), (464, a464), (465, a465), (466, a466), (469, a469), (470, a470), (471, a471), (474, a474), (475, a475), (476, a476), (479, a479), (480, a480), (481, a481), (484, a484), (485, a485), (486, a486), (489, a489), (490, a490), (491, a491), (493, a493), (494, a494), (496, a496), (497, a497), (498, a498), (500, a500), (501, a501), (503, a503), (504, a504), (505, a505), (507, a507), (508, a508), (510, a510), (511, a511), (512, a512), (514, a514), (515, a515), (517, a517), (518, a518), (519, a519), (521, a521), (522, a522), (524, a524), (525, a525), (526, a526), (529, a529), (530, a530), (531, a531), (533, a533), (534, a534), (536, a536), (537, a537), (538, a538), (541, a541), (542, a542), (543, a543), (546, a546), (547, a547), (548, a548), (551, a551), (552, a552), (553, a553), (556, a556), (557, a557), (558, a558), (561, a561), (562, a562), (563, a563), (566, a566), (567, a567), (568, a568), (571, a571), (572, a572), (573, a573), (576, a576), (577, a577)]
noncomputable def kas : List Addr := [2, 3, 15, 17, 18, 20, 21, 29, 31, 32, 34, 35, 36, 38, 39, 41, 42, 43, 45, 46, 48, 49, 50, 52, 53, 55, 56, 57, 58, 59, 60, 61, 71, 73, 74, 76, 77, 78, 80, 81, 83, 84, 85, 87, 88, 90, 91, 92, 94, 95, 97, 98, 99, 100, 101, 102, 103, 113, 115, 116, 118, 119, 120, 122, 123, 125, 126, 127, 129, 130, 132, 133, 134, 136, 137, 139, 140, 141, 142, 143, 144, 145, 155, 157, 158, 160, 161, 162, 164, 165, 167, 168, 169, 171, 172, 174, 175, 176, 178, 179, 181, 182, 183, 184, 185, 186, 187, 197, 199, 200, 202, 203, 204, 206, 207, 209, 210, 211, 213, 214, 216, 217, 218, 220, 221, 223, 224, 225, 226, 227, 228, 229, 239, 241, 242, 244, 245, 246, 247, 248, 249, 250, 260, 262, 263, 265, 266, 267, 269, 270, 272, 273, 274, 276, 277, 279, 280, 281, 283, 284, 286, 287, 288, 289, 290, 291, 292, 302, 304, 305, 307, 308, 309, 311, 312, 314, 315, 316, 318, 319, 321, 322, 323, 325, 326, 328, 329, 330, 331, 332, 333, 334, 344, 346, 347, 349, 350, 351, 353, 354, 356, 357, 358, 360, 361, 363, 364, 365, 367, 368, 370, 371, 372, 373, 374, 375, 376, 386, 388, 389, 391, 392, 393, 395, 396, 398, 399, 400, 401, 402, 403, 404, 407, 409, 410, 412, 413, 414, 416, 417, 419, 420, 421, 424, 425, 426, 429, 430, 431, 433, 434, 436, 437, 438, 440, 441, 443, 444, 445, 447, 448, 450, 451, 452, 454, 455, 457, 458, 459, 461, 462, 464, 465, 466, 469, 470, 471, 474, 475, 476, 479, 480, 481, 484, 485, 486, 489, 490, 491, 493, 494, 496, 497, 498, 500, 501, 503, 504, 505, 507, 508, 510, 511, 512, 514, 515, 517, 518, 519, 521, 522, 524, 525, 526, 529, 530, 531, 533, 534, 536, 537, 538, 541, 542, 543, 546, 547, 548, 551, 552, 553, 556, 557, 558, 561, 562, 563, 566, 567, 568, 571, 572, 573, 576, 577]
noncomputable def hk : Hook := kHook kf kas fun _ => by kernel_rfl
noncomputable def xt (s : Shared) : Bool := xlAt view [] s && recOk (RowW.records PySem.Challenge.rw_og0015_01.row.toRowW) s
noncomputable abbrev H9 : Params → Heap := hp 578 (g3 nmL 49) (t12 120)
theorem size0 : ∀ w : World, ((boot_heap w.params).isNs mainGlobals && (#[] : Array GenState).size == 0, (boot_heap w.params).objs.size, (boot_heap w.params).nsMap mainGlobals "__annotations__") = (true, 11, ann) := by intro w; kernel_rfl
theorem open0 : ∀ w : World, (fencedOpening treeTable pw w 7970).map (fun s => (s.heap, s.gens, s.drawn, s.toks)) = some (boot_heap w.params, #[], boot_drawn, boot_toks) := boot_open (by kernel_rfl) (by decide) fun s => rfl
theorem look1 (w : World) (os : OsState) : (staticsOk (importedModules pw.main.body) (boot_heap w.params) (H9 w.params) && namesBound pw (H9 w.params) && gensDone ⟨H9 w.params, #[], {}, 930, os⟩ && laidKept (boot_heap w.params) (H9 w.params)) = true := by kernel_rfl
theorem look3 (w : World) (os : OsState) : hk.obs ⟨H9 w.params, #[], {}, 930, os⟩ = hk.val w := by kernel_rfl
noncomputable abbrev s9 (w : World) (os : OsState) : Shared := ⟨H9 w.params, #[], {}, 930, os⟩
theorem look21 (w : World) (os : OsState) : seen ((recsOf view).map (·.name)) (ownsOf view) [] { s9 w os with gens := #[] } = expectedOf view := by kernel_rfl
theorem look22 (w : World) (os : OsState) : (s9 w os).heap.bltView = bltViewBooted := by kernel_rfl
theorem look23 (w : World) (os : OsState) : ((s9 w os).heap.keysOk (looseW view []) ((recsOf view).map (·.name)) ((litsOf view).map (·.1)) ((clssOf view (looseW view [])).map (·.name)) && (s9 w os).heap.accountedOkI (importedModules pw.main.body) && (s9 w os).heap.isNs mainGlobals && (s9 w os).heap.isNs builtinsNs && tablesOk view (s9 w os).heap && xt (s9 w os) && (if true then (s9 w os).gens.size == 0 else !leftWithCleanup (s9 w os).gens)) = true := by kernel_rfl
theorem look24 (w : World) (os : OsState) : tabsOk view (s9 w os) = true := by kernel_rfl
theorem look25 (w : World) (os : OsState) : pinSeenD view (drecsOf view) (s9 w os) = pinGoodD (drecsOf view) := by kernel_rfl
theorem look26 (w : World) (os : OsState) : plainSeenE view (looseW view []) (s9 w os) = plainGoodE view (looseW view []) := by kernel_rfl
theorem look27 (w : World) (os : OsState) : plainSeenD view [] (s9 w os) = plainGoodD view [] := by kernel_rfl
theorem look28 (w : World) (os : OsState) : wideSeen view (s9 w os) = wideGood view := by kernel_rfl
theorem look29 (w : World) (os : OsState) : clsSeenW view [] (s9 w os) = clsGoodW view [] := by kernel_rfl
theorem look2 (w : World) (os : OsState) : openSeen view [] (importedModules pw.main.body) xt true ⟨H9 w.params, #[], {}, 930, os⟩ = openGood view [] :=
  looks_pair (look21 w os) (looks_pair (look22 w os) (looks_pair (look23 w os) (looks_pair (look24 w os) (looks_pair (look25 w os) (looks_pair (look26 w os) (looks_pair (look27 w os) (looks_pair (look28 w os) (look29 w os))))))))
theorem said0 : OpenLaw.wellSaid PySem.Challenge.rw_og0015_01 = true := by
  unfold OpenLaw.wellSaid
  repeat (refine look_both ?_ (by decide +kernel))
  decide +kernel
theorem left0 : LeftO pw view [] xt hk.obs hk.val 7970 :=
  LeftO.of_pieces (H₀ := boot_heap) (H₁ := H9) open0 size0 run (by decide +kernel) fun w => funext fun os => looks_pair (look1 w os) (looks_pair (look2 w os) (look3 w os))
end Mine
end
section
open PySem PySem.W PyProof.Rows PySem.Calls
set_option maxRecDepth 10000
namespace Mine
section
variable {M : Model} {A : Around} {E : Value → Shared → Prop} {s : Shared} {env : Env}
theorem if_t {test : PySem.Expr} {body orelse : List Stmt} {pos : Pos} {Q : Flow → Shared → Prop} (h : wpAny M A (isTrue test env (eval test env)) (fun b s₂ => b = true ∧ wpAny M A (execs body env) Q E s₂) E s) : wpAny M A (exec (.If test body orelse pos) env) Q E s :=
  xif (wpAny_mono h (fun b s₂ ⟨e, q⟩ => by subst e; exact q) fun _ _ q => q)
theorem if_f {test : PySem.Expr} {body orelse : List Stmt} {pos : Pos} {Q : Flow → Shared → Prop} (h : wpAny M A (isTrue test env (eval test env)) (fun b s₂ => b = false ∧ wpAny M A (execs orelse env) Q E s₂) E s) : wpAny M A (exec (.If test body orelse pos) env) Q E s :=
  xif (wpAny_mono h (fun b s₂ ⟨e, q⟩ => by subst e; exact q) fun _ _ q => q)
theorem t_isNone {H0 H : KH} {V : Str → Option Value} {x : Str} {p p' pos : Pos} {k : Nat} {v : Value} {whole : Sem Value} {Q : Bool → Shared → Prop} (S : Rs H0 H env V s.heap) (hv : V x = some v) (hk : env.kindOf x = some .local ∨ env.kindOf x = some .cell) (h : Q (v == .none) s) (hd : (x == ("__debug__" : Str)) = false := by decide) :
    wpAny M A (isTrue (.Compare (.Name x p) [.Is] [.Constant .none k p'] pos) env whole) Q E s :=
  wpAny_isTrue_Compare1 (ev_var S hv (wpAny_Constant_none (is_none (wpAny_truthy_bool h))) hk hd) rfl
theorem t_notNone {H0 H : KH} {V : Str → Option Value} {x : Str} {p p' pos : Pos} {k : Nat} {v : Value} {whole : Sem Value} {Q : Bool → Shared → Prop} (S : Rs H0 H env V s.heap) (hv : V x = some v) (hk : env.kindOf x = some .local ∨ env.kindOf x = some .cell) (h : Q (!(v == .none)) s) (hd : (x == ("__debug__" : Str)) = false := by decide) :
    wpAny M A (isTrue (.Compare (.Name x p) [.IsNot] [.Constant .none k p'] pos) env whole) Q E s :=
  wpAny_isTrue_Compare1 (ev_var S hv (wpAny_Constant_none (isNot_none (wpAny_truthy_bool h))) hk hd) rfl
end
noncomputable abbrev KW (w : World) : Frag := kf w.params
noncomputable def Pure (prog : Program) (w : World) (A : Around) (H : KH) (f : Addr) (args : List Value) (P : KH → Value → Prop) : Prop :=
  ∀ (s : Shared) (E : Value → Shared → Prop) (Q : Value → Shared → Prop), InH H s.heap → (∀ v H' h' tk, Grow H s.heap H' h' → P H' v → Q v (uP s h' tk)) → wpAny (model prog w) A (call (.ref f) args) Q E s
section
variable {prog : Program} {w : World} {A : Around} {H0 H : KH}
noncomputable def keyT (k : Str) : Str × Value := (k, .bool true)
noncomputable def NeedsH (prog : Program) (w : World) (H : KH) (v : Value) : Option (List Str) → Prop
  | none => v = .none
  | some ks => ∃ d, v = .ref d ∧ DictH prog w H d (ks.map keyT)
theorem NeedsH.le {H' : KH} {v : Value} {x : Option (List Str)} (n : NeedsH prog w H v x) (l : H.le H') : NeedsH prog w H' v x := by
  cases x with
  | none => exact n
  | some ks => obtain ⟨d, e, D⟩ := n; exact ⟨d, e, D.le l⟩
noncomputable def mergeK (a b : List Str) : List Str := b.foldl (fun acc k => if k ∈ acc then acc else acc ++ [k]) a
theorem stored_keyT (a : List Str) (k : Str) : stored (a.map keyT) k (.bool true) = (if k ∈ a then a else a ++ [k]).map keyT := by
  unfold stored
  by_cases h : k ∈ a
  · rw [if_pos h, if_pos (List.any_eq_true.mpr ⟨keyT k, List.mem_map_of_mem h, by simp [keyT]⟩)]
    rw [List.map_map]
    refine List.map_congr_left fun x _ => ?_
    show (if (keyT x).1 = k then ((keyT x).1, Value.bool true) else keyT x) = keyT x
    split <;> rfl
  · rw [if_neg h, if_neg (fun q => by
      obtain ⟨x, hx, e⟩ := List.any_eq_true.mp q
      obtain ⟨y, hy, rfl⟩ := List.mem_map.mp hx
      exact h (of_decide_eq_true e ▸ hy))]
    simp [keyT]
theorem merged_keyT (a b : List Str) : merged (a.map keyT) (b.map keyT) = (mergeK a b).map keyT := by
  unfold merged mergeK
  induction b generalizing a with
  | nil => rfl
  | cons k r ih =>
    rw [List.map_cons, List.foldl_cons, List.foldl_cons]
    show List.foldl _ (stored (a.map keyT) k (.bool true)) _ = _
    rw [stored_keyT, ih]
theorem mergeK_len (a b : List Str) : (mergeK a b).length ≤ a.length + b.length := by
  unfold mergeK
  induction b generalizing a with
  | nil => exact Nat.le_refl _
  | cons k r ih =>
    rw [List.foldl_cons]
    refine Nat.le_trans (ih _) ?_
    split <;> simp only [List.length_cons, List.length_append, List.length_nil] <;> lia
noncomputable def bothF : Option (List Str) → Option (List Str) → Option (List Str)
  | some a, some b => some (mergeK a b)
  | _, _ => none
noncomputable def lenF : Option (List Str) → Nat
  | some a => a.length
  | none => 0
noncomputable def NamesH (H : KH) (v : Value) (ns : List Str) : Prop := ∃ a vs, v = .ref a ∧ ListH H a vs ∧ StrsAre vs ns
theorem NamesH.le {H' : KH} {v : Value} {ns : List Str} (x : NamesH H v ns) (l : H.le H') : NamesH H' v ns := let ⟨a, vs, e, q, r⟩ := x; ⟨a, vs, e, q.le l, r⟩
noncomputable def withoutF (x : Option (List Str)) (ns : List Str) : Option (List Str) := x.map fun ks => ks.filter fun k => !(ns.any (· == k))
theorem stored_keys {p : Str → Bool} {ks : List Str} (nd : ks.Nodup) {vs : List Value} {kvs : List (Str × Value)} (q : Value → Bool) (hl : vs.length = ks.length) (hP : ∀ (j : Nat) (v : Value), vs[j]? = some v → ∃ k t, ks[j]? = some k ∧ v = .str k t)
    (hq : ∀ k t, q (.str k t) = p k) (F : StoredAll (fun v k => ∃ t, v = .str k t) (fun _ y => y = .bool true) (vs.filter q) kvs) : kvs = (ks.filter p).map keyT := by
  have e1 : ∃ l : List (Str × Tok), vs = l.map (fun x => Value.str x.1 x.2) ∧ l.map (·.1) = ks := by
    clear F
    induction vs generalizing ks with
    | nil => cases ks with
             | nil => exact ⟨[], rfl, rfl⟩
             | cons => simp at hl
    | cons v r ih =>
      cases ks with
      | nil => simp at hl
      | cons k ks =>
        obtain ⟨k', t, a, b⟩ := hP 0 v rfl
        cases a
        obtain ⟨l, e, f⟩ := ih (List.nodup_cons.mp nd).2 (by simpa using hl) fun j u hu => by simpa using hP (j + 1) u (by simpa using hu)
        exact ⟨(k, t) :: l, by rw [b, e]; rfl, by rw [← f]; rfl⟩
  obtain ⟨l, rfl, rfl⟩ := e1
  have e2 : ∀ (l : List (Str × Tok)), (l.map (fun x => Value.str x.1 x.2)).filter q = (l.filter fun x => p x.1).map fun x => Value.str x.1 x.2 := by
    intro l
    rw [List.filter_map]
    congr 1
    refine List.filter_congr fun x _ => ?_
    exact hq _ _
  rw [e2] at F
  have nd' : ((l.filter fun x => p x.1).map (·.1)).Nodup := nd.sublist (List.Sublist.map _ List.filter_sublist)
  have e3 : (l.map (·.1)).filter p = (l.filter fun x => p x.1).map (·.1) := by rw [List.filter_map]; rfl
  rw [e3]
  generalize l.filter (fun x => p x.1) = m at F nd'
  clear nd hl hP e2 e3
  have : ∀ (n : Nat) (m : List (Str × Tok)) (kvs : List (Str × Value)), m.length = n → (m.map (·.1)).Nodup → StoredAll (fun v k => ∃ t, v = Value.str k t) (fun _ y => y = Value.bool true) (m.map fun x => Value.str x.1 x.2) kvs → kvs = (m.map (·.1)).map keyT := by
    intro n
    induction n with
    | zero => intro m kvs hm _ F
              rw [List.length_eq_zero_iff.mp hm] at F
              generalize hz : List.map (fun x : Str × Tok => Value.str x.1 x.2) [] = z at F
              cases F with
              | nil => rw [List.length_eq_zero_iff.mp hm]; rfl
              | snoc _ _ _ => simp at hz
    | succ n ih =>
      intro m kvs hm nd F
      rcases List.eq_nil_or_concat m with e | ⟨m', x, e⟩
      · rw [e] at hm; cases hm
      · rw [List.concat_eq_append] at e
        subst e
        rw [List.map_append] at F
        generalize hz : (m'.map fun x => Value.str x.1 x.2) ++ [x].map (fun x => Value.str x.1 x.2) = z at F
        cases F with
        | nil => simp at hz
        | @snoc l' kvs' v k y F' hk hy =>
          obtain ⟨t, rfl⟩ := hk
          subst hy
          have hz' := hz
          rw [List.map_cons, List.map_nil] at hz'
          obtain ⟨a, b⟩ := List.append_inj' hz' rfl
          obtain ⟨rfl, rfl⟩ : x.1 = k ∧ x.2 = t := by simpa using b
          rw [List.map_append, List.nodup_append] at nd
          have := ih m' kvs' (by simpa using hm) nd.1 (a ▸ F')
          subst this
          rw [stored_keyT, if_neg, List.map_append]
          · rw [List.map_append, List.map_append]; rfl
          · intro q
            exact nd.2.2 _ q _ (by simp) rfl
  exact this _ m kvs rfl nd' F
theorem keysT_fst (ks : List Str) : (ks.map keyT).map (·.1) = ks := by rw [List.map_map]; exact List.map_id _
theorem DictH.ndT {d : Addr} {ks : List Str} (x : DictH prog w H d (ks.map keyT)) : ks.Nodup := by have := x.nd; rwa [keysT_fst] at this
inductive NeedsAll (prog : Program) (w : World) (H : KH) : List Value → List (Option (List Str)) → Prop
  | nil : NeedsAll prog w H [] []
  | cons {v n vs ns} : NeedsH prog w H v n → NeedsAll prog w H vs ns → NeedsAll prog w H (v :: vs) (n :: ns)
theorem NeedsAll.le {H' : KH} {vs : List Value} {ns : List (Option (List Str))} (x : NeedsAll prog w H vs ns) (l : H.le H') : NeedsAll prog w H' vs ns := by
  induction x with
  | nil => exact .nil
  | cons h _ ih => exact .cons (h.le l) ih
theorem NeedsAll.len {vs : List Value} {ns : List (Option (List Str))} (x : NeedsAll prog w H vs ns) : vs.length = ns.length := by
  induction x with
  | nil => rfl
  | cons _ _ ih => simp [ih]
theorem NeedsAll.at {vs : List Value} {ns : List (Option (List Str))} (x : NeedsAll prog w H vs ns) {i : Nat} {v : Value} (e : vs[i]? = some v) : ∃ n, ns[i]? = some n ∧ NeedsH prog w H v n := by
  induction x generalizing i with
  | nil => simp at e
  | cons h _ ih =>
    cases i with
    | zero => simp at e; subst e; exact ⟨_, rfl, h⟩
    | succ i => simpa using ih (by simpa using e)
noncomputable def eitherStep (acc n : Option (List Str)) : Option (List Str) := match n, acc with
  | none, acc => acc
  | some ks, none => some ks
  | some ks, some fs => some (fs.filter fun k => decide (k ∈ ks))
noncomputable def eitherF (ns : List (Option (List Str))) : Option (List Str) := ns.foldl eitherStep none
theorem eitherStep_len {acc n : Option (List Str)} {b : Nat} (h1 : lenF acc ≤ b) (h2 : lenF n ≤ b) : lenF (eitherStep acc n) ≤ b := by
  unfold eitherStep
  split
  · exact h1
  · exact h2
  · rename_i ks fs
    exact Nat.le_trans (List.length_filter_le _ _) h1
theorem either_len {b : Nat} : ∀ (ns : List (Option (List Str))) (acc : Option (List Str)), lenF acc ≤ b → (∀ n ∈ ns, lenF n ≤ b) → lenF (ns.foldl eitherStep acc) ≤ b
  | [], _, h, _ => h
  | n :: r, acc, h, hn => either_len r _ (eitherStep_len h (hn n (.head _))) fun m hm => hn m (.tail _ hm)
theorem foldl_take_succ {α β : Type} (f : β → α → β) (b : β) (l : List α) (i : Nat) (x : α) (h : l[i]? = some x) : (l.take (i + 1)).foldl f b = f ((l.take i).foldl f b) x := by
  rw [List.take_add_one, h]; simp
theorem valueAt_keyT (ks : List Str) (k : Str) : (valueAt (ks.map keyT) k).isSome = decide (k ∈ ks) := by
  induction ks with
  | nil => rfl
  | cons a r ih =>
    unfold valueAt at ih ⊢
    rw [List.map_cons, List.find?_cons]
    by_cases h : a = k
    · subst h; simp [keyT]
    · have : (decide ((keyT a).1 = k)) = false := decide_eq_false h
      rw [this]
      show (Option.map _ (List.find? _ (r.map keyT))).isSome = _
      rw [ih]
      have h' : ¬ k = a := fun q => h q.symm
      simp [h']
theorem in_dictT {d : Addr} {ks : List Str} {k : Str} {t : Tok} {E : Value → Shared → Prop} {s : Shared} {Q : Value → Shared → Prop} (D : DictH prog w H d (ks.map keyT)) (kn : InH H s.heap) (h : ∀ tk, Q (.bool (decide (k ∈ ks))) (uT s tk)) :
    wpAny (model prog w) A (compareOp .In (.str k t) (.ref d)) Q E s :=
  wpAny_in_of (knd := PySem.strKind prog w) (k := k) (strKind_is prog w k t) (beq_eq_false_iff_ne.mpr D.1) (D.at kn).mapOf (by rw [valueAt_keyT]; exact h _)
end
end Mine
end
section
open PySem PySem.W PyProof.Rows PySem.Calls
set_option maxRecDepth 10000
namespace Mine
inductive All2 {α β : Type} (R : α → β → Prop) : List α → List β → Prop
  | nil : All2 R [] []
  | cons {a b as bs} : R a b → All2 R as bs → All2 R (a :: as) (b :: bs)
theorem All2.imp {α β : Type} {R R' : α → β → Prop} {as : List α} {bs : List β} (x : All2 R as bs) (f : ∀ a b, R a b → R' a b) : All2 R' as bs := by
  induction x with
  | nil => exact .nil
  | cons h _ ih => exact .cons (f _ _ h) ih
theorem All2.len {α β : Type} {R : α → β → Prop} {as : List α} {bs : List β} (x : All2 R as bs) : as.length = bs.length := by
  induction x with
  | nil => rfl
  | cons _ _ ih => simp [ih]
theorem All2.at {α β : Type} {R : α → β → Prop} {as : List α} {bs : List β} (x : All2 R as bs) {i : Nat} {a : α} (e : as[i]? = some a) : ∃ b, bs[i]? = some b ∧ R a b := by
  induction x generalizing i with
  | nil => simp at e
  | cons h _ ih =>
    cases i with
    | zero => simp at e; subst e; exact ⟨_, rfl, h⟩
    | succ i => simpa using ih (by simpa using e)
noncomputable def Inst (H : KH) (C : Addr) (a : Addr) (l : List (Str × Value)) : Prop := ∃ dx m, H a = some (instObj C dx) ∧ NsH H dx m ∧ ∀ p ∈ l, m p.1 = some p.2
theorem NsH.le {H H' : KH} {a : Addr} {m : Str → Option Value} (x : NsH H a m) (l : H.le H') : NsH H' a m := let ⟨o, es, ep, e, r⟩ := x; ⟨o, es, ep, l _ _ e, r⟩
theorem Inst.le {H H' : KH} {C a : Addr} {l : List (Str × Value)} (x : Inst H C a l) (k : H.le H') : Inst H' C a l := let ⟨dx, m, e, n, r⟩ := x; ⟨dx, m, k _ _ e, n.le k, r⟩
noncomputable def TupH (H : KH) (a : Addr) (vs : List Value) : Prop := ∃ ep, H a = some { cls := .type "tuple", data := .seq vs.toArray ep }
theorem TupH.le {H H' : KH} {a : Addr} {vs : List Value} (x : TupH H a vs) (k : H.le H') : TupH H' a vs := let ⟨ep, e⟩ := x; ⟨ep, k _ _ e⟩
theorem lookIn_of {o : Obj} {es : Array DictEntry} {ep : Nat} {name : Str} {v : Value} (hd : o.data = .dict es ep) (h : nsFind es name = some v) : lookIn name o = some (some v) := by
  unfold lookIn
  rw [hd]
  unfold nsFind findBy at h
  rw [← Array.find?_toList] at h
  obtain ⟨e, he, hv⟩ := Option.map_eq_some_iff.mp h
  show (match es.toList.find? (·.key.isStr name) with | some e => some (some e.val) | none => _) = _
  rw [he]
  show some (some e.val) = _
  rw [hv]
noncomputable def attrOk (K : Frag) (C : Addr) (name : Str) : Bool := plainGet K C name && hasDictIn K C && (findIn K (.ref C) name == some none)
section
variable {prog : Program} {w : World} {A : Around} {E : Value → Shared → Prop} {s : Shared} {K : Frag} {H0 H : KH} {env : Env} {V : Str → Option Value}
theorem Inst.at {C a : Addr} {l : List (Str × Value)} {h : Heap} (x : Inst H C a l) (k : InH H h) : ∃ dx od, InstAt h a (instObj C dx) C (some od) ∧ ∀ p ∈ l, lookIn p.1 od = some (some p.2) := by
  obtain ⟨dx, m, e, ⟨o, es, ep, eo, hd, hk, hf⟩, r⟩ := x
  exact ⟨dx, o, ⟨k _ _ e, rfl, rfl, k _ _ eo⟩, fun p hp => lookIn_of hd ((hf _).trans (r p hp))⟩
theorem get_field {C a : Addr} {l : List (Str × Value)} {name : Str} {v : Value} {expr : Bool} {Q : Value → Shared → Prop} (X : K.In s.heap) (kn : InH H s.heap) (I : Inst H C a l) (ok : attrOk K C name = true) (hm : (name, v) ∈ l) (hv : handedIn v = true) (h : ∀ tk, Q v (uT s tk)) :
    wpAny (model prog w) A (getAttr (.ref a) name expr) Q E s := by
  obtain ⟨dx, od, IA, r⟩ := I.at kn
  unfold attrOk at ok
  rw [Bool.and_eq_true, Bool.and_eq_true] at ok
  obtain ⟨⟨o1, o2⟩, o3⟩ := ok
  exact get_value X IA (plainGet_of o1).1 (findObj_own o2 (beq_iff_eq.mp o3) rfl (r _ hm)) hv (h _)
theorem ev_attr {x name : Str} {xp pos : Pos} {C a : Addr} {l : List (Str × Value)} {v : Value} {Q : Value → Shared → Prop} (B : Base K H0) (S : Rs H0 H env V s.heap) (hx : V x = some (.ref a)) (hk : env.kindOf x = some .local ∨ env.kindOf x = some .cell) (I : Inst H C a l) (ok : attrOk K C name = true) (hm : (name, v) ∈ l) (hv : handedIn v = true)
    (h : ∀ tk, Q v (uT s tk)) (hd : (x == ("__debug__" : Str)) = false := by decide) : wpAny (model prog w) A (eval (.Attribute (.Name x xp) name pos) env) Q E s :=
  Attribute_name (ev_var S hx (get_field (S.inK B) S.kn I ok hm hv h) hk hd)
theorem ev_attr2 {x name more : Str} {xp p1 pos : Pos} {C C' a a' : Addr} {l l' : List (Str × Value)} {v : Value} {Q : Value → Shared → Prop} (B : Base K H0) (S : Rs H0 H env V s.heap) (hx : V x = some (.ref a)) (hk : env.kindOf x = some .local ∨ env.kindOf x = some .cell) (I : Inst H C a l) (ok : attrOk K C name = true) (hm : (name, .ref a') ∈ l)
    (I' : Inst H C' a' l') (ok' : attrOk K C' more = true) (hm' : (more, v) ∈ l') (hv : handedIn v = true)
    (h : ∀ tk, Q v (uT s tk)) (hd : (x == ("__debug__" : Str)) = false := by decide) : wpAny (model prog w) A (eval (.Attribute (.Attribute (.Name x xp) name p1) more pos) env) Q E s :=
  Attribute_any_ (ev_attr B S hx hk I ok hm rfl (fun tk => get_field (s := uT s tk) (S.inK B) S.kn I' ok' hm' hv fun tk' => h tk') hd)
structure OwnOk (K : Frag) (D : Addr) : Prop where
  g : plainGet K D "__class__" = true
  d : hasDictIn K D = true
  a : findIn K (.ref D) "__class__" = some (some (.builtin "object.__class__"))
  n : specialIn K (.builtin "object.__class__") "__get__" = some (some (.builtin "getset_descriptor.__get__"))
  t : takesIn K (.builtin "object.__class__") = some true
  m : mroIn K D (.type "object") = some true
theorem isi_one {C a D : Addr} {l : List (Str × Value)} {b : Bool} {Q : Value → Shared → Prop} (X : K.In s.heap) (kn : InH H s.heap) (I : Inst H C a l) (o : OwnOk K C) (e : kitOne K (.ref C) (.ref D) = some b) (h : ∀ tk, Q (.bool b) (uT s tk)) :
    wpAny (model prog w) A (call (.builtin "isinstance") [.ref a, .ref D]) Q E s := by
  obtain ⟨dx, od, IA, _⟩ := I.at kn
  exact kia_one (kitx_own o.g o.d o.a o.n o.t o.m) X IA e (by intro q; cases q) h
theorem isi_tup {C a tp : Addr} {l : List (Str × Value)} {its : List Value} {n : Nat} {b : Bool} {Q : Value → Shared → Prop} (X : K.In s.heap) (kn : InH H s.heap) (I : Inst H C a l) (o : OwnOk K C) (ht : s.heap.get? tp = some { cls := .type "tuple", data := .seq its.toArray n }) (e : kitAny K (.ref C) its = some b) (h : ∀ tk, Q (.bool b) (uT s tk)) :
    wpAny (model prog w) A (call (.builtin "isinstance") [.ref a, .ref tp]) Q E s := by
  obtain ⟨dx, od, IA, _⟩ := I.at kn
  exact kia_tup (kitx_own o.g o.d o.a o.n o.t o.m) X IA ht e (by intro q; cases q) h
end
noncomputable def nodes : List Addr := [59, 101, 143, 185, 227, 290, 332, 374]
theorem isi_tab (w : World) : (nodes.all fun C => nodes.all fun D => kitOne (KW w) (.ref C) (.ref D) == some (C == D)) = true := by kernel_rfl
theorem isi_ok {w : World} {C D : Addr} (hC : C ∈ nodes) (hD : D ∈ nodes) : kitOne (KW w) (.ref C) (.ref D) = some (C == D) :=
  beq_iff_eq.mp (List.all_eq_true.mp (List.all_eq_true.mp (isi_tab w) C hC) D hD)
theorem isi_any {w : World} {C : Addr} (hC : C ∈ nodes) : ∀ {Ds : List Addr}, (∀ D ∈ Ds, D ∈ nodes) → kitAny (KW w) (.ref C) (Ds.map .ref) = some (Ds.any fun D => C == D)
  | [], _ => rfl
  | D :: r, h => by
    have e := isi_ok (w := w) hC (h D (.head _))
    have ih := isi_any (w := w) hC (Ds := r) fun D hD => h D (.tail _ hD)
    rw [List.map_cons, List.any_cons]
    unfold kitAny
    rw [e]
    cases C == D with
    | true => rfl
    | false => exact ih
theorem own_tab (w : World) : (nodes.all fun D => plainGet (KW w) D "__class__" && hasDictIn (KW w) D && (findIn (KW w) (.ref D) "__class__" == some (some (.builtin "object.__class__"))) && (mroIn (KW w) D (.type "object") == some true)) = true := by kernel_rfl
theorem own_n (w : World) : specialIn (KW w) (.builtin "object.__class__") "__get__" = some (some (.builtin "getset_descriptor.__get__")) := by kernel_rfl
theorem own_t (w : World) : takesIn (KW w) (.builtin "object.__class__") = some true := by kernel_rfl
theorem own_ok {w : World} {D : Addr} (h : D ∈ nodes) : OwnOk (KW w) D := by
  have := List.all_eq_true.mp (own_tab w) D h
  rw [Bool.and_eq_true, Bool.and_eq_true, Bool.and_eq_true] at this
  obtain ⟨⟨⟨a, b⟩, c⟩, d⟩ := this
  exact ⟨a, b, beq_iff_eq.mp c, own_n w, own_t w, beq_iff_eq.mp d⟩
noncomputable abbrev fieldsOf : List (Addr × List Str) := [(59, ["name"]), (101, ["kind", "value"]), (143, ["fun", "args"]), (185, ["params", "body"]), (227, ["binds", "body", "is_rec"]), (248, ["key", "names", "body"]), (290, ["value", "name", "alts", "other"]), (332, ["name", "args"]), (374, ["op", "args"]), (402, ["flags", "free", "diverges"])]
theorem attr_tab (w : World) : (fieldsOf.all fun p => p.2.all fun n => attrOk (KW w) p.1 n) = true := by kernel_rfl
theorem attr_ok {w : World} {C : Addr} {ns : List Str} {n : Str} (h : (C, ns) ∈ fieldsOf) (hn : n ∈ ns) : attrOk (KW w) C n = true := List.all_eq_true.mp (List.all_eq_true.mp (attr_tab w) _ h) _ hn
end Mine
end
local macro_rules | `(tactic| walk_at "AT") => `(tactic| exact Mine.attr_ok (by walk_at "MEM") (by walk_at "MEM"))
section
open PySem PySem.W PyProof.Rows PySem.Calls
set_option maxRecDepth 10000
namespace Mine
inductive Ex where
  | var (x : Str)
  | lit
  | con
  | prim (err : Bool) (args : List Ex)
  | case (e : Ex) (c : Str) (alts : List (List Str × Ex)) (o : Option Ex)
  | let_ (binds : List (Str × Ex)) (b : Ex) (r : Bool)
  | appv (f : Str) (args : List Ex)
  | appl (ps : List Str) (b : Ex) (args : List Ex)
noncomputable abbrev opName (err : Bool) : Str := if err then "error" else "intAdd"
noncomputable def TreeAt (H : KH) : Nat → Value → Ex → Prop
  | 0, _, _ => False
  | _ + 1, v, .var x => ∃ a t, v = .ref a ∧ Inst H 59 a [("name", .str x t)]
  | _ + 1, v, .lit => ∃ a, v = .ref a ∧ Inst H 101 a []
  | _ + 1, v, .con => ∃ a, v = .ref a ∧ Inst H 332 a []
  | n + 1, v, .prim err args => Ex4 fun a l vs t => v = .ref a ∧ Inst H 374 a [("op", .str (opName err) t), ("args", .ref l)] ∧ ListH H l vs ∧ All2 (fun v e => TreeAt H n v e) vs args
  | n + 1, v, .case e c alts o => Ex6 fun a l vs ve vo t => v = .ref a ∧ Inst H 290 a [("value", ve), ("name", .str c t), ("alts", .ref l), ("other", vo)] ∧ TreeAt H n ve e ∧ ListH H l vs ∧
      All2 (fun v (p : List Str × Ex) => Ex4 fun a l' ns vb => v = .ref a ∧ Inst H 248 a [("names", .ref l'), ("body", vb)] ∧ ListH H l' ns ∧ StrsAre ns p.1 ∧ TreeAt H n vb p.2) vs alts ∧
      (match o with | none => vo = .none | some e => TreeAt H n vo e)
  | n + 1, v, .let_ binds b r => Ex4 fun a l vs vb => v = .ref a ∧ Inst H 227 a [("binds", .ref l), ("body", vb), ("is_rec", .bool r)] ∧ ListH H l vs ∧
      All2 (fun v (p : Str × Ex) => Ex3 fun a t ve => v = .ref a ∧ TupH H a [.str p.1 t, ve] ∧ TreeAt H n ve p.2) vs binds ∧ TreeAt H n vb b
  | n + 1, v, .appv f args => Ex5 fun a af l vs t => An5 (v = .ref a) (Inst H 143 a [("fun", .ref af), ("args", .ref l)]) (Inst H 59 af [("name", .str f t)]) (ListH H l vs) (All2 (fun v e => TreeAt H n v e) vs args)
  | n + 1, v, .appl ps b args => Ex7 fun a af lp pvs vb l vs => An8 (v = .ref a) (Inst H 143 a [("fun", .ref af), ("args", .ref l)]) (Inst H 185 af [("params", .ref lp), ("body", vb)]) (ListH H lp pvs) (StrsAre pvs ps) (TreeAt H n vb b) (ListH H l vs) (All2 (fun v e => TreeAt H n v e) vs args)
theorem TreeAt.le {H H' : KH} (k : H.le H') : ∀ (n : Nat) (v : Value) (e : Ex), TreeAt H n v e → TreeAt H' n v e
  | 0, _, _, h => h
  | n + 1, v, e, h => by
    have ih := TreeAt.le k n
    cases e with
    | var x => obtain ⟨a, t, e, I⟩ := h; exact ⟨a, t, e, I.le k⟩
    | lit => obtain ⟨a, e, I⟩ := h; exact ⟨a, e, I.le k⟩
    | con => obtain ⟨a, e, I⟩ := h; exact ⟨a, e, I.le k⟩
    | prim err args => obtain ⟨a, l, vs, t, e, I, L, x⟩ := h; exact ⟨a, l, vs, t, e, I.le k, L.le k, x.imp ih⟩
    | case e c alts o =>
      obtain ⟨a, l, vs, ve, vo, t, e1, I, T, L, x, ho⟩ := h
      refine ⟨a, l, vs, ve, vo, t, e1, I.le k, ih _ _ T, L.le k, x.imp fun v p q => ?_, ?_⟩
      · obtain ⟨a, l', ns, vb, e2, I2, L2, s2, T2⟩ := q
        exact ⟨a, l', ns, vb, e2, I2.le k, L2.le k, s2, ih _ _ T2⟩
      · cases o with
        | none => exact ho
        | some e => exact ih _ _ ho
    | let_ binds b r =>
      obtain ⟨a, l, vs, vb, e1, I, L, x, T⟩ := h
      refine ⟨a, l, vs, vb, e1, I.le k, L.le k, x.imp fun v p q => ?_, ih _ _ T⟩
      obtain ⟨a, t, ve, e2, U, T2⟩ := q
      exact ⟨a, t, ve, e2, U.le k, ih _ _ T2⟩
    | appv f args => obtain ⟨a, af, l, vs, t, e, I, I2, L, x⟩ := h; exact ⟨a, af, l, vs, t, e, I.le k, I2.le k, L.le k, x.imp ih⟩
    | appl ps b args => obtain ⟨a, af, lp, pvs, vb, l, vs, e, I, I2, Lp, sp, T, L, x⟩ := h; exact ⟨a, af, lp, pvs, vb, l, vs, e, I.le k, I2.le k, Lp.le k, sp, ih _ _ T, L.le k, x.imp ih⟩
noncomputable def clsOf : Ex → Addr
  | .var _ => 59
  | .lit => 101
  | .con => 332
  | .prim _ _ => 374
  | .case _ _ _ _ => 290
  | .let_ _ _ _ => 227
  | .appv _ _ => 143
  | .appl _ _ _ => 143
theorem clsOf_node (e : Ex) : clsOf e ∈ nodes := by cases e <;> simp [clsOf, nodes]
theorem TreeAt.inst {H : KH} {n : Nat} {v : Value} {e : Ex} (h : TreeAt H n v e) : ∃ a l, v = .ref a ∧ Inst H (clsOf e) a l := by
  cases n with
  | zero => exact h.elim
  | succ n =>
    cases e with
    | var x => obtain ⟨a, t, e, I⟩ := h; exact ⟨a, _, e, I⟩
    | lit => obtain ⟨a, e, I⟩ := h; exact ⟨a, _, e, I⟩
    | con => obtain ⟨a, e, I⟩ := h; exact ⟨a, _, e, I⟩
    | prim err args => obtain ⟨a, l, vs, t, e, I, _⟩ := h; exact ⟨a, _, e, I⟩
    | case e c alts o => obtain ⟨a, l, vs, ve, vo, t, e1, I, _⟩ := h; exact ⟨a, _, e1, I⟩
    | let_ binds b r => obtain ⟨a, l, vs, vb, e1, I, _⟩ := h; exact ⟨a, _, e1, I⟩
    | appv f args => obtain ⟨a, af, l, vs, t, e, I, _⟩ := h; exact ⟨a, _, e, I⟩
    | appl ps b args => obtain ⟨a, af, lp, pvs, vb, l, vs, e, I, _⟩ := h; exact ⟨a, _, e, I⟩
noncomputable def Few : Nat → Ex → Prop
  | 0, _ => False
  | _ + 1, .var _ | _ + 1, .lit | _ + 1, .con => True
  | n + 1, .prim _ args => args.length ≤ 2 ∧ ∀ e ∈ args, Few n e
  | n + 1, .case e _ alts o => Few n e ∧ alts.length ≤ 1 ∧ (∀ p ∈ alts, Few n p.2) ∧ (∀ e ∈ o, Few n e) ∧ ∀ p ∈ alts, p.1.length ≤ 100
  | n + 1, .let_ binds b _ => binds.length ≤ 2 ∧ (binds.map (·.1)).Nodup ∧ (∀ p ∈ binds, Few n p.2) ∧ Few n b
  | n + 1, .appv _ args => args.length ≤ 2 ∧ ∀ e ∈ args, Few n e
  | n + 1, .appl ps b args => ps.length ≤ 2 ∧ Few n b ∧ args.length ≤ 2 ∧ ∀ e ∈ args, Few n e
end Mine
end
section
open PySem PySem.W PyProof.Rows PySem.Calls
set_option maxRecDepth 10000
namespace Mine
section
variable {prog : Program} {w : World} {A : Around} {H0 H : KH}
theorem both_spec {n1 n2 : Option (List Str)} {v1 v2 : Value} (B : Base (KW w) H0) (l0 : H0.le H) (R : Room A 3) (h1 : NeedsH prog w H v1 n1) (h2 : NeedsH prog w H v2 n2) (hsz : lenF n1 + lenF n2 ≤ 10000) :
    Pure prog w A H 420 [v1, v2] (fun H' r => NeedsH prog w H' r (bothF n1 n2)) := by
  intro s E Q kn hQ
  refine call_fn (ms := []) (binds := [("one", v1), ("other", v2)]) B l0 kn (fun _ h => nomatch h) .nil R.depth rfl rfl rfl rfl rfl rfl rfl ?_
  intro L h₁ tk S
  refine xs ?_
  cases n1 with
  | none =>
    cases h1
    refine if_t (wpAny_isTrue_BoolOp (wpAny_allTrue_Or_cons (t_isNone S.toRs rfl (by walk_at "VK") ⟨rfl, ?_⟩)))
    refine xs (wpAny_Return_some (wpAny_Constant_none ?_))
    exact hQ _ H _ _ S.post.grow rfl
  | some a =>
    obtain ⟨d1, rfl, D1⟩ := h1
    cases n2 with
    | none =>
      cases h2
      refine if_t (wpAny_isTrue_BoolOp (wpAny_allTrue_Or_cons (t_isNone S.toRs rfl (by walk_at "VK") ?_)))
      refine wpAny_allTrue_Or_cons (t_isNone S.toRs rfl (by walk_at "VK") ⟨rfl, ?_⟩)
      refine xs (wpAny_Return_some (wpAny_Constant_none ?_))
      exact hQ _ H _ _ S.post.grow rfl
    | some b =>
      obtain ⟨d2, rfl, D2⟩ := h2
      have z1 : a.length + b.length ≤ 10000 := hsz
      have z2 : sizeLine = 16777216 := sizeLine_eq
      refine if_f (wpAny_isTrue_BoolOp (wpAny_allTrue_Or_cons (t_isNone S.toRs rfl (by walk_at "VK") ?_)))
      refine wpAny_allTrue_Or_cons (t_isNone S.toRs rfl (by walk_at "VK") ?_)
      refine wpAny_allTrue_Or_nil ⟨rfl, wpAny_execs_nil ?_⟩
      refine xs (wpAny_Assign_Name (ev_callT B S.toRs rfl rfl rfl (wpAny_items_cons (ev_var S.toRs rfl (wpAny_items_nil ?_) (by walk_at "VK")))))
      refine dict_copy B S (D1.at S.kn) D1.1 (by rw [List.length_map]; lia) fun d o h₂ S₂ hd nm fr => ?_
      refine St.store S₂ (by walk_at "VK") fun h₃ tk₃ S₃ => ?_
      refine xs (wpAny_Expr (wpAny_Call_method1_late rfl rfl rfl (ev_var S₃.toRs rfl (meth_update S₃ hd (ev_var S₃.toRs rfl ?_ (by walk_at "VK"))) (by walk_at "VK"))))
      refine dict_update S₃ hd (D2.at S₃.kn) (S₃.ne D2.known) D2.1 (by rw [List.length_map, List.length_map]; lia) fun o' h₄ S₄ hd' => ?_
      refine xs (wpAny_Return_some (ev_var S₄.toRs rfl ?_ (by walk_at "VK")))
      refine hQ _ _ _ _ (S₄.freeze (by simp)).post.grow ⟨d, rfl, nm, o', addH_self, ?_⟩
      rw [← merged_keyT]; exact hd'
theorem extended_spec {e m : Addr} (B : Base (KW w) H0) (l0 : H0.le H) (R : Room A 3) (he : DictH prog w H e []) (hm : DictH prog w H m []) :
    Pure prog w A H 437 [.ref e, .ref m] (fun H' r => ∃ d, r = .ref d ∧ DictH prog w H' d []) := by
  intro s E Q kn hQ
  refine call_fn (ms := []) (binds := [("env", .ref e), ("more", .ref m)]) B l0 kn (fun _ h => nomatch h) .nil R.depth rfl rfl rfl rfl rfl rfl rfl ?_
  intro L h₁ tk S
  have z2 : sizeLine = 16777216 := sizeLine_eq
  refine xs (wpAny_Assign_Name (ev_callT B S.toRs rfl rfl rfl (wpAny_items_cons (ev_var S.toRs rfl (wpAny_items_nil ?_) (by walk_at "VK")))))
  refine dict_copy B S (he.at S.kn) he.1 (by simp) fun d o h₂ S₂ hd nm fr => ?_
  refine St.store S₂ (by walk_at "VK") fun h₃ tk₃ S₃ => ?_
  refine xs (wpAny_Expr (wpAny_Call_method1_late rfl rfl rfl (ev_var S₃.toRs rfl (meth_update S₃ hd (ev_var S₃.toRs rfl ?_ (by walk_at "VK"))) (by walk_at "VK"))))
  refine dict_update S₃ hd (hm.at S₃.kn) (S₃.ne hm.known) hm.1 (by simp) fun o' h₄ S₄ hd' => ?_
  refine xs (wpAny_Return_some (ev_var S₄.toRs rfl ?_ (by walk_at "VK")))
  exact hQ _ _ _ _ (S₄.freeze (by simp)).post.grow ⟨d, rfl, nm, o', addH_self, hd'⟩
theorem without_spec {n : Option (List Str)} {ns : List Str} {v nv : Value} (B : Base (KW w) H0) (l0 : H0.le H) (R : Room A 3) (h1 : NeedsH prog w H v n) (h2 : NamesH H nv ns) (hsz : lenF n ≤ 10000) :
    Pure prog w A H 430 [v, nv] (fun H' r => NeedsH prog w H' r (withoutF n ns)) := by
  intro s E Q kn hQ
  refine call_fn (ms := []) (binds := [("needs", v), ("names", nv)]) B l0 kn (fun _ h => nomatch h) .nil R.depth rfl rfl rfl rfl rfl rfl rfl ?_
  intro L h₁ tk S
  have z2 : sizeLine = 16777216 := sizeLine_eq
  refine xs ?_
  cases n with
  | none =>
    cases h1
    refine if_t (t_isNone S.toRs rfl (by walk_at "VK") ⟨rfl, ?_⟩)
    refine xs (wpAny_Return_some (wpAny_Constant_none ?_))
    exact hQ _ H _ _ S.post.grow rfl
  | some ks =>
    obtain ⟨d, rfl, D⟩ := h1
    refine absG fun gG hgG => ?_
    obtain ⟨a, vs, rfl, hl, hs⟩ := h2
    refine hgG ?_; clear hgG
    have z1 : ks.length ≤ 10000 := hsz
    refine if_f (t_isNone S.toRs rfl (by walk_at "VK") ⟨rfl, wpAny_execs_nil ?_⟩)
    refine xs (wpAny_Return_some ?_)
    let q : Value → Bool := fun v => match v with | .str k _ => !(ns.any (· == k)) | _ => false
    refine dcomp B S (.of rfl) q (fun v k => ∃ t, v = .str k t) (fun _ y => y = .bool true) (ev_var S.toRs rfl ?_ (by walk_at "VK"))
    refine ⟨H, _, _, _, _, S, iter_dict R.hd D.1 (D.at S.kn), by rw [List.length_map]; lia, ?_, ?_, ?_, ?_⟩
    · intro cenv i v s₃ E' rI5 S₃ hsc
      refine absG fun gG hgG => ?_
      obtain ⟨k, x, hk, hv⟩ := rI5
      refine hgG ?_; clear hgG
      obtain ⟨t, rfl⟩ := Value.isStrOf_shape hv
      refine tests_one (wpAny_isTrue_Compare1 (ev_var S₃ rfl (ev_var S₃ rfl ?_ ?_) ?_) rfl)
      · exact notin_list_strs (hl.at S₃.kn) hs (wpAny_truthy_bool ⟨rfl, keeps_refl⟩)
      · exact .inr (by show cenv.scope.names.lookup _ = _; rw [hsc]; rfl)
      · exact .inl (by show cenv.scope.names.lookup _ = _; rw [hsc]; rfl)
    · intro cenv i v s₃ E' rI5 hp S₃ hsc
      refine absG fun gG hgG => ?_
      obtain ⟨k, x, hk, hv⟩ := rI5
      refine hgG ?_; clear hgG
      obtain ⟨t, rfl⟩ := Value.isStrOf_shape hv
      exact ev_var S₃ rfl ⟨⟨k, hv, t, rfl⟩, keeps_refl⟩ (.inl (by show cenv.scope.names.lookup _ = _; rw [hsc]; rfl))
    · intro cenv i v s₃ E' _ hp S₃ hsc
      exact wpAny_Constant_bool ⟨rfl, keeps_refl⟩
    · intro D' o kvs ws h' tk' S' nm od hlen hP F
      have : kvs = (ks.filter fun k => !(ns.any (· == k))).map keyT := stored_keys D.ndT q (by rw [hlen, List.length_map]) (fun j v hv => by
        refine absG fun gG hgG => ?_
        obtain ⟨k, x, hk, hv'⟩ := hP j v hv
        refine hgG ?_; clear hgG
        obtain ⟨t, rfl⟩ := Value.isStrOf_shape hv'
        rw [List.getElem?_map] at hk
        obtain ⟨k', hk', e⟩ := Option.map_eq_some_iff.mp hk
        cases e
        exact ⟨_, t, hk', rfl⟩) (fun k t => rfl) F
      subst this
      exact hQ _ _ _ _ (S'.freeze (by simp)).post.grow ⟨D', rfl, nm, o, addH_self, od⟩
theorem either_spec {ns : List (Option (List Str))} {vs : List Value} {a : Addr} (B : Base (KW w) H0) (l0 : H0.le H) (R : Room A 3) (hl : ListH H a vs) (hn : NeedsAll prog w H vs ns) (hsz : ∀ n ∈ ns, lenF n ≤ 10000) :
    Pure prog w A H 425 [.ref a] (fun H' r => NeedsH prog w H' r (eitherF ns)) := by
  intro s E Q kn hQ
  refine call_fn (ms := []) (binds := [("lots", .ref a)]) B l0 kn (fun _ h => nomatch h) .nil R.depth rfl rfl rfl rfl rfl rfl rfl ?_
  intro L h₁ tk S
  have z2 : sizeLine = 16777216 := sizeLine_eq
  refine xs (wpAny_Assign_Name (wpAny_Constant_none ?_))
  refine St.store S (by walk_at "VK") fun h₂ tk₂ S₂ => ?_
  refine xs (for_list (c := ⟨H0, H, s.heap, []⟩) R.hd (by walk_at "VK") (fun i H' V' ms' => ms' = [] ∧ ∃ fv, V' "found" = some fv ∧ NeedsH prog w H' fv ((ns.take i).foldl eitherStep none)) ?_)
  refine ev_var S₂.toRs rfl ⟨a, vs, H, _, [], rfl, hl, S₂, ⟨rfl, .none, rfl, rfl⟩, ?_, ?_⟩ (by walk_at "VK")
  · intro i v I oI H' V' ms' h' tk' hv le rI11 S' hX
    refine absG fun gG hgG => ?_
    obtain ⟨rfl, fv, hfv, hN⟩ := rI11
    refine hgG ?_; clear hgG
    obtain ⟨n, hni, hvn⟩ := hn.at hv
    have hvn' := hvn.le le
    have step := foldl_take_succ eitherStep none ns i n hni
    refine xs ?_
    cases n with
    | none =>
      cases hvn'
      refine if_f (t_notNone S'.toRs rfl (by walk_at "VK") ⟨rfl, ?_⟩)
      refine wpAny_execs_nil (wpAny_execs_nil ⟨H', _, [], h', _, rfl, .refl _, S', rfl, fv, hfv, ?_⟩)
      rw [step]; exact hN
    | some ks =>
      obtain ⟨d, rfl, D⟩ := hvn'
      have zk : ks.length ≤ 10000 := hsz _ (List.mem_of_getElem? hni)
      refine if_t (t_notNone S'.toRs rfl (by walk_at "VK") ⟨rfl, ?_⟩)
      refine xs (wpAny_Assign_Name (wpAny_IfExp ?_))
      generalize hacc : (ns.take i).foldl eitherStep none = acc at hN step
      cases acc with
      | none =>
        cases hN
        refine t_isNone S'.toRs hfv (by walk_at "VK") ?_
        refine ev_callT B S'.toRs rfl rfl rfl (wpAny_items_cons (ev_var S'.toRs rfl (wpAny_items_nil ?_) (by walk_at "VK")))
        refine dict_copy B S' (D.at S'.kn) D.1 (by rw [List.length_map]; lia) fun D' o h₃ S₃ hd nm fr => ?_
        refine St.store S₃ (by walk_at "VK") fun h₄ tk₄ S₄ => ?_
        refine wpAny_execs_nil (wpAny_execs_nil ⟨_, _, [], h₄, _, rfl, addH_le (S₄.mu _ (.head _)).2.1, S₄.freeze (by simp), rfl, _, rfl, ?_⟩)
        rw [step]
        exact ⟨D', rfl, nm, o, addH_self, hd⟩
      | some fs =>
        obtain ⟨df, rfl, Df⟩ := hN
        have zf : fs.length ≤ 10000 := by
          have := either_len (b := 10000) (ns.take i) none (Nat.zero_le _) fun m hm => hsz m (List.mem_of_mem_take hm)
          rw [hacc] at this; exact this
        refine t_isNone S'.toRs hfv (by walk_at "VK") ?_
        let q : Value → Bool := fun v => match v with | .str k _ => decide (k ∈ ks) | _ => false
        refine dcomp B S' (.of rfl) q (fun v k => ∃ t, v = .str k t) (fun _ y => y = .bool true) (ev_var S'.toRs hfv ?_ (by walk_at "VK"))
        refine ⟨H', _, _, _, _, S', iter_dict R.hd Df.1 (Df.at S'.kn), by rw [List.length_map]; lia, ?_, ?_, ?_, ?_⟩
        · intro cenv i v s₃ E' rI5 S₃ hsc
          refine absG fun gG hgG => ?_
          obtain ⟨k, x, hk, hv⟩ := rI5
          refine hgG ?_; clear hgG
          obtain ⟨t, rfl⟩ := Value.isStrOf_shape hv
          refine tests_one (wpAny_isTrue_Compare1 (ev_var S₃ rfl (ev_var S₃ rfl ?_ ?_) ?_) rfl)
          · exact in_dictT D S₃.kn fun tk => wpAny_truthy_bool ⟨rfl, keeps_of (.refl _)⟩
          · exact .inr (by show cenv.scope.names.lookup _ = _; rw [hsc]; rfl)
          · exact .inl (by show cenv.scope.names.lookup _ = _; rw [hsc]; rfl)
        · intro cenv i v s₃ E' rI5 hp S₃ hsc
          refine absG fun gG hgG => ?_
          obtain ⟨k, x, hk, hv⟩ := rI5
          refine hgG ?_; clear hgG
          obtain ⟨t, rfl⟩ := Value.isStrOf_shape hv
          exact ev_var S₃ rfl ⟨⟨k, hv, t, rfl⟩, keeps_refl⟩ (.inl (by show cenv.scope.names.lookup _ = _; rw [hsc]; rfl))
        · intro cenv i v s₃ E' _ hp S₃ hsc
          exact wpAny_Constant_bool ⟨rfl, keeps_refl⟩
        · intro D' o kvs ws h₃ tk₃ S₃ nm od hlen hP F
          have : kvs = (fs.filter fun k => decide (k ∈ ks)).map keyT := stored_keys Df.ndT q (by rw [hlen, List.length_map]) (fun j v hv => by
            refine absG fun gG hgG => ?_
            obtain ⟨k, x, hk, hv'⟩ := hP j v hv
            refine hgG ?_; clear hgG
            obtain ⟨t, rfl⟩ := Value.isStrOf_shape hv'
            rw [List.getElem?_map] at hk
            obtain ⟨k', hk', e⟩ := Option.map_eq_some_iff.mp hk
            cases e
            exact ⟨_, t, hk', rfl⟩) (fun k t => rfl) F
          subst this
          refine St.store (s := uP s h₃ tk₃) S₃ (by walk_at "VK") fun h₄ tk₄ S₄ => ?_
          refine wpAny_execs_nil (wpAny_execs_nil ⟨_, _, [], h₄, _, rfl, addH_le (S₄.mu _ (.head _)).2.1, S₄.freeze (by simp), rfl, _, rfl, ?_⟩)
          rw [step]
          exact ⟨D', rfl, nm, o, addH_self, od⟩
  · intro H' V' ms' h' tk' le rI6 S'
    refine absG fun gG hgG => ?_
    obtain ⟨rfl, fv, hfv, hN⟩ := rI6
    refine hgG ?_; clear hgG
    have e : vs.length = ns.length := hn.len
    rw [e, List.take_length] at hN
    refine xs (wpAny_Return_some (ev_var S'.toRs hfv ?_ (by walk_at "VK")))
    exact hQ _ _ _ _ S'.post.grow hN
end
end Mine
end
section
open PySem PySem.W PyProof.Rows PySem.Calls
set_option maxRecDepth 10000
namespace Mine
noncomputable def primF (nd : Ex → Option (List Str)) (args : List Ex) : Option (List Str) := args.foldl (fun acc a => bothF acc (nd a)) (some [])
noncomputable def flagF (nd : Ex → Option (List Str)) (ks : List Str) (acc : Option (List Str)) (p : Str × Ex) : Option (List Str) := if p.1 ∈ ks then bothF acc (nd p.2) else acc
noncomputable def appF (nd : Ex → Option (List Str)) (ps : List Str) (b : Ex) (args : List Ex) : Option (List Str) :=
  if args.length < ps.length then some [] else match nd b with
    | none => none
    | some ks => (ps.zip args).foldl (flagF nd ks) (bothF (some []) (withoutF (some ks) ps))
noncomputable def caseF (nd : Ex → Option (List Str)) (e : Ex) (c : Str) (alts : List (List Str × Ex)) (o : Option Ex) : Option (List Str) :=
  bothF (nd e) (eitherF (alts.map (fun p => withoutF (nd p.2) (p.1 ++ [c])) ++ (o.map fun e => withoutF (nd e) [c]).toList))
structure Bs where
  needs : Option (List Str)
  wait : List (Str × Ex)
  more : Bool
noncomputable def bindStep (nd : Ex → Option (List Str)) (b : Bs) (name : Str) : Bs := match b.wait.lookup name, b.needs with
  | some e, some ks => if name ∈ ks then ⟨bothF (some ks) (nd e), b.wait.filter (fun p => !(p.1 == name)), true⟩ else b
  | _, _ => b
noncomputable def bindPass (nd : Ex → Option (List Str)) (known : List Str) (b : Bs) : Bs := known.foldl (bindStep nd) { b with more := false }
noncomputable def bindLoop (nd : Ex → Option (List Str)) (known : List Str) : Nat → Bs → Bs
  | 0, b => b
  | k + 1, b => match b.needs with
    | none => b
    | some _ => if b.more then bindLoop nd known k (bindPass nd known b) else b
noncomputable def letF (nd : Ex → Option (List Str)) (binds : List (Str × Ex)) (b : Ex) : Option (List Str) :=
  withoutF (bindLoop nd (binds.map (·.1)) (binds.length + 2) ⟨nd b, binds, true⟩).needs (binds.map (·.1))
noncomputable def needF : Nat → Ex → Option (List Str)
  | 0, _ => none
  | _ + 1, .var x => some [x]
  | _ + 1, .lit | _ + 1, .con => some []
  | n + 1, .prim err args => if err then none else primF (needF n) args
  | n + 1, .case e c alts o => caseF (needF n) e c alts o
  | n + 1, .let_ binds b _ => letF (needF n) binds b
  | _ + 1, .appv f _ => some [f]
  | n + 1, .appl ps b args => appF (needF n) ps b args
theorem both_len (a b : Option (List Str)) : lenF (bothF a b) ≤ lenF a + lenF b := by
  cases a <;> cases b <;> simp [bothF, lenF]
  exact mergeK_len _ _
theorem without_len (a : Option (List Str)) (ns : List Str) : lenF (withoutF a ns) ≤ lenF a := by
  cases a with
  | none => exact Nat.le_refl _
  | some ks => exact List.length_filter_le _ _
section
variable {prog : Program} {w : World} {A : Around} {E : Value → Shared → Prop} {s : Shared} {H0 H : KH} {env : Env} {V : Str → Option Value}
theorem t_isi {C a D : Addr} {l : List (Str × Value)} {x Dn : Str} {p p1 p2 pos : Pos} {Q : Bool → Shared → Prop} (B : Base (KW w) H0) (S : Rs H0 H env V s.heap) (hf : env.kindOf "isinstance" = some .globalImplicit) (hx : V x = some (.ref a)) (hk : env.kindOf x = some .local ∨ env.kindOf x = some .cell) (I : Inst H C a l)
    (hC : C ∈ nodes) (hD : D ∈ nodes) (hDn : nsIn (KW w) mainGlobals Dn = some (some (.ref D))) (hkD : env.kindOf Dn = some .globalImplicit) (h : ∀ tk, Q (C == D) (uT s tk))
    (e0 : nsIn (KW w) mainGlobals "isinstance" = some none := by rfl) (e1 : bootBuiltins "isinstance" = some (.builtin "isinstance") := by rfl) (hd : (x == ("__debug__" : Str)) = false := by decide) (hd' : (Dn == ("__debug__" : Str)) = false := by decide) :
    wpAny (model prog w) A (isTrue (.Call (.Name "isinstance" p) [.Name x p1, .Name Dn p2] [] pos) env (eval (.Call (.Name "isinstance" p) [.Name x p1, .Name Dn p2] [] pos) env)) Q E s := by
  refine wpAny_isTrue_value (ev_callB B S e0 e1 hf (wpAny_items_cons (ev_var S hx (wpAny_items_cons (ev_glob B S hDn (wpAny_items_nil ?_) hkD hd')) hk hd))) rfl
  exact isi_one (S.inK B) S.kn I (own_ok hC) (isi_ok hC hD) fun tk => wpAny_truthy_bool (h tk)
noncomputable def NeededAt (prog : Program) (w : World) (H0 : KH) (n : Nat) : Prop := ∀ (A : Around) (H : KH) (v : Value) (e : Ex) (d : Addr), H0.le H → Room A (10 * n + 5) → TreeAt H n v e → Few n e → DictH prog w H d [] →
  Pure prog w A H 444 [v, .ref d] (fun H' r => NeedsH prog w H' r (needF n e))
theorem four_le {n : Nat} (h : n ≤ 5) : 4 ^ n ≤ 1024 := Nat.le_trans (Nat.pow_le_pow_right (by decide) h) (by decide)
theorem primF_len {nd : Ex → Option (List Str)} {b : Nat} : ∀ (args : List Ex) (acc : Option (List Str)), (∀ e ∈ args, lenF (nd e) ≤ b) → lenF (args.foldl (fun acc a => bothF acc (nd a)) acc) ≤ lenF acc + args.length * b
  | [], acc, _ => by simp
  | e :: r, acc, h => by
    have h1 := primF_len r (bothF acc (nd e)) fun x hx => h x (.tail _ hx)
    have h2 := both_len acc (nd e)
    have h3 := h e (.head _)
    simp only [List.foldl_cons, List.length_cons, Nat.add_mul, Nat.one_mul]
    lia
theorem primF_some {nd : Ex → Option (List Str)} : ∀ (args : List Ex) (acc : Option (List Str)), acc = none → args.foldl (fun acc a => bothF acc (nd a)) acc = none
  | [], _, h => h
  | e :: r, acc, h => primF_some r _ (by subst h; rfl)
theorem flag_len {nd : Ex → Option (List Str)} {ks : List Str} {b : Nat} : ∀ (l : List (Str × Ex)) (acc : Option (List Str)), (∀ p ∈ l, lenF (nd p.2) ≤ b) → lenF (l.foldl (flagF nd ks) acc) ≤ lenF acc + l.length * b
  | [], acc, _ => by simp
  | p :: r, acc, h => by
    have h1 := flag_len (ks := ks) r (flagF nd ks acc p) fun x hx => h x (.tail _ hx)
    have h3 := h p (.head _)
    have h2 : lenF (flagF nd ks acc p) ≤ lenF acc + b := by
      unfold flagF
      split
      · have := both_len acc (nd p.2); lia
      · lia
    simp only [List.foldl_cons, List.length_cons, Nat.add_mul, Nat.one_mul]
    lia
theorem app_len {nd : Ex → Option (List Str)} {ps : List Str} {bd : Ex} {args : List Ex} {b : Nat} (hb : lenF (nd bd) ≤ b) (ha : ∀ e ∈ args, lenF (nd e) ≤ b) (h2 : args.length ≤ 2) (k : Nat) :
    ∀ ks, nd bd = some ks → lenF (((ps.zip args).take k).foldl (flagF nd ks) (bothF (some []) (withoutF (some ks) ps))) ≤ 3 * b := by
  intro ks e
  have h1 := flag_len (nd := nd) (ks := ks) (b := b) ((ps.zip args).take k) (bothF (some []) (withoutF (some ks) ps)) fun p hp => ha _ (List.of_mem_zip (List.mem_of_mem_take hp)).2
  have h3 := both_len (some []) (withoutF (some ks) ps)
  have h4 := without_len (some ks) ps
  rw [e] at hb
  have h5 : lenF (some ([] : List Str)) = 0 := rfl
  have h6 : ((ps.zip args).take k).length ≤ 2 := by
    refine Nat.le_trans (List.length_take_le' _ _) ?_
    rw [List.length_zip]; lia
  have h7 : ((ps.zip args).take k).length * b ≤ 2 * b := Nat.mul_le_mul_right _ h6
  have h8 : lenF (some ks) = ks.length := rfl
  lia
theorem bindStep_len {nd : Ex → Option (List Str)} {b : Nat} (x : Bs) (name : Str) (h : ∀ p ∈ x.wait, lenF (nd p.2) ≤ b) :
    lenF (bindStep nd x name).needs + (bindStep nd x name).wait.length * b ≤ lenF x.needs + x.wait.length * b ∧ ∀ p ∈ (bindStep nd x name).wait, p ∈ x.wait := by
  unfold bindStep
  split
  · rename_i e ks he hn
    split
    · have hm := mem_of_lookup he
      have h1 := both_len (some ks) (nd e)
      have h2 := h _ hm
      have h3 : (x.wait.filter fun p => !(p.1 == name)).length + 1 ≤ x.wait.length := by
        have := (List.length_filter_lt_length_iff_exists (p := fun p : Str × Ex => !(p.1 == name))).mpr ⟨(name, e), hm, by simp⟩
        lia
      have h4 := Nat.mul_le_mul_right b h3
      rw [Nat.add_mul, Nat.one_mul] at h4
      have h5 : lenF (some ks) = lenF x.needs := by rw [hn]
      refine ⟨?_, fun p hp => (List.mem_filter.mp hp).1⟩
      show lenF (bothF (some ks) (nd e)) + (x.wait.filter fun p => !(p.1 == name)).length * b ≤ _
      have h2' : lenF (nd e) ≤ b := h2
      lia
    · exact ⟨Nat.le_refl _, fun _ h => h⟩
  · exact ⟨Nat.le_refl _, fun _ h => h⟩
theorem bindFold_len {nd : Ex → Option (List Str)} {b : Nat} : ∀ (known : List Str) (x : Bs), (∀ p ∈ x.wait, lenF (nd p.2) ≤ b) →
    lenF (known.foldl (bindStep nd) x).needs + (known.foldl (bindStep nd) x).wait.length * b ≤ lenF x.needs + x.wait.length * b ∧ ∀ p ∈ (known.foldl (bindStep nd) x).wait, p ∈ x.wait
  | [], _, _ => ⟨Nat.le_refl _, fun _ h => h⟩
  | k :: r, x, h => by
    obtain ⟨h1, h2⟩ := bindStep_len (b := b) x k h
    obtain ⟨h3, h4⟩ := bindFold_len r (bindStep nd x k) fun p hp => h p (h2 p hp)
    exact ⟨Nat.le_trans h3 h1, fun p hp => h2 p (h4 p hp)⟩
theorem bindLoop_len {nd : Ex → Option (List Str)} {b : Nat} (known : List Str) : ∀ (k : Nat) (x : Bs), (∀ p ∈ x.wait, lenF (nd p.2) ≤ b) → lenF (bindLoop nd known k x).needs + (bindLoop nd known k x).wait.length * b ≤ lenF x.needs + x.wait.length * b
  | 0, _, _ => Nat.le_refl _
  | k + 1, x, h => by
    unfold bindLoop
    split
    · exact Nat.le_refl _
    · split
      · obtain ⟨h1, h2⟩ := bindFold_len (b := b) known { x with more := false } h
        exact Nat.le_trans (bindLoop_len known k _ fun p hp => h p (h2 p hp)) h1
      · exact Nat.le_refl _
theorem case_len {nd : Ex → Option (List Str)} {b : Nat} {alts : List (List Str × Ex)} {o : Option Ex} {c : Str} (ha : ∀ p ∈ alts, lenF (nd p.2) ≤ b) (ho : ∀ e ∈ o, lenF (nd e) ≤ b) :
    ∀ x ∈ alts.map (fun p => withoutF (nd p.2) (p.1 ++ [c])) ++ (o.map fun e => withoutF (nd e) [c]).toList, lenF x ≤ b := by
  intro x hx
  rcases List.mem_append.mp hx with hx | hx
  · obtain ⟨p, hp, rfl⟩ := List.mem_map.mp hx
    exact Nat.le_trans (without_len _ _) (ha p hp)
  · cases o with
    | none => simp at hx
    | some e =>
      simp at hx
      subst hx
      exact Nat.le_trans (without_len _ _) (ho e rfl)
theorem needF_len : ∀ (n : Nat) (e : Ex), Few n e → lenF (needF n e) ≤ 4 ^ n
  | 0, _, h => h.elim
  | n + 1, e, h => by
    have ih := needF_len n
    have p4 : 4 ^ (n + 1) = 4 * 4 ^ n := by rw [Nat.pow_succ, Nat.mul_comm]
    have p1 : 1 ≤ 4 ^ n := Nat.pos_of_ne_zero (by simp)
    cases e with
    | var x => show 1 ≤ _; lia
    | lit => exact Nat.zero_le _
    | con => exact Nat.zero_le _
    | prim err args =>
      show lenF (if err then none else primF (needF n) args) ≤ _
      split
      · exact Nat.zero_le _
      · have h1 := primF_len (nd := needF n) (b := 4 ^ n) args (some []) fun x hx => ih x (h.2 x hx)
        have h3 := Nat.mul_le_mul_right (4 ^ n) h.1
        have h4 : lenF (some ([] : List Str)) = 0 := rfl
        unfold primF; lia
    | case e c alts o =>
      have h1 := both_len (needF n e) (eitherF (alts.map (fun p => withoutF (needF n p.2) (p.1 ++ [c])) ++ (o.map fun e => withoutF (needF n e) [c]).toList))
      have h2 := ih e h.1
      have h3 := either_len (b := 4 ^ n) (alts.map (fun p => withoutF (needF n p.2) (p.1 ++ [c])) ++ (o.map fun e => withoutF (needF n e) [c]).toList) none (Nat.zero_le _) (case_len (fun p hp => ih _ (h.2.2.1 p hp)) fun e he => ih e (h.2.2.2.1 e he))
      show lenF (bothF _ _) ≤ _
      unfold eitherF at h1 ⊢
      lia
    | let_ binds b r =>
      have h1 := bindLoop_len (nd := needF n) (b := 4 ^ n) (binds.map (·.1)) (binds.length + 2) ⟨needF n b, binds, true⟩ fun p hp => ih _ (h.2.2.1 p hp)
      have h2 := ih b h.2.2.2
      have h3 := Nat.mul_le_mul_right (4 ^ n) h.1
      have h4 := without_len (bindLoop (needF n) (binds.map (·.1)) (binds.length + 2) ⟨needF n b, binds, true⟩).needs (binds.map (·.1))
      show lenF (withoutF _ _) ≤ _
      dsimp only at h1
      lia
    | appv f args => show 1 ≤ _; lia
    | appl ps b args =>
      show lenF (appF (needF n) ps b args) ≤ _
      unfold appF
      split
      · exact Nat.zero_le _
      · split
        · exact Nat.zero_le _
        · rename_i ks hks
          have h1 := app_len (nd := needF n) (ps := ps) (bd := b) (args := args) (ih b h.2.1) (fun e he => ih e (h.2.2.2 e he)) h.2.2.1 (ps.zip args).length ks hks
          rw [List.take_length] at h1
          lia
theorem t_eqStr {x y : Str} {t u : Tok} {Q : Value → Shared → Prop} (h : Q (.bool (x == y)) s) : wpAny (model prog w) A (compareOp .Eq (.str x t) (.str y u)) Q E s := eq_str h
theorem prim_spec {n : Nat} {v : Value} {err : Bool} {args : List Ex} {d : Addr} (B : Base (KW w) H0) (IH : NeededAt prog w H0 n) (l0 : H0.le H) (hn5 : n ≤ 4) (R : Room A (10 * n + 9)) (hT : TreeAt H (n + 1) v (.prim err args)) (hF : Few (n + 1) (.prim err args)) (hd : DictH prog w H d []) :
    Pure prog w A H 451 [v, .ref d] (fun H' r => NeedsH prog w H' r (needF (n + 1) (.prim err args))) := by
  intro s E Q kn hQ
  refine absG fun gG hgG => ?_
  obtain ⟨a, l, vs, t, rfl, I, L, hargs⟩ := hT
  refine hgG ?_; clear hgG
  refine call_fn (ms := []) (binds := [("expr", .ref a), ("env", .ref d)]) B l0 kn (fun _ h => nomatch h) .nil R.depth rfl rfl rfl rfl rfl rfl rfl ?_
  intro Lc h₁ tk S
  have R' : ∀ env, Room (A.deeper env) (10 * n + 8) := fun _ => R.deeper
  have b4 := four_le (n := n) (by lia)
  refine xs ?_
  cases err with
  | true =>
    refine if_t (wpAny_isTrue_Compare1 (ev_attr B S.toRs rfl (by walk_at "VK") I (by walk_at "AT") (by walk_at "MEM") rfl fun tk' => wpAny_Constant_str (t_eqStr (wpAny_truthy_bool ⟨rfl, ?_⟩))) rfl)
    refine xs (wpAny_Return_some (wpAny_Constant_none ?_))
    exact hQ _ H _ _ S.post.grow rfl
  | false =>
    refine if_f (wpAny_isTrue_Compare1 (ev_attr B S.toRs rfl (by walk_at "VK") I (by walk_at "AT") (by walk_at "MEM") rfl fun tk' => wpAny_Constant_str (t_eqStr (wpAny_truthy_bool ⟨rfl, wpAny_execs_nil ?_⟩))) rfl)
    refine xs (wpAny_Assign_Name (dict_empty B S fun D o h₂ S₂ od nm _ => ?_))
    refine St.store S₂ (by walk_at "VK") fun h₃ tk₃ S₃ => ?_
    have S₄ := S₃.freeze (by simp)
    have l4 : H.le (addH H D o) := addH_le (S₂.mu _ (.head _)).2.1
    refine xs (for_list (c := ⟨H0, H, s.heap, []⟩) R.hd (by walk_at "VK") (fun i H' V' ms' => ms' = [] ∧ V' "env" = some (.ref d) ∧ ∃ fv, V' "found" = some fv ∧ NeedsH prog w H' fv (primF (needF n) (args.take i))) ?_)
    refine ev_attr B S₄.toRs rfl (by walk_at "VK") (I.le l4) (by walk_at "AT") (by walk_at "MEM") rfl fun tk₄ => ⟨l, vs, _, _, [], rfl, L.le l4, S₄, ⟨rfl, rfl, .ref D, rfl, D, rfl, nm, o, addH_self, od⟩, ?_, ?_⟩
    · intro i v I' oI H' V' ms' h' tk' hv le rI11 S' hX
      refine absG fun gG hgG => ?_
      obtain ⟨rfl, henv, fv, hfv, hN⟩ := rI11
      refine hgG ?_; clear hgG
      obtain ⟨e, hei, hT⟩ := hargs.at hv
      have hem : e ∈ args := List.mem_of_getElem? hei
      have lH := l4.trans le
      have hFe := hF.2 e hem
      have hlen := needF_len n e hFe
      have step : primF (needF n) (args.take (i + 1)) = bothF (primF (needF n) (args.take i)) (needF n e) := foldl_take_succ _ _ _ _ _ hei
      have hl1 : lenF (primF (needF n) (args.take i)) ≤ 2 * 4 ^ n := by
        have h1 := primF_len (nd := needF n) (b := 4 ^ n) (args.take i) (some []) (fun x hx => needF_len n x (hF.2 x (List.mem_of_mem_take hx)))
        have h2 : (args.take i).length ≤ 2 := Nat.le_trans (List.length_take_le' _ _) hF.1
        have h3 : (args.take i).length * 4 ^ n ≤ 2 * 4 ^ n := Nat.mul_le_mul_right _ h2
        have h4 : lenF (some ([] : List Str)) = 0 := rfl
        unfold primF
        lia
      refine xs (wpAny_Assign_Name ?_)
      refine ev_callK B S'.toRs rfl rfl rfl (wpAny_items_cons (ev_var S'.toRs hfv (wpAny_items_cons ?_) (by walk_at "VK")))
      refine ev_callK B S'.toRs rfl rfl rfl (wpAny_items_cons (ev_var S'.toRs rfl (wpAny_items_cons (ev_var S'.toRs henv (wpAny_items_nil ⟨S'.inK B, ?_⟩) (by walk_at "VK"))) (by walk_at "VK")))
      refine IH _ H' v e d (l0.trans lH) ((R' _).mo) (hT.le lH) hFe (hd.le lH) _ _ _ S'.kn fun rv H2 h2 tk2 G2 hr => wpAny_items_nil ⟨(S'.grow G2).inK B, ?_⟩
      have S2 := S'.grow G2
      refine both_spec B S2.b0 ((R' _).mo) (hN.le G2.le) hr (by lia) _ _ _ S2.kn fun rv2 H3 h3 tk3 G3 hr3 => ?_
      have S3 := S2.grow G3
      refine St.store (s := uP s h3 tk3) S3 (by walk_at "VK") fun h4 tk4 S4 => ?_
      refine wpAny_execs_nil ⟨_, _, [], h4, _, rfl, G2.le.trans G3.le, S4, rfl, henv, _, rfl, ?_⟩
      rw [step]; exact hr3
    · intro H' V' ms' h' tk' le rI6 S'
      refine absG fun gG hgG => ?_
      obtain ⟨rfl, henv, fv, hfv, hN⟩ := rI6
      refine hgG ?_; clear hgG
      have e : vs.length = args.length := hargs.len
      rw [e, List.take_length] at hN
      refine xs (wpAny_Return_some (ev_var S'.toRs hfv ?_ (by walk_at "VK")))
      exact hQ _ _ _ _ S'.post.grow hN
end
end Mine
end
section
open PySem PySem.W PyProof.Rows PySem.Calls
set_option maxRecDepth 10000
namespace Mine
noncomputable def NsO (o : Obj) (m : Str → Option Value) (k : Nat) : Prop := ∃ es n, o = dictOf es n ∧ (∀ e ∈ es, ∃ x t, e.key = Value.str x t) ∧ (∀ name, (es.find? (·.key.isStr name)).map (·.val) = m name) ∧ es.length ≤ k
theorem NsO.atH {o : Obj} {m : Str → Option Value} {k : Nat} {H : KH} {a : Addr} (x : NsO o m k) (e : H a = some o) : NsH H a m := by
  obtain ⟨es, n, rfl, hk, hf, _⟩ := x
  refine ⟨_, es.toArray, n, e, rfl, fun y hy => hk y (by simpa using hy), fun name => ?_⟩
  rw [← hf name]
  unfold nsFind findBy
  rw [List.find?_toArray]
theorem putL_find' {name : Str} {hs : Int} {t : Tok} {v : Value} : ∀ (es : List DictEntry) (y : Str), ((putL name hs (.str name t) v es).find? (·.key.isStr y)).map (·.val) = if y = name then some v else (es.find? (·.key.isStr y)).map (·.val)
  | [], y => by
    unfold putL
    rw [List.find?_cons]
    by_cases q : y = name
    · subst q; simp [Value.isStr]
    · have : (Value.str name t).isStr y = false := by simp [Value.isStr]; exact fun r => q r.symm
      rw [show (DictEntry.mk hs (Value.str name t) v).key.isStr y = false from this, if_neg q]
  | e :: r, y => by
    unfold putL
    have ih := putL_find' (hs := hs) (t := t) (v := v) (name := name) r y
    by_cases h : e.key.isStr name = true
    · rw [if_pos h, List.find?_cons, List.find?_cons]
      by_cases q : y = name
      · subst q; rw [show (DictEntry.mk e.hash e.key v).key.isStr y = true from h]; simp
      · have : e.key.isStr y = false := by
          cases z : e.key.isStr y with
          | false => rfl
          | true => exact absurd (Value.isStr_inj _ _ _ z h) q
        rw [show (DictEntry.mk e.hash e.key v).key.isStr y = false from this, if_neg q]
    · rw [if_neg h, List.find?_cons, List.find?_cons]
      cases z : e.key.isStr y with
      | true =>
        have q : y ≠ name := fun q => h (q ▸ z)
        rw [if_neg q]
      | false => exact ih
theorem putL_keys {name : Str} {hs : Int} {t : Tok} {v : Value} : ∀ (es : List DictEntry), (∀ e ∈ es, ∃ x t, e.key = Value.str x t) → ∀ e ∈ putL name hs (.str name t) v es, ∃ x t, e.key = Value.str x t
  | [], _, e, he => by
    unfold putL at he
    rw [List.mem_singleton.mp he]; exact ⟨_, _, rfl⟩
  | a :: r, h, e, he => by
    unfold putL at he
    split at he
    · rcases List.mem_cons.mp he with rfl | he
      · exact h a (.head _)
      · exact h e (.tail _ he)
    · rcases List.mem_cons.mp he with rfl | he
      · exact h _ (.head _)
      · exact putL_keys r (fun x hx => h x (.tail _ hx)) e he
theorem putL_len {name : Str} {hs : Int} {k v : Value} : ∀ (es : List DictEntry), (putL name hs k v es).length ≤ es.length + 1
  | [] => Nat.le_refl _
  | a :: r => by
    unfold putL
    split
    · simp
    · simp only [List.length_cons]; have := putL_len (name := name) (hs := hs) (k := k) (v := v) r; lia
structure MakeOk (K : Frag) (C fI : Addr) (names : List Str) : Prop where
  makes : makesIn K C = true
  init : findIn K (.ref C) "__init__" = some (some (.ref fI))
  fn : typeIn K (.ref fI) = some (.type "function")
  set : findIn K (.ref C) "__setattr__" = some (some (.builtin "object.__setattr__"))
  over : plainOver K C = true
  dict : hasDictIn K C = true
  take : ∀ n ∈ names, takerIn K C n = some none
noncomputable def makeOk (K : Frag) (C fI : Addr) (names : List Str) : Bool := makesIn K C && (findIn K (.ref C) "__init__" == some (some (.ref fI))) && (typeIn K (.ref fI) == some (.type "function")) && (findIn K (.ref C) "__setattr__" == some (some (.builtin "object.__setattr__"))) &&
  plainOver K C && hasDictIn K C && names.all fun n => takerIn K C n == some none
theorem MakeOk.of {K : Frag} {C fI : Addr} {names : List Str} (h : makeOk K C fI names = true) : MakeOk K C fI names := by
  unfold makeOk at h
  simp only [Bool.and_eq_true, beq_iff_eq, List.all_eq_true] at h
  obtain ⟨⟨⟨⟨⟨⟨a, b⟩, c⟩, d⟩, e⟩, f⟩, g⟩ := h
  exact ⟨a, b, c, d, e, f, g⟩
section
variable {prog : Program} {w : World} {A : Around} {E : Value → Shared → Prop} {s : Shared} {K : Frag} {H0 H : KH} {env : Env} {V : Str → Option Value}
theorem set_field {C fI x dx : Addr} {name : Str} {names : List Str} {v : Value} {m : Str → Option Value} {od : Obj} {k : Nat} {Q : Unit → Shared → Prop} (X : K.In s.heap) (M : MakeOk K C fI names) (hn : name ∈ names) (hx : s.heap.get? x = some (instObj C dx)) (hod : s.heap.get? dx = some od) (hd : NsO od m k) (hk : k ≤ 1000)
    (h : ∀ h' tk od', h'.get? dx = some od' → NsO od' (setV m name v) (k + 1) → Heap.SameBut dx s.heap h' → Q () (uP s h' tk)) : wpAny (model prog w) A (setAttr (.ref x) name v) Q E s := by
  have I : InstAt s.heap x (instObj C dx) C (some od) := ⟨hx, rfl, rfl, hod⟩
  refine set_plain X I M.set (osa_open (s := { s with toks := s.toks + 1 }) X I M.over (M.take name hn) fun b => ?_)
  obtain ⟨cd, hc, hd'⟩ := any_some M.dict
  obtain ⟨es, n, rfl, keys, hf, hl⟩ := hd
  refine wpAny_bind (wpAny_pure (wpAny_bind (wpAny_bind (wpAny_loadPart (s := { s with toks := s.toks + 1 }) hx (wpAny_bind (Looks.here (s := { s with toks := s.toks + 1 }) (looks_clsIn X hc) ?_))))))
  rw [hd']
  refine wpAny_pure (a := some dx) (wpAny_bind (wpAny_pure (wpAny_bind ?_)))
  unfold nsSet
  refine wpAny_bind (wpAny_bind (wpAny_askSetting (wpAny_pure (wpAny_bind (wpAny_mkText (wpAny_bind (wpAny_loadPart (s := { s with toks := s.toks + 1 + 1 }) hod ?_)))))))
  have c : (!(es.toArray).any (·.key.isStr name) && (es.toArray).any (·.refKey)) = false := by
    have : (es.toArray).any (·.refKey) = false := by
      rw [Array.any_eq_false']; intro e he
      obtain ⟨y, t, q⟩ := keys e (by simpa using he)
      simp [DictEntry.refKey, q]
    rw [this, Bool.and_false]
  dsimp only
  rw [aRefKeyMayBeTheName_at, c]
  have e2 : (s.heap.update dx (Obj.putName name (PyData.keyHash w.params name) (.str name (s.toks + 1)) v)).get? dx = some (dictOf (putL name (PyData.keyHash w.params name) (.str name (s.toks + 1)) v es) (putN name es n)) := by
    rw [← putName_dict]
    exact Heap.get?_update_self _ hod (by rw [putName_dict]; rfl)
  refine wpAny_updatePart (s := { s with toks := s.toks + 1 + 1 }) hod ?_
  have l2 := putL_len (name := name) (hs := PyData.keyHash w.params name) (k := .str name (s.toks + 1)) (v := v) es
  refine wpAny_bind (wpAny_lookBehind e2 (pastItsLine_dict (by rw [List.size_toArray, sizeLine_eq]; lia)) ?_)
  exact wpAny_pure (h _ _ _ e2 ⟨_, _, rfl, putL_keys es keys, fun y => (putL_find' es y).trans (by rw [hf]; rfl), by lia⟩ (Heap.SameBut.update ..))
noncomputable abbrev IF := Str × Pos × Pos × Pos × Pos
noncomputable def initBody (fs : List IF) : List Stmt := fs.map fun f => .Assign [.Attribute (.Name "self" f.2.1) f.1 f.2.2.1] (.Name f.1 f.2.2.2.1) f.2.2.2.2
noncomputable def fillM (V : Str → Option Value) (ns : List Str) (m : Str → Option Value) : Str → Option Value := ns.foldl (fun m n => fun y => if y = n then V n else m y) m
theorem fillM_eq {V : Str → Option Value} : ∀ (ns : List Str) (m : Str → Option Value) (y : Str), (y ∈ ns ∨ m y = V y) → fillM V ns m y = V y
  | [], _, _, h => h.elim (fun q => by cases q) id
  | n :: r, m, y, h => by
    unfold fillM
    rw [List.foldl_cons]
    refine fillM_eq r _ y ?_
    by_cases q : y = n
    · subst q; exact .inr (if_pos rfl)
    · rcases h with h | h
      · rcases List.mem_cons.mp h with h | h
        · exact absurd h q
        · exact .inl h
      · exact .inr ((if_neg q).trans h)
theorem run_init {c : Cx} {C fI x dx : Addr} {names : List Str} {Q : Flow → Shared → Prop} (B : Base K c.H0) (M : MakeOk K C fI names) (hself : V "self" = some (.ref x)) (kself : env.kindOf "self" = some .local ∨ env.kindOf "self" = some .cell) (hx : H x = some (instObj C dx)) :
    ∀ (fs : List IF) (s : Shared) (o : Obj) (m : Str → Option Value) (k : Nat), (∀ f ∈ fs, f.1 ∈ names ∧ (∃ v, V f.1 = some v) ∧ (env.kindOf f.1 = some .local ∨ env.kindOf f.1 = some .cell) ∧ (f.1 == ("__debug__" : Str)) = false) → St c H env V [(dx, o)] s.heap → NsO o m k → k + fs.length ≤ 1000 →
      (∀ o' h' tk k', St c H env V [(dx, o')] h' → NsO o' (fillM V (fs.map (·.1)) m) k' → Q .next (uP s h' tk)) → wpAny (model prog w) A (execs (initBody fs) env) Q E s
  | [], s, o, m, k, _, S, ho, _, h => wpAny_execs_nil (h o s.heap s.toks k S ho)
  | f :: r, s, o, m, k, hf, S, ho, hk0, h => by
    obtain ⟨n, p1, p2, p3, p4⟩ := f
    obtain ⟨hn, ⟨v, hv⟩, hk, hdb⟩ := hf _ (.head _)
    rw [List.length_cons] at hk0
    refine xs (plainObj_wpAny_Assign_Attribute (ev_var S.toRs hv (ev_var S.toRs hself ?_ kself) hk hdb) rfl)
    refine set_field (S.inK B) M hn (S.kn _ _ hx) (S.mu _ (.head _)).1 ho (by lia) fun h' tk o' e' ho' hs => ?_
    have S' := S.change (fun b y q z => (hs.2 b q).trans z) e'
    refine run_init B M hself kself hx r (uP s h' tk) o' _ (k + 1) (fun g hg => hf g (.tail _ hg)) S' ho' (by lia) fun o'' h'' tk'' k'' S'' ho'' => ?_
    refine h o'' h'' tk'' k'' S'' ?_
    have : fillM V ((n :: r.map (·.1))) m = fillM V (r.map (·.1)) (setV m n v) := by
      unfold fillM
      rw [List.foldl_cons]
      congr 1
      funext y
      show (if y = n then V n else m y) = if y = n then some v else m y
      rw [hv]
    rw [List.map_cons, this]; exact ho''
theorem depth_make {C : Addr} {vals : List Value} {n : Nat} (R : Room A (n + 1)) : Room (A.under (.builtin "type.__call__" ⟨.ref C :: vals, []⟩)) n :=
  ⟨R.hd, by have := R.dp; rw [depth_under_make]; lia, by have := R.un; rw [units_under_make]; lia⟩
theorem bindV_not : ∀ (l : List (Str × Value)) (V : Str → Option Value) (y : Str), y ∉ l.map (·.1) → bindV l V y = V y
  | [], _, _, _ => rfl
  | (n, v) :: r, V, y, h => by
    unfold bindV
    rw [bindV_not r _ y (fun q => h (by rw [List.map_cons]; exact .tail _ q))]
    exact if_neg fun q => h (by rw [List.map_cons, q]; exact .head _)
theorem bindV_zip (l : List (Str × Value)) : ∀ (V : Str → Option Value), (l.map (·.1)).Nodup → ∀ p ∈ l, bindV l V p.1 = some p.2 := by
  induction l with
  | nil => intro V nd p hp; cases hp
  | cons q r ih =>
    obtain ⟨n, v⟩ := q
    intro V nd p hp
    rw [List.map_cons, List.nodup_cons] at nd
    unfold bindV
    rcases List.mem_cons.mp hp with rfl | hp
    · rw [bindV_not r _ _ nd.1]; exact if_pos rfl
    · exact ih _ nd.2 p hp
theorem make_inst {C fI : Addr} {name qual : Str} {params : Arguments} {scope : Scope} {dV kV doc pm cdv ct oc : Value} {an od : Option Addr} {osl : Array (Option Value)} {fs : List IF} {vals : List Value}
    (B : Base K H0) (l0 : H0.le H) (R : Room A 3) (M : MakeOk K C fI (fs.map (·.1)))
    (ho : K.lookup fI = some ⟨oc, od, .func (fnOf name qual params (initBody fs) scope dV kV doc pm an cdv ct), osl⟩) (hcd : codeIn K cdv qual = true)
    (hbind : ∀ x, bindArgs (fnOf name qual params (initBody fs) scope dV kV doc pm an cdv ct) ⟨.ref x :: vals, []⟩ = pure ((("self" : Str), Value.ref x) :: (fs.map (·.1)).zip vals))
    (hkind : ((("self" : Str) :: fs.map (·.1)).all fun y => scope.names.lookup y == some .local) = true)
    (hnd : ((("self" : Str) :: fs.map (·.1))).Nodup) (hvl : vals.length = fs.length)
    (hfew : fs.length ≤ 10) (hdb : (fs.all fun f => !(f.1 == ("__debug__" : Str))) = true)
    (hco : scope.isCoroutine = false) (hgen : scope.isGenerator = false) (hk : scope.kind = .function) :
    Pure prog w A H C vals (fun H' r => ∃ a, r = .ref a ∧ Inst H' C a ((fs.map (·.1)).zip vals)) := by
  intro s E Q kn hQ
  obtain ⟨hh, g, d, t, os⟩ := s
  have X : K.In hh := (B.le l0).inK kn
  refine wpAny_call (make_core (makes_of X M.makes) (looks_findIn X M.init) (fun self => bind_fn X self M.fn) (.inl rfl) ?_)
  let h2 := (hh.push emptyDict).push (instObj C hh.objs.size)
  have up1 : Up hh (hh.push emptyDict) := Up.push _ _
  have up2 : Up (hh.push emptyDict) h2 := Up.push _ _
  have fd : hh.get? hh.objs.size = none := fresh_of_size (Nat.le_refl _)
  have sz : (hh.push emptyDict).objs.size = hh.objs.size + 1 := Heap.size_push _ _
  have fx : (hh.push emptyDict).get? (hh.objs.size + 1) = none := fresh_of_size (by rw [sz]; exact Nat.le_refl _)
  have ed : h2.get? hh.objs.size = some emptyDict := up2 _ _ (Heap.get?_push_size _ rfl)
  have ex : h2.get? (hh.objs.size + 1) = some (instObj C hh.objs.size) := by
    have := Heap.get?_push_size (hh.push emptyDict) (o := instObj C hh.objs.size) rfl
    rwa [sz] at this
  have fx' : hh.get? (hh.objs.size + 1) = none := up1.none fx
  have G1 : Grow H hh (addH H (hh.objs.size + 1) (instObj C hh.objs.size)) h2 := Grow.add kn (up1.trans up2) fx' ex
  have hne : hh.objs.size ≠ hh.objs.size + 1 := Nat.ne_of_lt (Nat.lt_succ_self _)
  refine code_fn (ms := [(hh.objs.size, emptyDict)]) (H := addH H (hh.objs.size + 1) (instObj C hh.objs.size)) (s := ⟨h2, g, d, t, os⟩) B (l0.trans G1.le) G1.inn ?_ ?_ (depth_make (n := 2) R).depth ho hcd (hbind _) ?_ hco hgen hk ?_
  · intro p hp
    rw [List.mem_singleton.mp hp]
    exact ⟨ed, by rw [addH_ne hne]; exact kn.off fd⟩
  · simp
  · rw [List.all_cons, List.all_eq_true.mp hkind _ (.head _), Bool.true_or, Bool.true_and]
    refine List.all_eq_true.mpr fun y hy => ?_
    have := List.of_mem_zip hy
    rw [List.all_eq_true.mp hkind _ (.tail _ this.1), Bool.true_or]
  · intro L h₁ tk S
    have hzip : ((fs.map (·.1)).zip vals).map (·.1) = fs.map (·.1) := List.map_fst_zip (by rw [List.length_map, hvl]; exact Nat.le_refl _)
    rw [List.nodup_cons] at hnd
    have v3 : bindV ((("self" : Str), Value.ref (hh.objs.size + 1)) :: (fs.map (·.1)).zip vals) (fun _ => none) "self" = some (.ref (hh.objs.size + 1)) := by
      unfold bindV
      rw [bindV_not _ _ _ (by rw [hzip]; exact hnd.1)]
      exact if_pos rfl
    have v2 : ∀ p ∈ (fs.map (·.1)).zip vals, bindV ((("self" : Str), Value.ref (hh.objs.size + 1)) :: (fs.map (·.1)).zip vals) (fun _ => none) p.1 = some p.2 := fun p hp => by
      unfold bindV
      exact bindV_zip _ _ (by rw [hzip]; exact hnd.2) p hp
    have v1 : ∀ f ∈ fs, ∃ v, bindV ((("self" : Str), Value.ref (hh.objs.size + 1)) :: (fs.map (·.1)).zip vals) (fun _ => none) f.1 = some v := fun f hf => by
      have : f.1 ∈ ((fs.map (·.1)).zip vals).map (·.1) := by rw [hzip]; exact List.mem_map_of_mem hf
      obtain ⟨p, hp, e⟩ := List.mem_map.mp this
      exact ⟨p.2, e ▸ v2 p hp⟩
    have kl : ∀ n, n ∈ (("self" : Str) :: fs.map (·.1)) → scope.names.lookup n = some .local := fun n hn => beq_iff_eq.mp (List.all_eq_true.mp hkind n hn)
    refine run_init (env := envOfC qual scope L fI cdv) (names := fs.map (·.1)) (x := hh.objs.size + 1) (dx := hh.objs.size) B M v3 (.inl (kl _ (.head _))) addH_self fs _ emptyDict (fun _ => none) 0 (fun f hf => ⟨List.mem_map_of_mem hf, v1 f hf, .inl (kl _ (.tail _ (List.mem_map_of_mem hf))), by have := List.all_eq_true.mp hdb f hf; simpa using this⟩) S
      ⟨[], 0, rfl, fun e he => by simp at he, fun _ => rfl, Nat.zero_le _⟩ (by lia) fun o' h' tk' k' S' ho' => ⟨rfl, ?_⟩
    have P := S'.post
    have eo : h'.get? hh.objs.size = some o' := (S'.mu _ (.head _)).1
    have up3 : Up hh h' := fun b o e => P.up b o (fun q => by
      have := List.mem_singleton.mp (show b ∈ [hh.objs.size] from q)
      rw [this, fd] at e; cases e) (up2 _ _ (up1 _ _ e))
    have lx : (addH H (hh.objs.size + 1) (instObj C hh.objs.size)) hh.objs.size = none := by rw [addH_ne hne]; exact kn.off fd
    have l2 := addH_le (o := o') lx
    refine hQ _ (addH (addH H (hh.objs.size + 1) (instObj C hh.objs.size)) hh.objs.size o') h' tk' ⟨G1.le.trans l2, fun b o e => ?_, up3, fun b e => ?_⟩ ⟨_, rfl, hh.objs.size, _, l2 _ _ addH_self, ho'.atH addH_self, fun p hp => ?_⟩
    · unfold addH at e; split at e
      · rename_i q; subst q; cases e; exact eo
      · exact S'.kn _ _ e
    · unfold addH at e; split at e
      · rename_i q; subst q; exact .inr fd
      · split at e
        · rename_i q; subst q; exact .inr fx'
        · exact .inl e
    · rw [fillM_eq]
      · exact v2 p hp
      · have := List.of_mem_zip hp
        exact .inl this.1
end
end Mine
end
section
open PySem PySem.W PyProof.Rows PySem.Calls
set_option maxRecDepth 10000
namespace Mine
section
variable {prog : Program} {w : World} {A : Around} {E : Value → Shared → Prop} {s : Shared} {H0 H : KH} {env : Env} {V : Str → Option Value}
theorem make_Signature {v1 v2 v3 : Value} (B : Base (KW w) H0) (l0 : H0.le H) (R : Room A 3) : Pure prog w A H 402 [v1, v2, v3] (fun H' r => ∃ a, r = .ref a ∧ Inst H' 402 a [("flags", v1), ("free", v2), ("diverges", v3)]) :=
  make_inst (fI := 392) (fs := [("flags", _, _, _, _), ("free", _, _, _, _), ("diverges", _, _, _, _)]) B l0 R (.of (by kernel_rfl)) rfl rfl (fun _ => rfl) rfl (by decide) rfl (by decide) (by decide) rfl rfl rfl
theorem make_Var {v1 : Value} (B : Base (KW w) H0) (l0 : H0.le H) (R : Room A 3) : Pure prog w A H 59 [v1] (fun H' r => ∃ a, r = .ref a ∧ Inst H' 59 a [("name", v1)]) :=
  make_inst (fI := 35) (fs := [("name", _, _, _, _)]) B l0 R (.of (by kernel_rfl)) rfl rfl (fun _ => rfl) rfl (by decide) rfl (by decide) (by decide) rfl rfl rfl
theorem make_Lit {v1 v2 : Value} (B : Base (KW w) H0) (l0 : H0.le H) (R : Room A 3) : Pure prog w A H 101 [v1, v2] (fun H' r => ∃ a, r = .ref a ∧ Inst H' 101 a [("kind", v1), ("value", v2)]) :=
  make_inst (fI := 77) (fs := [("kind", _, _, _, _), ("value", _, _, _, _)]) B l0 R (.of (by kernel_rfl)) rfl rfl (fun _ => rfl) rfl (by decide) rfl (by decide) (by decide) rfl rfl rfl
theorem make_App {v1 v2 : Value} (B : Base (KW w) H0) (l0 : H0.le H) (R : Room A 3) : Pure prog w A H 143 [v1, v2] (fun H' r => ∃ a, r = .ref a ∧ Inst H' 143 a [("fun", v1), ("args", v2)]) :=
  make_inst (fI := 119) (fs := [("fun", _, _, _, _), ("args", _, _, _, _)]) B l0 R (.of (by kernel_rfl)) rfl rfl (fun _ => rfl) rfl (by decide) rfl (by decide) (by decide) rfl rfl rfl
theorem make_Lam {v1 v2 : Value} (B : Base (KW w) H0) (l0 : H0.le H) (R : Room A 3) : Pure prog w A H 185 [v1, v2] (fun H' r => ∃ a, r = .ref a ∧ Inst H' 185 a [("params", v1), ("body", v2)]) :=
  make_inst (fI := 161) (fs := [("params", _, _, _, _), ("body", _, _, _, _)]) B l0 R (.of (by kernel_rfl)) rfl rfl (fun _ => rfl) rfl (by decide) rfl (by decide) (by decide) rfl rfl rfl
theorem make_Let {v1 v2 v3 : Value} (B : Base (KW w) H0) (l0 : H0.le H) (R : Room A 3) : Pure prog w A H 227 [v1, v2, v3] (fun H' r => ∃ a, r = .ref a ∧ Inst H' 227 a [("binds", v1), ("body", v2), ("is_rec", v3)]) :=
  make_inst (fI := 203) (fs := [("binds", _, _, _, _), ("body", _, _, _, _), ("is_rec", _, _, _, _)]) B l0 R (.of (by kernel_rfl)) rfl rfl (fun _ => rfl) rfl (by decide) rfl (by decide) (by decide) rfl rfl rfl
theorem make_Alt {v1 v2 v3 : Value} (B : Base (KW w) H0) (l0 : H0.le H) (R : Room A 3) : Pure prog w A H 248 [v1, v2, v3] (fun H' r => ∃ a, r = .ref a ∧ Inst H' 248 a [("key", v1), ("names", v2), ("body", v3)]) :=
  make_inst (fI := 245) (fs := [("key", _, _, _, _), ("names", _, _, _, _), ("body", _, _, _, _)]) B l0 R (.of (by kernel_rfl)) rfl rfl (fun _ => rfl) rfl (by decide) rfl (by decide) (by decide) rfl rfl rfl
theorem make_Case {v1 v2 v3 v4 : Value} (B : Base (KW w) H0) (l0 : H0.le H) (R : Room A 3) : Pure prog w A H 290 [v1, v2, v3, v4] (fun H' r => ∃ a, r = .ref a ∧ Inst H' 290 a [("value", v1), ("name", v2), ("alts", v3), ("other", v4)]) :=
  make_inst (fI := 266) (fs := [("value", _, _, _, _), ("name", _, _, _, _), ("alts", _, _, _, _), ("other", _, _, _, _)]) B l0 R (.of (by kernel_rfl)) rfl rfl (fun _ => rfl) rfl (by decide) rfl (by decide) (by decide) rfl rfl rfl
theorem make_Con {v1 v2 : Value} (B : Base (KW w) H0) (l0 : H0.le H) (R : Room A 3) : Pure prog w A H 332 [v1, v2] (fun H' r => ∃ a, r = .ref a ∧ Inst H' 332 a [("name", v1), ("args", v2)]) :=
  make_inst (fI := 308) (fs := [("name", _, _, _, _), ("args", _, _, _, _)]) B l0 R (.of (by kernel_rfl)) rfl rfl (fun _ => rfl) rfl (by decide) rfl (by decide) (by decide) rfl rfl rfl
theorem make_Prim {v1 v2 : Value} (B : Base (KW w) H0) (l0 : H0.le H) (R : Room A 3) : Pure prog w A H 374 [v1, v2] (fun H' r => ∃ a, r = .ref a ∧ Inst H' 374 a [("op", v1), ("args", v2)]) :=
  make_inst (fI := 350) (fs := [("op", _, _, _, _), ("args", _, _, _, _)]) B l0 R (.of (by kernel_rfl)) rfl rfl (fun _ => rfl) rfl (by decide) rfl (by decide) (by decide) rfl rfl rfl
end
end Mine
end
section
open PySem PySem.W PyProof.Rows PySem.Calls
set_option maxRecDepth 10000
namespace Mine
section
variable {prog : Program} {w : World} {A : Around} {E : Value → Shared → Prop} {s : Shared} {c : Cx} {H H0 : KH} {env : Env} {V : Str → Option Value} {ms : List (Addr × Obj)}
noncomputable abbrev listObj (vs : List Value) : Obj := { cls := .type "list", data := .seq vs.toArray }
noncomputable abbrev tupObj (vs : List Value) : Obj := { cls := .type "tuple", data := .seq vs.toArray }
theorem newL {M : Model} {vs : List Value} {Q : Value → Shared → Prop} (S : St c H env V ms s.heap) (hsz : vs.length ≤ 1000) (h : ∀ a h', St c H env V ((a, listObj vs) :: ms) h' → Q (.ref a) (uH s h')) : wpAny M A (newList vs) Q E s :=
  wpAny_newObj_type (h _ _ (S.new (Up.push _ _) (fresh_of_size (Nat.le_refl _)) (Heap.get?_push_size _ rfl))) (by show vs.toArray.size ≤ sizeLine; rw [List.size_toArray, sizeLine_eq]; lia)
theorem newT {M : Model} {vs : List Value} {Q : Value → Shared → Prop} (S : St c H env V ms s.heap) (hsz : vs.length ≤ 1000) (h : ∀ a h', St c H env V ((a, tupObj vs) :: ms) h' → Q (.ref a) (uH s h')) : wpAny M A (newTuple vs) Q E s :=
  wpAny_newObj_type (h _ _ (S.new (Up.push _ _) (fresh_of_size (Nat.le_refl _)) (Heap.get?_push_size _ rfl))) (by show vs.toArray.size ≤ sizeLine; rw [List.size_toArray, sizeLine_eq]; lia)
theorem foldl_rep (v : Value) : ∀ (n : Nat) (acc : Array Value), List.foldl (fun x1 x2 => x1 ++ x2) acc (List.replicate n #[v]) = acc ++ (List.replicate n v).toArray
  | 0, acc => by simp
  | n + 1, acc => by
    rw [List.replicate_succ, List.foldl_cons, foldl_rep v n]
    rw [List.replicate_succ]
    apply Array.ext'
    simp
theorem mul_gen {l : Addr} {items : Array Value} {k : Nat} {x : Int} {u : Tok} {Q : Value → Shared → Prop} (hl : s.heap.get? l = some { cls := .type "list", data := .seq items k }) (hlo : 0 ≤ x) (hhi : x ≤ 1000) (hsz : items.size * x.toNat ≤ 2 ^ 24)
    (h : Q (.ref s.heap.objs.size) { s with heap := s.heap.push { cls := .type "list", data := .seq (List.foldl (fun x1 x2 => x1 ++ x2) #[] (List.replicate (if items.isEmpty = true then 0 else x.toNat) items)) } }) :
    wpAny (model prog w) A (binaryOp .Mult (.ref l) (.int x u)) Q E s :=
  wpAny_binaryOp_repeat_ref (T := "list") (U := "int") (by decide) ⟨_, hl, rfl⟩ (fun s' => typeIs_int s' x u) noFill_list_mul F.fills_int_mul F.slot_int_rmul repeat_list F.slot_int_index.lookup
    (call_meets F.slot_int_rmul (typeIs_int s x u) F.entry_int_rmul (F.args_int_rmul_2 _ _) (int___rmul___int_list x u l items k)
      ⟨hl, rfl, ⟨_, hl, rfl⟩, call_meets F.slot_list_mul ⟨_, hl, rfl⟩ F.entry_list_mul (F.args_list_mul_2 _ _)
        (AutoListH.list___mul___list_int_3 l items k x u (by simp [Builtin.List.listFitsIndex]; lia) (by lia) (by simp [Builtin.List.listTooLong, sizeLine]; lia))
        ⟨hl, h⟩⟩)
theorem mulL {l : Addr} {v : Value} {n : Nat} {u : Tok} {ep : Nat} {Q : Value → Shared → Prop} (S : St c H env V ms s.heap) (hl : s.heap.get? l = some { cls := .type "list", data := .seq #[v] ep }) (hn : n ≤ 1000)
    (h : ∀ a h', St c H env V ((a, listObj (List.replicate n v)) :: ms) h' → Q (.ref a) (uH s h')) : wpAny (model prog w) A (binaryOp .Mult (.ref l) (.int n u)) Q E s := by
  refine mul_gen hl (by lia) (by lia) (by rw [Int.toNat_natCast]; simp; lia) ?_
  have e : (List.foldl (fun x1 x2 => x1 ++ x2) #[] (List.replicate (if (#[v] : Array Value).isEmpty = true then 0 else (n : Int).toNat) #[v])) = (List.replicate n v).toArray := by
    rw [if_neg (by simp), Int.toNat_natCast, foldl_rep]; simp
  rw [e]
  exact h _ _ (S.new (Up.push _ _) (fresh_of_size (Nat.le_refl _)) (Heap.get?_push_size _ rfl))
end
end Mine
end
section
open PySem PySem.W PyProof.Rows PySem.Calls
set_option maxRecDepth 10000
namespace Mine
section
variable {prog : Program} {w : World} {A : Around} {E : Value → Shared → Prop} {s : Shared} {H0 H : KH} {env : Env} {V : Str → Option Value}
noncomputable def SigH (prog : Program) (w : World) (H : KH) (v : Value) (ps : List Str) (x : Option (List Str)) : Prop := Ex4 fun a lf vs fv => v = .ref a ∧ Inst H 402 a [("flags", .ref lf), ("free", fv), ("diverges", .bool x.isNone)] ∧ ListH H lf vs ∧ vs.length = ps.length ∧
  ∀ ks, x = some ks → vs = ps.map (fun p => .bool (decide (p ∈ ks))) ∧ NeedsH prog w H fv (withoutF x ps)
theorem strsLen {vs : List Value} {ys : List Str} (h : StrsAre vs ys) : vs.length = ys.length := by
  induction h with
  | nil => rfl
  | cons _ _ _ ih => simp [ih]
theorem strsAt {vs : List Value} {ys : List Str} (h : StrsAre vs ys) {i : Nat} {v : Value} (e : vs[i]? = some v) : ∃ y t, ys[i]? = some y ∧ v = .str y t := by
  induction h generalizing i with
  | nil => simp at e
  | cons y t _ ih =>
    cases i with
    | zero => simp at e; subst e; exact ⟨y, t, rfl, rfl⟩
    | succ i => simpa using ih (by simpa using e)
theorem paired_bools {ks : List Str} : ∀ {vs : List Value} {ps : List Str} {zs : List Value}, StrsAre vs ps → Paired (fun v y => ∃ k t, v = Value.str k t ∧ y = Value.bool (decide (k ∈ ks))) vs zs → zs = ps.map (fun p => .bool (decide (p ∈ ks)))
  := by
  intro vs ps zs h F
  induction h generalizing zs with
  | nil => cases F; rfl
  | cons y t h ih =>
    cases F with
    | cons q F' =>
      obtain ⟨k, t', e, rfl⟩ := q
      cases e
      rw [ih F']; rfl
theorem hopeful_spec {n : Nat} {t : Tok} {ps : List Str} (B : Base (KW w) H0) (l0 : H0.le H) (R : Room A 5) (hn : n = ps.length) (hs : n ≤ 1000) : Pure prog w A H 413 [.int n t] (fun H' r => SigH prog w H' r ps none) := by
  intro s E Q kn hQ
  refine call_fn (ms := []) (binds := [("many", .int n t)]) B l0 kn (fun _ h => nomatch h) .nil R.depth rfl rfl rfl rfl rfl rfl rfl ?_
  intro Lc h₁ tk S
  have R' : ∀ env, Room (A.deeper env) 4 := fun _ => R.deeper
  refine xs (wpAny_Return_some ?_)
  refine ev_callK B S.toRs rfl rfl rfl (wpAny_items_cons ?_)
  refine wpAny_BinOp (List_ (wpAny_items_cons (wpAny_Constant_bool (wpAny_items_nil ?_))))
  refine newL S (by simp) fun a h₂ S₂ => ev_var S₂.toRs rfl ?_ (by walk_at "VK")
  refine mulL S₂ (S₂.mu _ (.head _)).1 hs fun lf h₃ S₃ => wpAny_items_cons ?_
  refine dict_empty B S₃ fun D o h₄ S₄ od nm _ => wpAny_items_cons (wpAny_Constant_bool (wpAny_items_nil ⟨S₄.inK B, ?_⟩))
  have T := (S₄.freeze (by simp)).freeze (by simp)
  refine make_Signature B T.b0 ((R' _).mo) _ _ _ T.kn fun v H' h' tk' G ⟨ai, e, I⟩ => ?_
  subst e
  refine hQ _ _ _ _ (T.grow G).post.grow ⟨ai, lf, _, _, rfl, I, ⟨_, G.le _ _ addH_self⟩, by rw [List.length_replicate, hn], fun ks q => by cases q⟩
theorem signature_spec {n : Nat} {af lp d : Addr} {vb : Value} {b : Ex} {pvs : List Value} {ps : List Str} (B : Base (KW w) H0) (IH : NeededAt prog w H0 n) (l0 : H0.le H) (hn5 : n ≤ 4) (R : Room A (10 * n + 8)) (I : Inst H 185 af [("params", .ref lp), ("body", vb)]) (hlp : ListH H lp pvs) (hps : StrsAre pvs ps) (hps2 : ps.length ≤ 2) (hT : TreeAt H n vb b) (hF : Few n b) (hd : DictH prog w H d []) :
    Pure prog w A H 470 [.ref af, .ref d] (fun H' r => SigH prog w H' r ps (needF n b)) := by
  intro s E Q kn hQ
  refine call_fn (ms := []) (binds := [("function", .ref af), ("env", .ref d)]) B l0 kn (fun _ h => nomatch h) .nil R.depth rfl rfl rfl rfl rfl rfl rfl ?_
  intro Lc h₁ tk S
  have R' : ∀ env, Room (A.deeper env) (10 * n + 7) := fun _ => R.deeper
  have b4 := four_le (n := n) (by lia)
  have hlen := needF_len n b hF
  have z2 : sizeLine = 16777216 := sizeLine_eq
  refine absG fun gG hgG => ?_
  obtain ⟨ab, lb, rfl, _⟩ := hT.inst
  refine hgG ?_; clear hgG
  refine xs (wpAny_Assign_Name (ev_callK B S.toRs rfl rfl rfl (wpAny_items_cons (ev_attr B S.toRs rfl (by walk_at "VK") I (by walk_at "AT") (by walk_at "MEM") rfl fun tk' => wpAny_items_cons (ev_var S.toRs rfl (wpAny_items_nil ⟨S.inK B, ?_⟩) (by walk_at "VK"))))))
  refine IH _ H _ b d l0 ((R' _).mo) hT hF hd _ _ _ S.kn fun rv H₂ h₂ tk₂ G₂ hr => ?_
  have S₂ := S.grow G₂
  refine St.store (s := uP s h₂ tk₂) S₂ (by walk_at "VK") fun h₃ tk₃ S₃ => ?_
  refine xs ?_
  have I₃ := I.le G₂.le
  have hl₃ := hlp.le G₂.le
  generalize hx : needF n b = x at hr hQ hlen
  cases x with
  | none =>
    cases hr
    refine if_t (t_isNone S₃.toRs rfl (by walk_at "VK") ⟨rfl, ?_⟩)
    refine xs (wpAny_Return_some (ev_callK B S₃.toRs rfl rfl rfl (wpAny_items_cons (ev_callB B S₃.toRs rfl rfl rfl (wpAny_items_cons (ev_attr B S₃.toRs rfl (by walk_at "VK") I₃ (by walk_at "AT") (by walk_at "MEM") rfl fun tk' => wpAny_items_nil ?_))))))
    have z : pvs.toArray.size = ps.length := by rw [List.size_toArray, strsLen hps]
    refine len_list (hl₃.at S₃.kn) (by rw [z]; lia) (wpAny_items_nil ⟨S₃.inK B, ?_⟩)
    rw [z]
    refine hopeful_spec B S₃.b0 ((R' _).mo) rfl (by lia) _ _ _ S₃.kn fun v H₄ h₄ tk₄ G₄ hv => ?_
    exact hQ _ _ _ _ (S₃.grow G₄).post.grow hv
  | some ks =>
    obtain ⟨dn, rfl, D⟩ := hr
    have zk : ks.length ≤ 4 ^ n := hlen
    refine if_f (t_isNone S₃.toRs rfl (by walk_at "VK") ⟨rfl, wpAny_execs_nil ?_⟩)
    refine xs (lcomp_assign S₃ (.of rfl) (fun _ => true) (fun v y => ∃ k t, v = .str k t ∧ y = .bool (decide (k ∈ ks))) rfl rfl ?_)
    refine ev_attr B S₃.toRs rfl (by walk_at "VK") I₃ (by walk_at "AT") (by walk_at "MEM") rfl fun tk' => ⟨H₂, _, _, _, _, S₃, iter_list R.hd (hl₃.at S₃.kn), by rw [List.size_toArray, strsLen hps]; lia, ?_, ?_, ?_⟩
    · intro cenv i v s₃ E' hP S' hsc
      exact tests_nil ⟨rfl, keeps_refl⟩
    · rintro cenv i v s₃ E' hP _ S' hsc
      refine absG fun gG hgG => ?_
      obtain ⟨k, t, hk, rfl⟩ := strsAt hps (i := i) (v := v) (by simpa using hP)
      refine hgG ?_; clear hgG
      refine wpAny_Compare1 (ev_var S' rfl (ev_var S' rfl ?_ ?_) ?_) rfl
      · exact in_dictT D S'.kn fun tk => ⟨⟨k, t, rfl, rfl⟩, keeps_of (.refl _)⟩
      · exact .inr (by show cenv.scope.names.lookup _ = _; rw [hsc]; rfl)
      · exact .inl (by show cenv.scope.names.lookup _ = _; rw [hsc]; rfl)
    · intro D' ep ys ws h₄ tk₄ S₄ hlenw hP F
      have ews : ws = pvs := by
        refine List.ext_getElem? fun j => ?_
        cases hj : ws[j]? with
        | none =>
          have : ws.length ≤ j := List.getElem?_eq_none_iff.mp hj
          rw [List.getElem?_eq_none (by rw [hlenw] at this; simpa using this)]
        | some v => have := hP j v hj; simpa using this.symm
      subst ews
      have eys : ys.toList = ps.map (fun p => .bool (decide (p ∈ ks))) := by
        rw [List.filter_eq_self.mpr fun _ _ => rfl] at F
        exact paired_bools hps F
      have S₅ := S₄.freeze (by simp)
      have lf5 : ListH (addH H₂ D' { cls := .type "list", data := .seq ys ep }) D' (ps.map (fun p => .bool (decide (p ∈ ks)))) := ⟨ep, by rw [addH_self, ← eys]⟩
      have l5 : H₂.le (addH H₂ D' { cls := .type "list", data := .seq ys ep }) := addH_le (S₄.mu _ (.head _)).2.1
      refine xs (wpAny_Return_some (ev_callK B S₅.toRs rfl rfl rfl (wpAny_items_cons (ev_var S₅.toRs rfl (wpAny_items_cons ?_) (by walk_at "VK")))))
      refine ev_callK B S₅.toRs rfl rfl rfl (wpAny_items_cons (ev_var S₅.toRs rfl (wpAny_items_cons (ev_attr B S₅.toRs rfl (by walk_at "VK") (I₃.le l5) (by walk_at "AT") (by walk_at "MEM") rfl fun tk' => wpAny_items_nil ⟨S₅.inK B, ?_⟩)) (by walk_at "VK")))
      refine without_spec B S₅.b0 ((R' _).mo) (n := some ks) ⟨dn, rfl, D.le l5⟩ ⟨lp, ws, rfl, hl₃.le l5, hps⟩ (by show ks.length ≤ _; lia) _ _ _ S₅.kn fun rv H₆ h₆ tk₆ G₆ hr₆ => wpAny_items_cons (wpAny_Constant_bool (wpAny_items_nil ⟨(S₅.grow G₆).inK B, ?_⟩))
      have S₆ := S₅.grow G₆
      refine make_Signature B S₆.b0 ((R' _).mo) _ _ _ S₆.kn fun v H₇ h₇ tk₇ G₇ ⟨ai, e, Ii⟩ => ?_
      subst e
      refine hQ _ _ _ _ (S₆.grow G₇).post.grow ⟨ai, D', _, rv, rfl, Ii, (lf5.le G₆.le).le G₇.le, by rw [List.length_map], fun ks' q => ?_⟩
      cases q
      exact ⟨rfl, hr₆.le G₇.le⟩
end
end Mine
end
section
open PySem PySem.W PyProof.Rows PySem.Calls
set_option maxRecDepth 10000
namespace Mine
structure Move (H : KH) (h : Heap) (os : List (Addr × Obj)) (H' : KH) (h' : Heap) (os' : List (Addr × Obj)) : Prop where
  le : H.le H'
  inn : InH H' h'
  keep : ∀ b o, b ∉ os.map (·.1) → h.get? b = some o → h'.get? b = some o
  fresh : ∀ a, H' a ≠ none → H a ≠ none ∨ h.get? a = none
  own : ∀ p ∈ os', h'.get? p.1 = some p.2
  addr : os'.map (·.1) = os.map (·.1)
theorem Grow.move {H H' : KH} {h h' : Heap} (G : Grow H h H' h') : Move H h [] H' h' [] := ⟨G.le, G.inn, fun b o _ e => G.up b o e, G.fresh, fun _ h => by simp at h, rfl⟩
section
variable {c : Cx} {H H' : KH} {env : Env} {V : Str → Option Value} {ms ms' os os' r : List (Addr × Obj)} {h h' : Heap}
theorem St.mv (S : St c H env V ms h) (M : Move H h os H' h' os') (sub : ∀ a ∈ os.map (·.1), a ∈ ms.map (·.1)) (addr : ms'.map (·.1) = ms.map (·.1)) (get : ∀ p ∈ ms', h'.get? p.1 = some p.2) : St c H' env V ms' h' := by
  have key : ∀ a ∈ ms.map (·.1), (∃ o, h.get? a = some o) ∧ H a = none ∧ (a ∈ c.X ∨ c.hI.get? a = none) ∧ a ≠ env.locals ∧ ∀ x b, env.kindOf x = some .cell → env.cells.lookup x = some b → a ≠ b := fun a ha => by
    obtain ⟨p, hp, rfl⟩ := List.mem_map.mp ha
    obtain ⟨x1, x2⟩ := S.mu p hp
    exact ⟨⟨_, x1⟩, x2⟩
  have no : ∀ a, H a = none → (∃ o, h.get? a = some o) → H' a = none := fun a n ⟨o, e⟩ => by
    cases q : H' a with
    | none => rfl
    | some o' => rcases M.fresh a (by rw [q]; exact nofun) with k | k
                 · exact absurd n k
                 · rw [e] at k; cases k
  have keepO : ∀ b o, H b = none → b ∉ ms.map (·.1) → h.get? b = some o → h'.get? b = some o := fun b o _ hb e => M.keep b o (fun q => hb (sub b q)) e
  obtain ⟨m, hn, hm⟩ := S.rd.ns
  obtain ⟨oL, es, ep, eL, rL⟩ := id hn
  have kL : h'.get? env.locals = some oL := keepO _ _ S.offL.1 (fun q => (key _ q).2.2.2.1 rfl) eL
  refine { rd := ⟨S.rd.fn, ⟨m, ⟨oL, es, ep, kL, rL⟩, hm⟩, fun x k => ?_⟩, b0 := S.b0.trans M.le, kn := M.inn, gl := S.gl, le := S.le.trans M.le, upI := fun b o x e => ?_, frI := fun a e => ?_, xs := fun a ha => ?_, offL := ⟨no _ S.offL.1 ⟨_, eL⟩, S.offL.2⟩, offC := fun x a k l => ⟨?_, (S.offC x a k l).2⟩, apart := S.apart, mu := fun p hp => ?_, nd := by rw [addr]; exact S.nd }
  · obtain ⟨a, v0, l, ⟨o, e, d⟩, q⟩ := S.rd.cl x k
    exact ⟨a, v0, l, ⟨o, keepO a o (S.offC x a k l).1 (fun z => (key _ z).2.2.2.2 x a k l rfl) e, d⟩, q⟩
  · refine M.keep b o (fun q => ?_) (S.upI b o x e)
    rcases (key b (sub b q)).2.2.1 with k | k
    · exact x k
    · rw [k] at e; cases e
  · rcases M.fresh a e with k | k
    · exact S.frI a k
    · exact .inr (S.has k)
  · obtain ⟨o, m⟩ := S.xs a ha
    have : a ∈ ms'.map (·.1) := by rw [addr]; exact List.mem_map_of_mem m
    obtain ⟨p, hp, rfl⟩ := List.mem_map.mp this
    exact ⟨p.2, hp⟩
  · obtain ⟨a', v0, q, ⟨o, e, d⟩, _⟩ := S.rd.cl x k
    rw [l] at q; cases q
    exact no _ (S.offC x a k l).1 ⟨_, e⟩
  · have ha : p.1 ∈ ms.map (·.1) := by rw [← addr]; exact List.mem_map_of_mem hp
    obtain ⟨k1, k2, k3, k4, k5⟩ := key _ ha
    exact ⟨get p hp, no _ k2 k1, k3, k4, k5⟩
theorem St.moveR (S : St c H env V (r ++ os) h) (M : Move H h os H' h' os') : St c H' env V (r ++ os') h' := by
  refine S.mv M (fun a ha => by rw [List.map_append]; exact List.mem_append_right _ ha) (by rw [List.map_append, List.map_append, M.addr]) fun p hp => ?_
  rcases List.mem_append.mp hp with q | q
  · refine M.keep _ _ (fun z => ?_) (S.mu p (List.mem_append_left _ q)).1
    have nd := S.nd
    rw [List.map_append, List.nodup_append] at nd
    exact nd.2.2 p.1 (List.mem_map_of_mem q) p.1 z rfl
  · exact M.own p q
theorem St.moveL (S : St c H env V (os ++ r) h) (M : Move H h os H' h' os') : St c H' env V (os' ++ r) h' :=
  ((S.perm List.perm_append_comm).moveR M).perm List.perm_append_comm
theorem St.changeAt {a : Addr} {o o' : Obj} (S : St c H env V (r ++ (a, o) :: os) h) (U : ∀ b x, b ≠ a → h.get? b = some x → h'.get? b = some x) (e : h'.get? a = some o') : St c H env V (r ++ (a, o') :: os) h' :=
  ((S.perm List.perm_middle).change U e).perm List.perm_middle.symm
theorem St.newAt {a : Addr} {o : Obj} (S : St c H env V (r ++ os) h) (U : Up h h') (n : h.get? a = none) (e : h'.get? a = some o) : St c H env V (r ++ (a, o) :: os) h' := (S.new U n e).perm List.perm_middle.symm
theorem St.dropR (S : St c H env V (r ++ os) h) (hx : ∀ p ∈ os, p.1 ∉ c.X) : St c H env V r h := by
  induction os generalizing r with
  | nil => rw [List.append_nil] at S; exact S
  | cons p t ih =>
    refine ih ?_ fun q hq => hx q (.tail _ hq)
    exact (S.perm List.perm_middle).drop (hx p (.head _))
theorem St.losesR (S : St c H env V (r ++ os) h) (hx : ∀ p ∈ os, p.1 ∉ c.X) (U : ∀ b x, b ∉ os.map (·.1) → h.get? b = some x → h'.get? b = some x) : St c H env V r h' := by
  have key : ∀ p ∈ os, H p.1 = none ∧ c.hI.get? p.1 = none ∧ p.1 ≠ env.locals ∧ ∀ x b, env.kindOf x = some .cell → env.cells.lookup x = some b → p.1 ≠ b := fun p hp => by
    obtain ⟨_, k2, k3, k4, k5⟩ := S.mu p (List.mem_append_right _ hp)
    exact ⟨k2, k3.resolve_left (hx p hp), k4, k5⟩
  have nd := S.nd
  rw [List.map_append, List.nodup_append] at nd
  have at' : ∀ b, (∀ p ∈ os, b ≠ p.1) → b ∉ os.map (·.1) := fun b hb m => by
    obtain ⟨p, hp, e⟩ := List.mem_map.mp m
    exact hb p hp e.symm
  refine { rd := ⟨S.rd.fn, ?_, fun x k => ?_⟩, b0 := S.b0, kn := fun b x q => U b x (at' b fun p hp z => by rw [z, (key p hp).1] at q; cases q) (S.kn b x q), gl := S.gl, le := S.le, upI := fun b x hb q => U b x (at' b fun p hp z => by rw [z, (key p hp).2.1] at q; cases q) (S.upI b x hb q), frI := S.frI, xs := fun b hb => ?_, offL := S.offL, offC := S.offC, apart := S.apart, mu := fun p hp => ?_, nd := nd.1 }
  · obtain ⟨m, ⟨o1, es, ep, q, z⟩, t⟩ := S.rd.ns
    exact ⟨m, ⟨o1, es, ep, U _ _ (at' _ fun p hp y => (key p hp).2.2.1 y.symm) q, z⟩, t⟩
  · obtain ⟨b, v0, q, ⟨o1, y, t⟩, z⟩ := S.rd.cl x k
    exact ⟨b, v0, q, ⟨o1, U _ _ (at' _ fun p hp y' => (key p hp).2.2.2 x b k q y'.symm) y, t⟩, z⟩
  · obtain ⟨o1, m⟩ := S.xs b hb
    rcases List.mem_append.mp m with m | m
    · exact ⟨o1, m⟩
    · exact absurd hb (hx _ m)
  · obtain ⟨q1, q2⟩ := S.mu p (List.mem_append_left _ hp)
    exact ⟨U _ _ (fun z => nd.2.2 p.1 (List.mem_map_of_mem hp) p.1 z rfl) q1, q2⟩
end
noncomputable def Changes (prog : Program) (w : World) (A : Around) (H : KH) (f : Addr) (args : List Value) (os : List (Addr × Obj)) (P : KH → List (Addr × Obj) → Value → Prop) : Prop :=
  ∀ (s : Shared) (E : Value → Shared → Prop) (Q : Value → Shared → Prop), InH H s.heap → (∀ p ∈ os, s.heap.get? p.1 = some p.2 ∧ H p.1 = none) → (os.map (·.1)).Nodup → (∀ v H' h' tk os', Move H s.heap os H' h' os' → P H' os' v → Q v (uP s h' tk)) → wpAny (model prog w) A (call (.ref f) args) Q E s
theorem Post.move {H0 H H' : KH} {h h' : Heap} {os os' : List (Addr × Obj)} (P : Post ⟨H0, H, h, os.map (·.1)⟩ H' h') (addr : os'.map (·.1) = os.map (·.1)) (get : ∀ p ∈ os', h'.get? p.1 = some p.2) : Move H h os H' h' os' :=
  ⟨P.le, P.inn, fun b o hb e => P.up b o hb e, P.fresh, get, addr⟩
noncomputable def Makes (prog : Program) (w : World) (A : Around) (H : KH) (f : Addr) (args : List Value) (P : Obj → Prop) : Prop :=
  ∀ (s : Shared) (E : Value → Shared → Prop) (Q : Value → Shared → Prop), InH H s.heap → (∀ a o h' tk, Up s.heap h' → s.heap.get? a = none → h'.get? a = some o → P o → Q (.ref a) (uP s h' tk)) → wpAny (model prog w) A (call (.ref f) args) Q E s
noncomputable def TupW (H : KH) (t : Addr) (vs : List Value) : Prop := ∃ o, H t = some o ∧ o.cls = .type "tuple" ∧ ∃ n, o.data = .seq vs.toArray n
theorem TupH.w {H : KH} {t : Addr} {vs : List Value} (x : TupH H t vs) : TupW H t vs := let ⟨n, e⟩ := x; ⟨_, e, rfl, n, rfl⟩
theorem TupW.le {H H' : KH} {t : Addr} {vs : List Value} (x : TupW H t vs) (l : H.le H') : TupW H' t vs := let ⟨o, e, r⟩ := x; ⟨o, l _ _ e, r⟩
theorem TupW.at {H : KH} {h : Heap} {t : Addr} {vs : List Value} (x : TupW H t vs) (k : InH H h) : IsTup h t vs.toArray := let ⟨o, e, r⟩ := x; ⟨o, k _ _ e, r⟩
inductive Item (H : KH) : PySem.Expr → Value → List (Str × Value) → Prop
  | name (x : Str) (p : Pos) (v : Value) : Item H (.Name x p) v [(x, v)]
  | pair (x y : Str) (p q r : Pos) (n : Nat) (t : Addr) (a b : Value) : TupW H t [a, b] → Item H (.Tuple [.Name x p, .Name y q] n r) (.ref t) [(x, a), (y, b)]
structure Itr (prog : Program) (w : World) (A : Around) (it : Value) (tgt : PySem.Expr) (n : Nat) (J : Nat → KH → List (Addr × Obj) → Prop) (B : Nat → KH → List (Str × Value) → Prop) : Prop where
  step : ∀ i H os (s : Shared) (E : Value → Shared → Prop) (Q : Value → Shared → Prop), i < n → J i H os → InH H s.heap → (∀ p ∈ os, s.heap.get? p.1 = some p.2 ∧ H p.1 = none) →
    (∀ v H' os' h' tk' binds, Move H s.heap os H' h' os' → J (i + 1) H' os' → Item H' tgt v binds → B i H' binds → Q v (uP s h' tk')) →
    wpAny (model prog w) A (pyNext it) (fun r s₁ => ∃ v, r = some v ∧ wpAny (model prog w) A (letOwnedTupleGo tgt it v) (fun _ s₂ => Q v s₂) E s₁) E s
  done : ∀ H os (s : Shared) (E : Value → Shared → Prop) (Q : Shared → Prop), J n H os → InH H s.heap → (∀ p ∈ os, s.heap.get? p.1 = some p.2 ∧ H p.1 = none) →
    (∀ h' tk', (∀ b o, b ∉ os.map (·.1) → s.heap.get? b = some o → h'.get? b = some o) → Q (uP s h' tk')) → wpAny (model prog w) A (pyNext it) (fun r s₁ => r = none ∧ Q s₁) E s
  self : ∀ H os (s : Shared) (E : Value → Shared → Prop) (Q : Value → Shared → Prop), J 0 H os → InH H s.heap → (∀ p ∈ os, s.heap.get? p.1 = some p.2 ∧ H p.1 = none) → Q it s → wpAny (model prog w) A (pyIter it) Q E s
  mono : ∀ i H H' os, J i H os → H.le H' → J i H' os
noncomputable def JW (fp wr : List Addr) (WS : Nat → Heap → Prop) (i : Nat) (H : KH) (os : List (Addr × Obj)) : Prop :=
  os.map (·.1) = wr ∧ (∀ b ∈ fp, b ∈ wr ∨ H b ≠ none) ∧ ∀ h, InH H h → (∀ p ∈ os, h.get? p.1 = some p.2) → WS i h
theorem JW.mono {fp wr : List Addr} {WS : Nat → Heap → Prop} {i : Nat} {H H' : KH} {os : List (Addr × Obj)} (x : JW fp wr WS i H os) (l : H.le H') : JW fp wr WS i H' os :=
  ⟨x.1, fun b hb => (x.2.1 b hb).imp id fun q => by
    obtain ⟨o, e⟩ := Option.ne_none_iff_exists'.mp q
    rw [l _ _ e]; exact nofun, fun h k g => x.2.2 h (k.le l) g⟩
theorem objs_at {h : Heap} : ∀ (wr : List Addr), (∀ b ∈ wr, ∃ o, h.get? b = some o) → ∃ os : List (Addr × Obj), os.map (·.1) = wr ∧ ∀ p ∈ os, h.get? p.1 = some p.2
  | [], _ => ⟨[], rfl, fun _ h => by simp at h⟩
  | b :: r, k => by
    obtain ⟨o, e⟩ := k b (.head _)
    obtain ⟨os, e1, e2⟩ := objs_at r fun b hb => k b (.tail _ hb)
    refine ⟨(b, o) :: os, by rw [List.map_cons, e1], fun p hp => ?_⟩
    rcases List.mem_cons.mp hp with rfl | hp
    · exact e
    · exact e2 p hp
theorem JW.make {fp wr : List Addr} {WS : Nat → Heap → Prop} {i : Nat} {H : KH} {os : List (Addr × Obj)} {h : Heap} (frame : ∀ i h h', WS i h → (∀ b ∈ fp, ∀ o, h.get? b = some o → h'.get? b = some o) → WS i h')
    (a : os.map (·.1) = wr) (f : ∀ b ∈ fp, b ∈ wr ∨ H b ≠ none) (st : WS i h) (k : InH H h) (g : ∀ p ∈ os, h.get? p.1 = some p.2) : JW fp wr WS i H os :=
  ⟨a, f, fun h2 k2 g2 => frame i h h2 st fun b hb o e => by
    rcases f b hb with m | m
    · rw [← a] at m
      obtain ⟨p, hp, rfl⟩ := List.mem_map.mp m
      rw [g p hp] at e; cases e
      exact g2 p hp
    · obtain ⟨o', e'⟩ := Option.ne_none_iff_exists'.mp m
      rw [k _ _ e'] at e; cases e
      exact k2 _ _ e'⟩
section
variable {prog : Program} {w : World} {A : Around}
theorem Itr.ofWalks {I : Addr} {fp wr : List Addr} {n : Nat} {P : Nat → Value → Prop} {WS : Nat → Heap → Prop} (x : Str) (p : Pos) (W : Walks prog w A I fp wr n P WS) (pres : ∀ i h, WS i h → ∀ b ∈ wr, ∃ o, h.get? b = some o) :
    Itr prog w A (.ref I) (.Name x p) n (JW fp wr WS) (fun i _ binds => ∃ v, binds = [(x, v)] ∧ P i v) where
  step := fun i H os s E Q hi j k g hQ => by
    refine W.item i s _ _ hi (j.2.2 _ k fun p hp => (g p hp).1) fun v h' tk hP st keep => ⟨v, rfl, wpAny_pure ?_⟩
    obtain ⟨os', e1, e2⟩ := objs_at wr (pres _ _ st)
    have kn' : InH H h' := fun b o e => keep b o (fun m => by
      rw [← j.1] at m
      obtain ⟨p, hp, rfl⟩ := List.mem_map.mp m
      rw [(g p hp).2] at e; cases e) (k b o e)
    exact hQ v H os' h' tk _ ⟨.refl _, kn', fun b o hb e => keep b o (by rw [← j.1]; exact hb) e, fun a e => .inl e, e2, by rw [e1, j.1]⟩ (.make W.frame e1 j.2.1 st kn' e2) (.name _ _ _) ⟨v, rfl, hP⟩
  done := fun H os s E Q j k g hQ => W.done s _ _ (j.2.2 _ k fun p hp => (g p hp).1) fun h' tk keep => ⟨rfl, hQ h' tk fun b o hb e => keep b o (by rw [← j.1]; exact hb) e⟩
  self := fun H os s E Q j k g h => W.self 0 s _ _ (j.2.2 _ k fun p hp => (g p hp).1) h
  mono := fun i H H' os j l => j.mono l
theorem Itr.ofWalksT {I : Addr} {fp wr : List Addr} {n : Nat} {P : Nat → Array Value → Prop} {WS : Nat → Heap → Prop} {Mid : Nat → Addr → Heap → Prop} (x y : Str) (p q r : Pos) (m : Nat) (W : WalksT prog w A I fp wr n P WS Mid) (pres : ∀ i h, WS i h → ∀ b ∈ wr, ∃ o, h.get? b = some o)
    (two : ∀ i vs, P i vs → ∃ a b, vs = #[a, b]) :
    Itr prog w A (.ref I) (.Tuple [.Name x p, .Name y q] m r) n (JW fp wr WS) (fun i _ binds => ∃ a b, binds = [(x, a), (y, b)] ∧ P i #[a, b]) where
  step := fun i H os s E Q hi j k g hQ => by
    refine W.item i s _ _ hi (j.2.2 _ k fun p hp => (g p hp).1) fun T vals h1 tk hP sz hT mid keep => ⟨_, rfl, ?_⟩
    refine W.go _ _ _ i T _ _ _ mid fun h' st keep' => ?_
    obtain ⟨a, b, rfl⟩ := two i vals hP
    have fr : s.heap.get? T = none := fresh_of_size sz
    obtain ⟨oT, eT, rT⟩ := hT
    have nT : T ∉ wr := W.apart _ _ _ mid
    have eT' := keep' _ _ nT eT
    obtain ⟨os', e1, e2⟩ := objs_at wr (pres _ _ st)
    have kn' : InH H h' := fun b o e => by
      have nb : b ∉ wr := fun m => by
        rw [← j.1] at m
        obtain ⟨p, hp, rfl⟩ := List.mem_map.mp m
        rw [(g p hp).2] at e; cases e
      exact keep' b o nb (keep b o nb (k b o e))
    have nH : H T = none := k.off fr
    have lH := addH_le (o := oT) nH
    have kn2 : InH (addH H T oT) h' := fun b o e => by
      unfold addH at e; split at e
      · rename_i q; subst q; cases e; exact eT'
      · exact kn' _ _ e
    refine hQ (.ref T) (addH H T oT) os' h' tk _ ⟨lH, kn2, fun b o hb e => ?_, fun b e => ?_, e2, by rw [e1, j.1]⟩ (.make W.frame e1 (fun b hb => (j.2.1 b hb).imp id fun q => ?_) st kn2 e2) (.pair _ _ _ _ _ _ T a b ⟨oT, addH_self, rT⟩) ⟨a, b, rfl, hP⟩
    · rw [j.1] at hb; exact keep' b o hb (keep b o hb e)
    · unfold addH at e; split at e
      · rename_i q; subst q; exact .inr fr
      · exact .inl e
    · obtain ⟨o, e⟩ := Option.ne_none_iff_exists'.mp q
      rw [lH _ _ e]; exact nofun
  done := fun H os s E Q j k g hQ => W.done s _ _ (j.2.2 _ k fun p hp => (g p hp).1) fun h' tk keep => ⟨rfl, hQ h' tk fun b o hb e => keep b o (by rw [← j.1]; exact hb) e⟩
  self := fun H os s E Q j k g h => W.self 0 s _ _ (j.2.2 _ k fun p hp => (g p hp).1) h
  mono := fun i H H' os j l => j.mono l
end
end Mine
end
section
open PySem PySem.W PyProof.Rows PySem.Calls
set_option maxRecDepth 10000
namespace Mine
section
variable {prog : Program} {w : World} {A : Around} {E : Value → Shared → Prop} {s : Shared} {c : Cx} {H : KH} {env : Env} {V : Str → Option Value} {ms : List (Addr × Obj)}
theorem up_ext {h h' : Heap} (x : Heap.ExtBut h.objs.size h h') : Up h h' := fun b o e => x b o (Nat.ne_of_lt (Heap.lt_size e)) e
noncomputable def tgtNames : PySem.Expr → List Str
  | .Name x _ => [x]
  | .Tuple [.Name x _, .Name y _] _ _ => [x, y]
  | _ => []
theorem Item.names {H : KH} {tgt : PySem.Expr} {v : Value} {binds : List (Str × Value)} (I : Item H tgt v binds) : binds.map (·.1) = tgtNames tgt := by cases I <;> rfl
theorem Item.kinds {H : KH} {tgt : PySem.Expr} {v : Value} {binds : List (Str × Value)} {env : Env} (I : Item H tgt v binds) (hk : (tgtNames tgt).all (fun x => env.kindOf x == some .local || env.kindOf x == some .cell) = true) : ∀ p ∈ binds, env.kindOf p.1 = some .local ∨ env.kindOf p.1 = some .cell := fun p hp => by
  have := List.all_eq_true.mp hk p.1 (by rw [← I.names]; exact List.mem_map_of_mem hp)
  simpa using this
theorem St.asg {tgt : PySem.Expr} {v : Value} {binds : List (Str × Value)} {Q : Unit → Shared → Prop} (hh : A.handled = none) (S : St c H env V ms s.heap) (I : Item H tgt v binds) (hk : ∀ p ∈ binds, env.kindOf p.1 = some .local ∨ env.kindOf p.1 = some .cell)
    (h : ∀ h' tk', St c H env (bindV binds V) ms h' → Q () (uP s h' tk')) : wpAny (model prog w) A (assign tgt env v) Q E s := by
  cases I with
  | name x p v => exact wpAny_assign_Name (St.store S (hk _ (.head _)) fun h₃ tk₃ S₄ => h h₃ tk₃ S₄)
  | pair x y p q r n t a b ht =>
    refine assign_Tuple_tuple hh (ht.at S.kn) rfl rfl fun h₅ he => ?_
    refine assignInOrder_cons (wpAny_assign_Name (St.store (s := uH s h₅) (S.up (up_ext he)) (hk (x, a) (.head _)) fun h₃ tk₃ S₃ => ?_))
    exact assignInOrder_cons (wpAny_assign_Name (St.store S₃ (hk (y, b) (.tail _ (.head _))) fun h₆ tk₆ S₆ => assignInOrder_nil (h h₆ tk₆ S₆)))
theorem Itr.turn {it : Value} {tgt : PySem.Expr} {n : Nat} {J : Nat → KH → List (Addr × Obj) → Prop} {B : Nat → KH → List (Str × Value) → Prop} (W : Itr prog w A it tgt n J B) {Q : Option Value → Shared → Prop} {Q' : Value → Shared → Prop}
    (conv : ∀ v s₁, wpAny (model prog w) A (letOwnedTupleGo tgt it v) (fun _ s₂ => Q' v s₂) E s₁ → Q (some v) s₁) {i : Nat} {os : List (Addr × Obj)} (hi : i < n) (j : J i H os) (k : InH H s.heap) (g : ∀ p ∈ os, s.heap.get? p.1 = some p.2 ∧ H p.1 = none)
    (h : ∀ v H' os' h' tk' binds, Move H s.heap os H' h' os' → J (i + 1) H' os' → Item H' tgt v binds → B i H' binds → Q' v (uP s h' tk')) : wpAny (model prog w) A (pyNext it) Q E s :=
  wpAny_mono (W.step i H os s E Q' hi j k g h) (fun r s₁ ⟨v, e, q⟩ => by subst e; exact conv v s₁ q) fun _ _ q => q
theorem Itr.last {it : Value} {tgt : PySem.Expr} {n : Nat} {J : Nat → KH → List (Addr × Obj) → Prop} {B : Nat → KH → List (Str × Value) → Prop} (W : Itr prog w A it tgt n J B) {Q : Option Value → Shared → Prop} {os : List (Addr × Obj)} (j : J n H os) (k : InH H s.heap) (g : ∀ p ∈ os, s.heap.get? p.1 = some p.2 ∧ H p.1 = none)
    (h : ∀ h' tk', (∀ b o, b ∉ os.map (·.1) → s.heap.get? b = some o → h'.get? b = some o) → Q none (uP s h' tk')) : wpAny (model prog w) A (pyNext it) Q E s :=
  wpAny_mono (W.done H os s E (Q none) j k g h) (fun r s₁ ⟨e, q⟩ => by subst e; exact q) fun _ _ q => q
inductive ForIn (prog : Program) (w : World) (A : Around) (c : Cx) (env : Env) (tgt : PySem.Expr) (body : List Stmt) (Inv : Nat → KH → (Str → Option Value) → List (Addr × Obj) → Prop) (Q : Flow → Shared → Prop) (it : Value) (s₂ : Shared) : Prop
  | mk (n : Nat) (J : Nat → KH → List (Addr × Obj) → Prop) (B : Nat → KH → List (Str × Value) → Prop) (H₁ : KH) (V₁ : Str → Option Value) (ms₁ os : List (Addr × Obj)) (W : Itr prog w A it tgt n J B) (j0 : J 0 H₁ os) (S : St c H₁ env V₁ (ms₁ ++ os) s₂.heap) (hX : ∀ p ∈ os, p.1 ∉ c.X) (i0 : Inv 0 H₁ V₁ ms₁)
    (turn : ∀ i binds os H' V' ms' h' tk', i < n → B i H' binds → H₁.le H' → (∀ p ∈ os, p.1 ∉ c.X) → Inv i H' V' ms' → St c H' env (bindV binds V') (ms' ++ os) h' →
        wpAny (model prog w) A (execs body env) (TurnQ c env s₂ H' os (Inv (i + 1)) Q) (fun _ _ => False) (uP s₂ h' tk'))
    (fin : ∀ H' V' ms' h' tk', H₁.le H' → Inv n H' V' ms' → St c H' env V' ms' h' → Q .next (uP s₂ h' tk'))
theorem for_it {tgt iter : PySem.Expr} {pos : Pos} {body : List Stmt} {Q : Flow → Shared → Prop} (hh : A.handled = none)
    (Inv : Nat → KH → (Str → Option Value) → List (Addr × Obj) → Prop)
    (h : wpAny (model prog w) A (eval iter env) (fun xv s₁ => wpAny (model prog w) A (pyIter xv) (ForIn prog w A c env tgt body Inv Q) E s₁) E s)
    (kn : ∀ H' H'' i V' ms', H'.le H'' → Inv i H' V' ms' → Inv i H'' V' ms')
    (hk : (tgtNames tgt).all (fun x => env.kindOf x == some .local || env.kindOf x == some .cell) = true := by rfl)
    (hs : ∀ x, foldedSetIterable iter env x = pure x := by intro _; rfl) :
    wpAny (model prog w) A (exec (.For tgt iter body [] pos) env) Q E s := by
  refine wpAny_For (wpAny_mono h (fun xv s₁ h₁ => wpAny_mono h₁ (fun it s₂ h₂ => ?_) fun _ _ q => q) fun _ _ q => q) hs
  obtain ⟨n, J, B, H₁, V₁, ms₁, os₁, W, j0, S₁, hX, i0, turn, fin⟩ := h₂
  refine codeAny_forLoop_any (fun k s' => Ex7 fun i os H' V' ms' h' tk' => An8 (s' = (uP s₂ h' tk')) (k = n + 1 - i) (i ≤ n) (H₁.le H') (St c H' env V' (ms' ++ os) h') ((∀ p ∈ os, p.1 ∉ c.X)) (J i H' os) (Inv i H' V' ms')) ?_ (n + 1)
    ⟨0, os₁, H₁, V₁, ms₁, s₂.heap, s₂.toks, rfl, rfl, Nat.zero_le _, .refl _, S₁, hX, j0, i0⟩
  rintro k s' ⟨i, os, H', V', ms', h', tk', rfl, rfl, hi, le, S', hX', j, hI⟩
  have own : ∀ p ∈ os, h'.get? p.1 = some p.2 ∧ H' p.1 = none := fun p hp => let ⟨a, b, _⟩ := S'.mu p (List.mem_append_right _ hp); ⟨a, b⟩
  rcases Nat.lt_or_ge i n with lt | ge
  · refine W.turn (fun v s₁ q => q) (s := uP s₂ h' tk') lt j S'.kn own fun v H2 os2 h2 tk2 binds M j2 It hB => ?_
    have S2 := S'.moveR M
    have hX2 : ∀ p ∈ os2, p.1 ∉ c.X := fun p hp => by
      have : p.1 ∈ os.map (·.1) := by rw [← M.addr]; exact List.mem_map_of_mem hp
      obtain ⟨p', hp', e⟩ := List.mem_map.mp this
      rw [← e]; exact hX' p' hp'
    refine St.asg (s := uP s₂ h2 tk2) hh S2 It (fun p hp => It.kinds hk p hp) fun h3 tk3 S3 => ?_
    refine wpAny_mono (turn i binds os2 H2 V' ms' h3 tk3 lt hB (le.trans M.le) hX2 (kn _ _ _ _ _ M.le hI) S3) (fun f s₃ q => ?_) fun _ _ q => q.elim
    cases f with
    | next =>
      obtain ⟨H'', V'', ms'', h'', tk'', rfl, le', S₅, i'⟩ := q
      exact ⟨_, by lia, i + 1, os2, H'', V'', ms'', h'', tk'', rfl, rfl, lt, (le.trans M.le).trans le', S₅, hX2, W.mono _ _ _ _ j2 le', i'⟩
    | brk => exact q.elim
    | cont => exact q.elim
    | ret v => exact q
  · have e : i = n := Nat.le_antisymm hi ge
    subst e
    refine W.last (s := uP s₂ h' tk') j S'.kn own fun h2 tk2 keep => ?_
    exact wpAny_execs_nil (fin H' V' ms' h2 tk2 le hI (S'.losesR hX' keep))
end
end Mine
end
section
open PySem PySem.W PyProof.Rows PySem.Calls
set_option maxRecDepth 10000
namespace Mine
noncomputable def NsObj' (o : Obj) (m : Str → Option Value) : Prop := ∃ es ep, o.data = .dict es ep ∧ StrKeys es ∧ ∀ name, nsFind es name = m name
theorem NsObj'.ns {h : Heap} {C : Addr} {o : Obj} {m : Str → Option Value} (x : NsObj' o m) (e : h.get? C = some o) : h.Ns C m := let ⟨es, ep, hd, r⟩ := x; ⟨o, es, ep, e, hd, r⟩
theorem nsObj_of {h : Heap} {C : Addr} {m : Str → Option Value} (x : h.Ns C m) : ∃ o, h.get? C = some o ∧ NsObj' o m := let ⟨o, es, ep, e, hd, r⟩ := x; ⟨o, e, es, ep, hd, r⟩
noncomputable def compVB (scope : Scope) (env : Env) (V : Str → Option Value) (binds : List (Str × Value)) : Str → Option Value :=
  fun y => match bindV binds (fun _ => none) y with
    | some v => some v
    | none => if compKind scope env y = some .cell then V y else none
theorem bindV_some : ∀ (binds : List (Str × Value)) (V : Str → Option Value) (y : Str) (v : Value), bindV binds V y = some v → V y = some v ∨ ∃ p ∈ binds, p.1 = y
  | [], _, _, _, h => .inl h
  | (n, u) :: r, V, y, v, h => by
    rcases bindV_some r _ y v h with k | ⟨p, hp, e⟩
    · unfold setV at k
      split at k
      · rename_i q; exact .inr ⟨_, .head _, q.symm⟩
      · exact .inl k
    · exact .inr ⟨p, .tail _ hp, e⟩
theorem bindV_mono : ∀ (binds : List (Str × Value)) (V V' : Str → Option Value), (∀ y v, V y = some v → V' y = some v) → ∀ y v, bindV binds V y = some v → bindV binds V' y = some v
  | [], _, _, h, y, v, e => h y v e
  | (n, u) :: r, V, V', h, y, v, e => bindV_mono r _ _ (fun z u' k => by
      unfold setV at k ⊢
      split at k
      · rename_i q; rw [if_pos q]; exact k
      · rename_i q; rw [if_neg q]; exact h _ _ k) y v e
structure CompScopeB (env : Env) (scope : Scope) (xs : List Str) : Prop where
  kind : scope.kind = .function
  cell : ∀ y ∈ scope.names, y.2 ≠ .cell
  loc : ∀ y ∈ scope.names, y.2 = .local → scope.names.lookup y.1 = some .local
  var : ∀ x ∈ xs, scope.names.lookup x = some .local
  free : ∀ y ∈ scope.names, y.2 = .free → env.kindOf y.1 = some .cell
noncomputable def compOkB (env : Env) (scope : Scope) (xs : List Str) : Bool :=
  scope.kind == .function && scope.names.all (fun y => y.2 != .cell && (y.2 != .local || scope.names.lookup y.1 == some .local) && (y.2 != .free || env.kindOf y.1 == some .cell)) && xs.all (fun x => scope.names.lookup x == some .local)
theorem CompScopeB.of {env : Env} {scope : Scope} {xs : List Str} (h : compOkB env scope xs = true) : CompScopeB env scope xs := by
  unfold compOkB at h
  rw [Bool.and_eq_true, Bool.and_eq_true] at h
  obtain ⟨⟨h1, h2⟩, h3⟩ := h
  have key := fun y hy => List.all_eq_true.mp h2 y hy
  refine ⟨by simpa using h1, fun y hy q => ?_, fun y hy q => ?_, fun x hx => by simpa using List.all_eq_true.mp h3 x hx, fun y hy q => ?_⟩ <;> have k := key y hy <;> rw [Bool.and_eq_true, Bool.and_eq_true] at k
  · rw [q] at k; exact absurd k.1.1 (by decide)
  · have := k.1.2; rw [q] at this; simpa using this
  · have := k.2; rw [q] at this; simpa using this
section
variable {prog : Program} {w : World} {A : Around} {E : Value → Shared → Prop} {s : Shared} {c : Cx} {H H0 : KH} {env : Env} {V : Str → Option Value} {ms : List (Addr × Obj)}
theorem clos_ofB {scope : Scope} {xs : List Str} {h : Heap} (R : Rs H0 H env V h) (Z : CompScopeB env scope xs) : closureFor scope env = pure (clOf env scope.names []) :=
  closureFor_eq fun n hn => by
    obtain ⟨a, _, l, _⟩ := R.rd.cl n (Z.free _ hn rfl)
    rw [l]; rfl
theorem rs_compB {scope : Scope} {binds : List (Str × Value)} {xs : List Str} {C : Addr} {m : Str → Option Value} {h : Heap} (S : Rs H0 H env V h) (Z : CompScopeB env scope xs) (hn : h.Ns C m) (hb : ∀ p ∈ binds, p.1 ∈ xs) (hm : ∀ y v, bindV binds (fun _ => none) y = some v → m y = some v) :
    Rs H0 H (compEnvC scope (clOf env scope.names []) C env) (compVB scope env V binds) h := by
  have loc : ∀ y v, bindV binds (fun _ => none) y = some v → compKind scope env y = some .local := fun y v e => by
    rcases bindV_some _ _ _ _ e with k | ⟨p, hp, rfl⟩
    · cases k
    · exact lookup_relabel_local (Z.var _ (hb p hp))
  refine ⟨⟨Z.kind, ⟨m, hn, fun y u ky hy => ?_⟩, fun y ky => ?_⟩, S.b0, S.kn, S.gl⟩
  · unfold compVB at hy
    split at hy
    · rename_i v e; cases hy; exact hm _ _ e
    · have : compKind scope env y = some .local := ky
      rw [this] at hy; simp at hy
  · obtain ⟨hf, hk⟩ := relabel_cell Z.cell ky
    obtain ⟨a, v0, la, ha, r⟩ := S.rd.cl y hk
    refine ⟨a, v0, ?_, ha, fun u hu => ?_⟩
    · show (clOf env scope.names []).lookup y = some a
      rw [clOf_acc env scope.names [] y (.inr hf) (fun a e => by cases e), la]; rfl
    · unfold compVB at hu
      have k2 : compKind scope env y = some .cell := ky
      split at hu
      · rename_i v e
        rw [loc _ _ e] at k2; cases k2
      · rw [if_pos k2] at hu
        exact r u hu
theorem asgC {tgt : PySem.Expr} {v : Value} {binds : List (Str × Value)} {l r : List (Addr × Obj)} {C : Addr} {oC : Obj} {m : Str → Option Value} {cenv : Env} {Q : Unit → Shared → Prop} (hh : A.handled = none) (S : St c H env V (l ++ (C, oC) :: r) s.heap) (hC : NsObj' oC m) (I : Item H tgt v binds) (hl : cenv.locals = C) (hf : cenv.scope.kind = .function)
    (hk : ∀ x ∈ tgtNames tgt, cenv.kindOf x = some .local)
    (h : ∀ h' tk' oC' m', St c H env V (l ++ (C, oC') :: r) h' → NsObj' oC' m' → (∀ y v, bindV binds (fun _ => none) y = some v → m' y = some v) → Q () (uP s h' tk')) : wpAny (model prog w) A (assign tgt cenv v) Q E s := by
  subst hl
  have hp : (cenv.scope.kind == .class || (cenv.scope.kind == .module && cenv.locals != cenv.globals)) = false := by rw [hf]; rfl
  have eC := (S.mu _ (List.mem_append_right _ (.head _))).1
  cases I with
  | name x p v =>
    refine wpAny_assign_Name (wpAny_storeName_local (hk x (.head _)) (hC.ns eC) (fun h2 hn2 hs2 => ?_) hp)
    obtain ⟨o2, e2, n2⟩ := nsObj_of hn2
    exact h h2 _ o2 _ (S.changeAt (fun b o hb e => hs2.extBut b o hb e) e2) n2 fun y u hy => bindV_mono [(x, v)] _ m (fun _ _ e => by cases e) y u hy
  | pair x y p q r' n t a b ht =>
    refine assign_Tuple_tuple hh (ht.at S.kn) rfl rfl fun h₅ he => ?_
    have S5 := S.up (up_ext he)
    have e5 := (S5.mu _ (List.mem_append_right _ (.head _))).1
    refine assignInOrder_cons (wpAny_assign_Name (wpAny_storeName_local (hk x (.head _)) (hC.ns e5) (fun h2 hn2 hs2 => ?_) hp))
    obtain ⟨o2, e2, n2⟩ := nsObj_of hn2
    have S6 := S5.changeAt (fun b o hb e => hs2.extBut b o hb e) e2
    refine assignInOrder_cons (wpAny_assign_Name (wpAny_storeName_local (hk y (.tail _ (.head _))) hn2 (fun h3 hn3 hs3 => ?_) hp))
    obtain ⟨o3, e3, n3⟩ := nsObj_of hn3
    exact assignInOrder_nil (h h3 _ o3 _ (S6.changeAt (fun b o hb e => hs3.extBut b o hb e) e3) n3 fun z u hy => bindV_mono [(x, a), (y, b)] _ m (fun _ _ e => by cases e) z u hy)
theorem compLoop_any {elt tgt iter : PySem.Expr} {ifs : List PySem.Expr} {scope : Scope} {pos : Pos} {it acc : Value} {cenv : Env} {R : Result → Shared → Prop} (I : Nat → Shared → Prop)
    (turn : ∀ n s, I n s → ∀ E' : Value → Shared → Prop, wpAny (model prog w) A (pyNext it) (fun r s₁ => match r with
      | none => R (.ok .next) s₁
      | some v => wpAny (model prog w) A (letOwnedTupleGo tgt it v) (fun _ s₁' => wpAny (model prog w) A (assign tgt cenv v) (fun _ s₂ =>
          wpAny (model prog w) A (testsOf ifs cenv) (fun ok s₃ =>
            if ok = true then wpAny (model prog w) A (eval elt cenv) (fun x s₄ =>
              wpAny (model prog w) A (call (.builtin "list.append") [acc, x]) (fun _ s₅ => ∃ m, m < n ∧ I m s₅) E' s₄) E' s₃
            else ∃ m, m < n ∧ I m s₃) E' s₂) E' s₁') E' s₁) E' s)
    (n : Nat) (h : I n s) :
    codeAny (model prog w) A (.compLoop (.ListComp elt [⟨tgt, iter, ifs, 0⟩] scope pos) 0 it acc cenv) R s := by
  refine codeAny_loop rfl I (fun n s hI => ?_) n h
  show wpAny _ A ((compTurn (.ListComp elt [⟨tgt, iter, ifs, 0⟩] scope pos) 0 it acc cenv).onRaise (fun x => do noteFrame x cenv; theTreesLotGoes x)) _ _ s
  refine wpAny_noted ?_
  rw [compTurn_list]
  refine wpAny_bind (wpAny_standAt (wpAny_bind (wpAny_mono (turn n s hI _) (fun r s₁ h₁ => ?_) fun _ _ h' => h')))
  cases r with
  | none => exact wpAny_pure h₁
  | some v =>
    refine wpAny_bind (wpAny_mono h₁ (fun _ s₁' h₁' => ?_) fun _ _ h' => h')
    refine wpAny_bind (wpAny_mono h₁' (fun _ s₂ h₂ => wpAny_bind (wpAny_mono h₂ (fun ok s₃ h₃ => ?_) fun _ _ h' => h')) fun _ _ h' => h')
    cases ok with
    | false => exact wpAny_pure ⟨rfl, h₃⟩
    | true =>
      exact wpAny_bind (wpAny_bind (wpAny_mono h₃ (fun x s₄ h₄ => wpAny_bind (wpAny_mono h₄ (fun _ s₅ h₅ => wpAny_pure (wpAny_pure ⟨rfl, h₅⟩)) fun _ _ h' => h')) fun _ _ h' => h'))
end
end Mine
end
section
open PySem PySem.W PyProof.Rows PySem.Calls
set_option maxRecDepth 10000
namespace Mine
section
variable {prog : Program} {w : World} {A : Around} {E : Value → Shared → Prop} {s : Shared} {c : Cx} {H H0 : KH} {env : Env} {V : Str → Option Value} {ms : List (Addr × Obj)}
noncomputable abbrev lsO (ys : List Value) (ep : Nat) : Obj := { cls := .type "list", data := .seq ys.toArray ep }
inductive LcE (c : Cx) (env : Env) (V : Str → Option Value) (s₂ : Shared) (T : List (Addr × Obj)) (H₃ : KH) (I : KH → Value → List (Addr × Obj) → Prop) (y : Value) (s₄ : Shared) : Prop
  | mk (H₄ : KH) (ms₄ : List (Addr × Obj)) (h₄ : Heap) (tk₄ : Nat) (e : s₄ = (uP s₂ h₄ tk₄)) (l : H₃.le H₄) (S : St c H₄ env V (ms₄ ++ T) h₄) (i : I H₄ y ms₄)
inductive LcT (c : Cx) (env : Env) (V : Str → Option Value) (s₂ : Shared) (T : List (Addr × Obj)) (H' : KH) (K : KH → List (Addr × Obj) → Bool → Shared → Prop) (ok : Bool) (s₃ : Shared) : Prop
  | mk (H₃ : KH) (ms₃ : List (Addr × Obj)) (h₃ : Heap) (tk₃ : Nat) (e : s₃ = (uP s₂ h₃ tk₃)) (l : H'.le H₃) (S : St c H₃ env V (ms₃ ++ T) h₃) (k : K H₃ ms₃ ok s₃)
noncomputable abbrev LcK (prog : Program) (w : World) (A : Around) (c : Cx) (env : Env) (V : Str → Option Value) (elt : PySem.Expr) (cenv : Env) (s₂ : Shared) (T : List (Addr × Obj)) (I : KH → List Value → List (Addr × Obj) → Prop) (ys : List Value) (E' : Value → Shared → Prop) (H₃ : KH) (ms₃ : List (Addr × Obj)) (ok : Bool) (s₃ : Shared) : Prop :=
  if ok = true then wpAny (model prog w) A (eval elt cenv) (LcE c env V s₂ T H₃ fun H y ms => I H (ys ++ [y]) ms) E' s₃ else I H₃ ys ms₃
noncomputable def LcTurn (prog : Program) (w : World) (A : Around) (c : Cx) (H₁ : KH) (env : Env) (V : Str → Option Value) (scope : Scope) (ifs : List PySem.Expr) (elt : PySem.Expr) (n : Nat) (B : Nat → KH → List (Str × Value) → Prop) (Inv : Nat → KH → List Value → List (Addr × Obj) → Prop) (s₂ : Shared) : Prop :=
  ∀ i binds T cenv H' ys ms' h' tk' (E' : Value → Shared → Prop), i < n → B i H' binds → H₁.le H' → Inv i H' ys ms' → St c H' env V (ms' ++ T) h' → cenv.scope = relabel scope env →
    (∀ H'' ms'' h'', St c H'' env V (ms'' ++ T) h'' → Rs c.H0 H'' cenv (compVB scope env V binds) h'') →
    wpAny (model prog w) A (testsOf ifs cenv) (LcT c env V s₂ T H' (LcK prog w A c env V elt cenv s₂ T (Inv (i + 1)) ys E')) E' (uP s₂ h' tk')
theorem lc_block {elt tgt iter : PySem.Expr} {ifs : List PySem.Expr} {scope : Scope} {pos : Pos} {s₂ : Shared} {it : Value} {n : Nat} {J : Nat → KH → List (Addr × Obj) → Prop} {B : Nat → KH → List (Str × Value) → Prop} {os₁ ms₁ : List (Addr × Obj)} {H₁ : KH} {RR : Value → Addr → Result → Shared → Prop}
    (Inv : Nat → KH → List Value → List (Addr × Obj) → Prop) (kn : ∀ H' H'' i ys ms', H'.le H'' → Inv i H' ys ms' → Inv i H'' ys ms')
    (hh : A.handled = none) (Z : CompScopeB env scope (tgtNames tgt)) (W : Itr prog w A it tgt n J B) (hsz : n ≤ sizeLine) (j0 : J 0 H₁ os₁) (S₂ : St c H₁ env V (ms₁ ++ os₁) s₂.heap) (hX : ∀ p ∈ os₁, p.1 ∉ c.X) (i0 : Inv 0 H₁ [] ms₁)
    (turn : LcTurn prog w A c H₁ env V scope ifs elt n B Inv s₂)
    (hRR : ∀ D C oC m' ep ys H' ms' h' tk', H₁.le H' → Inv n H' ys ms' → St c H' env V (ms' ++ [(D, lsO ys ep), (C, oC)]) h' → NsObj' oC m' → D ∉ c.X → C ∉ c.X → RR (.ref D) C (.ok .next) (uP s₂ h' tk')) :
    wpAny (model prog w) A (newList []) (fun acc s₃ => wpAny (model prog w) A (newFunctionEnv scope env.globals (clOf env scope.names []) [] env.qual none .none (some env)) (fun cenv s₄ =>
      codeAny (model prog w) A (.compStart (.ListComp elt [⟨tgt, iter, ifs, 0⟩] scope pos) 0 it acc { cenv with scope := relabel scope env }) (RR acc cenv.locals) s₄) E s₃) E s₂ := by
  refine wpAny_newObj_type ?_
  have frD : s₂.heap.get? s₂.heap.objs.size = none := fresh_of_size (Nat.le_refl _)
  have S₃ := S₂.newAt (h' := s₂.heap.push { cls := .type "list", dict := none, data := .seq ([] : List Value).toArray }) (Up.push _ _) frD (Heap.get?_push_size _ rfl)
  have DX := S₂.notX frD
  generalize s₂.heap.objs.size = D at *
  generalize s₂.heap.push { cls := .type "list", dict := none, data := .seq ([] : List Value).toArray } = h₃ at *
  refine wpAny_newFunctionEnv Z.cell (by intro y hy; simp at hy) (fun h₁ hns₁ hsb₁ => ?_) Z.kind
  dsimp only at hns₁ hsb₁ ⊢
  have frC : h₃.get? h₃.objs.size = none := fresh_of_size (Nat.le_refl _)
  have CX := S₃.notX frC
  have up₁ : Up h₃ h₁ := fun b o e => hsb₁.extBut b o (Nat.ne_of_lt (Heap.lt_size e)) (Heap.get?_push_of_some _ e)
  obtain ⟨oC, eC, nC⟩ := nsObj_of hns₁
  have S₄ : St c H₁ env V ((ms₁ ++ [(D, lsO [] 0)]) ++ (h₃.objs.size, oC) :: os₁) h₁ := St.newAt (r := ms₁ ++ [(D, lsO [] 0)]) (by rw [List.append_assoc]; exact S₃) up₁ frC eC
  generalize h₃.objs.size = C at *
  have loop : ∀ s₃ : Shared, s₃ = { s₂ with heap := h₁, toks := s₂.toks + ([] : List (Str × Value)).length } →
      codeAny (model prog w) A (.compLoop (.ListComp elt [⟨tgt, iter, ifs, 0⟩] scope pos) 0 it (.ref D) (compEnvC scope (clOf env scope.names []) C env)) (RR (.ref D) C) s₃ := by
    rintro s₃ rfl
    refine compLoop_any (fun k s' => Ex10 fun i os H' ms' ys ep oC m' h' tk' => An10 (s' = (uP s₂ h' tk')) (k = n + 1 - i) (i ≤ n) (ys.length ≤ i) (H₁.le H') (St c H' env V ((ms' ++ [(D, lsO ys ep)]) ++ (C, oC) :: os) h') ((∀ p ∈ os, p.1 ∉ c.X)) (NsObj' oC m') (J i H' os) (Inv i H' ys ms')) ?_ (n + 1)
      ⟨0, os₁, H₁, ms₁, [], 0, oC, _, h₁, _, rfl, rfl, Nat.zero_le _, Nat.le_refl _, .refl _, S₄, hX, nC, j0, i0⟩
    intro k s' rI2 E'
    refine absG fun gG hgG => ?_
    obtain ⟨i, os, H', ms', ys, ep, oC', m', h', tk', rfl, rfl, hi, hys, le, S', hX', nC', j, hI⟩ := rI2
    refine hgG ?_; clear hgG
    have own : ∀ p ∈ os, h'.get? p.1 = some p.2 ∧ H' p.1 = none := fun p hp => let ⟨a, b, _⟩ := S'.mu p (List.mem_append_right _ (.tail _ hp)); ⟨a, b⟩
    have Sos : St c H' env V ((ms' ++ [(D, lsO ys ep), (C, oC')]) ++ os) h' := by simpa using S'
    rcases Nat.lt_or_ge i n with lt | ge
    · refine W.turn (fun v s₁ q => q) (s := uP s₂ h' tk') lt j S'.kn own fun v H2 os2 h2 tk2 binds M j2 It hB => ?_
      have S2 : St c H2 env V ((ms' ++ [(D, lsO ys ep)]) ++ (C, oC') :: os2) h2 := by simpa using Sos.moveR M
      have hX2 : ∀ p ∈ os2, p.1 ∉ c.X := fun p hp => by
        have : p.1 ∈ os.map (·.1) := by rw [← M.addr]; exact List.mem_map_of_mem hp
        obtain ⟨p', hp', e⟩ := List.mem_map.mp this
        rw [← e]; exact hX' p' hp'
      refine asgC (s := uP s₂ h2 tk2) hh S2 nC' It rfl Z.kind (fun x hx => lookup_relabel_local (Z.var x hx)) fun h3 tk3 oC3 m3 S3 n3 hm3 => ?_
      refine wpAny_mono (turn i binds ((D, lsO ys ep) :: (C, oC3) :: os2) _ H2 ys ms' h3 tk3 E' lt hB (le.trans M.le) (kn _ _ _ _ _ M.le hI) (by simpa using S3) rfl fun H'' ms'' h'' S'' => ?_) (fun ok s₃ q => ?_) fun _ _ q => q
      · have eC'' := (S''.mu (C, oC3) (List.mem_append_right _ (.tail _ (.head _)))).1
        exact rs_compB S''.toRs Z (n3.ns eC'') (fun p hp => by rw [← It.names]; exact List.mem_map_of_mem hp) hm3
      · refine absG fun gG hgG => ?_
        obtain ⟨H₃, ms₃, h₃', tk₃, rfl, le₃, S₃', q⟩ := q
        refine hgG ?_; clear hgG
        cases ok with
        | false =>
          exact ⟨_, by lia, i + 1, os2, H₃, ms₃, ys, ep, oC3, m3, h₃', tk₃, rfl, rfl, lt, Nat.le_succ_of_le hys, (le.trans M.le).trans le₃, by simpa using S₃', hX2, n3, W.mono _ _ _ _ j2 le₃, q⟩
        | true =>
          unfold LcK at q
          rw [if_pos rfl] at q ⊢
          refine wpAny_mono q (fun y s₄ q => ?_) fun _ _ q => q
          refine absG fun gG hgG => ?_
          obtain ⟨H₄, ms₄, h₄, tk₄, rfl, le₄, S₄', hI'⟩ := q
          refine hgG ?_; clear hgG
          have eD := (S₄'.mu (D, lsO ys ep) (List.mem_append_right _ (.head _))).1
          refine wpAny_list_append_plain ⟨ep, eD⟩ (fun h₅ hp₅ hs₅ => ?_) (by rw [List.size_toArray]; lia)
          obtain ⟨ep', e5⟩ := hp₅
          have S₅ := S₄'.changeAt (fun b o hb e => hs₅.extBut b o hb e) e5
          refine ⟨_, by lia, i + 1, os2, H₄, ms₄, ys ++ [y], ep', oC3, m3, h₅, tk₄, rfl, rfl, lt, by simp; lia, ((le.trans M.le).trans le₃).trans le₄, ?_, hX2, n3, W.mono _ _ _ _ j2 (le₃.trans le₄), hI'⟩
          rw [List.push_toArray] at S₅
          simpa using S₅
    · have e : i = n := Nat.le_antisymm hi ge
      subst e
      refine W.last (s := uP s₂ h' tk') j S'.kn own fun h2 tk2 keep => ?_
      exact hRR D C oC' m' ep ys H' ms' h2 tk2 le hI (Sos.losesR hX' keep) nC' DX CX
  have own₁ : ∀ p ∈ os₁, h₁.get? p.1 = some p.2 ∧ H₁ p.1 = none := fun p hp => let ⟨a, b, _⟩ := S₄.mu p (List.mem_append_right _ (.tail _ hp)); ⟨a, b⟩
  exact codeAny_compStart_list (loop _ rfl) (W.self H₁ os₁ _ _ _ j0 S₄.kn own₁ (loop _ rfl))
inductive LcIn (prog : Program) (w : World) (A : Around) (c : Cx) (env : Env) (scope : Scope) (tgt elt : PySem.Expr) (ifs : List PySem.Expr) (Inv : Nat → KH → List Value → List (Addr × Obj) → Prop) (Q : Value → Shared → Prop) (it : Value) (s₂ : Shared) : Prop
  | mk (n : Nat) (J : Nat → KH → List (Addr × Obj) → Prop) (B : Nat → KH → List (Str × Value) → Prop) (H₁ : KH) (V₁ : Str → Option Value) (ms₁ os : List (Addr × Obj)) (W : Itr prog w A it tgt n J B) (sz : n ≤ sizeLine) (j0 : J 0 H₁ os) (S : St c H₁ env V₁ (ms₁ ++ os) s₂.heap) (hX : ∀ p ∈ os, p.1 ∉ c.X) (i0 : Inv 0 H₁ [] ms₁)
    (turn : LcTurn prog w A c H₁ env V₁ scope ifs elt n B Inv s₂)
    (fin : ∀ D ep ys H' ms' h' tk', H₁.le H' → Inv n H' ys ms' → St c H' env V₁ ((D, lsO ys ep) :: ms') h' → D ∉ c.X → Q (.ref D) (uP s₂ h' tk'))
inductive LcInA (prog : Program) (w : World) (A : Around) (c : Cx) (env : Env) (scope : Scope) (tgt elt : PySem.Expr) (ifs : List PySem.Expr) (y : Str) (Inv : Nat → KH → List Value → List (Addr × Obj) → Prop) (Q : Flow → Shared → Prop) (it : Value) (s₂ : Shared) : Prop
  | mk (n : Nat) (J : Nat → KH → List (Addr × Obj) → Prop) (B : Nat → KH → List (Str × Value) → Prop) (H₁ : KH) (V₁ : Str → Option Value) (ms₁ os : List (Addr × Obj)) (W : Itr prog w A it tgt n J B) (sz : n ≤ sizeLine) (j0 : J 0 H₁ os) (S : St c H₁ env V₁ (ms₁ ++ os) s₂.heap) (hX : ∀ p ∈ os, p.1 ∉ c.X) (i0 : Inv 0 H₁ [] ms₁)
    (turn : LcTurn prog w A c H₁ env V₁ scope ifs elt n B Inv s₂)
    (fin : ∀ D ep ys H' ms' h' tk', H₁.le H' → Inv n H' ys ms' → St c H' env (setV V₁ y (.ref D)) ((D, lsO ys ep) :: ms') h' → D ∉ c.X → Q .next (uP s₂ h' tk'))
theorem lc {elt tgt iter : PySem.Expr} {ifs : List PySem.Expr} {scope : Scope} {pos : Pos} {Q : Value → Shared → Prop} (hh : A.handled = none) (S₀ : St c H env V ms s.heap) (Z : CompScopeB env scope (tgtNames tgt))
    (Inv : Nat → KH → List Value → List (Addr × Obj) → Prop) (kn : ∀ H' H'' i ys ms', H'.le H'' → Inv i H' ys ms' → Inv i H'' ys ms')
    (h : wpAny (model prog w) A (eval iter env) (fun xv s₁ => wpAny (model prog w) A (pyIter xv) (LcIn prog w A c env scope tgt elt ifs Inv Q) E s₁) E s)
    (hs : ∀ x, foldedSetIterable iter env x = pure x := by intro _; rfl) :
    wpAny (model prog w) A (eval (.ListComp elt [⟨tgt, iter, ifs, 0⟩] scope pos) env) Q E s := by
  rw [eval_ListComp]
  refine wpAny_comprehension_free (use := none) rfl hs (clos_ofB S₀.toRs Z) Z.kind Z.loc (wpAny_mono h (fun xv s₁ h₁ => wpAny_mono h₁ (fun it s₂ h₂ => ?_) fun _ _ e => e) fun _ _ e => e)
  refine absG fun gG hgG => ?_
  obtain ⟨n, J, B, H₁, V₁, ms₁, os, W, hsz, j0, S₂, hX, i0, turn, fin⟩ := h₂
  refine hgG ?_; clear hgG
  refine lc_block (RR := fun acc C => compPost (model prog w) A E none Q acc C) Inv kn hh Z W hsz j0 S₂ hX i0 turn fun D C oC m' ep ys H' ms' h' tk' le hI S' nC DX CX => ?_
  have eC := (S'.mu (C, oC) (List.mem_append_right _ (.tail _ (.head _)))).1
  refine ⟨m', nC.ns eC, fun h2 hs2 => ?_⟩
  refine fin D ep ys H' ms' h2 tk' le hI ?_ DX
  have S3 : St c H' env V₁ ((ms' ++ [(D, lsO ys ep)]) ++ [(C, oC)]) h' := by simpa using S'
  have S4 := S3.losesR (h' := h2) (by simpa using CX) fun b o hb e => hs2.extBut b o (by simpa using hb) e
  exact S4.perm List.perm_append_comm
theorem lc_assign {elt tgt iter : PySem.Expr} {y : Str} {py : Pos} {ifs : List PySem.Expr} {scope : Scope} {pos spos : Pos} {Q : Flow → Shared → Prop} (hh : A.handled = none) (S₀ : St c H env V ms s.heap) (Z : CompScopeB env scope (tgtNames tgt))
    (hsw : swapsWith (.ListComp elt [⟨tgt, iter, ifs, 0⟩] scope pos) (some (.Name y py)) spos.line env = pure true) (hy : env.kindOf y = some .local ∨ env.kindOf y = some .cell)
    (Inv : Nat → KH → List Value → List (Addr × Obj) → Prop) (kn : ∀ H' H'' i ys ms', H'.le H'' → Inv i H' ys ms' → Inv i H'' ys ms')
    (h : wpAny (model prog w) A (eval iter env) (fun xv s₁ => wpAny (model prog w) A (pyIter xv) (LcInA prog w A c env scope tgt elt ifs y Inv Q) E s₁) E s)
    (hs : ∀ x, foldedSetIterable iter env x = pure x := by intro _; rfl) :
    wpAny (model prog w) A (exec (.Assign [.Name y py] (.ListComp elt [⟨tgt, iter, ifs, 0⟩] scope pos) spos) env) Q E s := by
  rw [exec_Assign_Name_used _ _ _ _ hsw]
  refine wpAny_bind (wpAny_standAt (wpAny_bind ?_))
  show wpAny _ A (do let _ ← comprehension (.ListComp elt [⟨tgt, iter, ifs, 0⟩] scope pos) scope env _ (newList []) false (eval iter env) (some (assign (.Name y py) env))) _ _ s
  refine wpAny_bind (wpAny_mono (wpAny_comprehension_free (use := some (assign (.Name y py) env)) (Q := fun _ s' => Q .next s') rfl hs (clos_ofB S₀.toRs Z) Z.kind Z.loc
    (wpAny_mono h (fun xv s₁ h₁ => wpAny_mono h₁ (fun it s₂ h₂ => ?_) fun _ _ e => e) fun _ _ e => e)) (fun _ s' hq => wpAny_pure (wpAny_pure hq)) fun _ _ e => e)
  refine absG fun gG hgG => ?_
  obtain ⟨n, J, B, H₁, V₁, ms₁, os, W, hsz, j0, S₂, hX, i0, turn, fin⟩ := h₂
  refine hgG ?_; clear hgG
  refine lc_block (RR := fun acc C => compPost (model prog w) A E (some (assign (.Name y py) env)) (fun _ s' => Q .next s') acc C) Inv kn hh Z W hsz j0 S₂ hX i0 turn fun D C oC m' ep ys H' ms' h' tk' le hI S' nC DX CX => ?_
  show wpAny _ A (assign (.Name y py) env (.ref D)) _ _ _
  refine wpAny_assign_Name (St.store S' hy fun h₃ tk₃ S₃ => ?_)
  have eC := (S₃.mu (C, oC) (List.mem_append_right _ (.tail _ (.head _)))).1
  refine ⟨m', nC.ns eC, fun h2 hs2 => ?_⟩
  refine fin D ep ys H' ms' h2 _ le hI ?_ DX
  have S3 : St c H' env (setV V₁ y (.ref D)) ((ms' ++ [(D, lsO ys ep)]) ++ [(C, oC)]) h₃ := by simpa using S₃
  have S4 := S3.losesR (h' := h2) (by simpa using CX) fun b o hb e => hs2.extBut b o (by simpa using hb) e
  exact S4.perm List.perm_append_comm
end
end Mine
end
section
open PySem PySem.W PyProof.Rows PySem.Calls
set_option maxRecDepth 10000
namespace Mine
theorem rng_small : ∀ n : Nat, n ≤ 10 → Builtin.Range.rangeSize 0 n 1 = n ∧ Builtin.Range.small 0 n 1 = true := by
  have : ∀ n : Fin 11, Builtin.Range.rangeSize 0 (n.val : Nat) 1 = (n.val : Nat) ∧ Builtin.Range.small 0 (n.val : Nat) 1 = true := by decide +kernel
  intro n hn
  exact this ⟨n, by lia⟩
section
variable {prog : Program} {w : World} {A : Around} {E : Value → Shared → Prop} {s : Shared} {c : Cx} {H H0 : KH} {env : Env} {V : Str → Option Value} {ms : List (Addr × Obj)}
noncomputable def Fresh (prog : Program) (w : World) (A : Around) (c : Cx) (H : KH) (env : Env) (V : Str → Option Value) (ms : List (Addr × Obj)) (tgt : PySem.Expr) (n : Nat) (B : Nat → KH → List (Str × Value) → Prop) (it : Value) (h' : Heap) : Prop :=
  ∃ J os, Itr prog w A it tgt n J B ∧ J 0 H os ∧ St c H env V (ms ++ os) h' ∧ ∀ p ∈ os, p.1 ∉ c.X
theorem it_list {a : Addr} {vs : List Value} {Q : Value → Shared → Prop} (hh : A.handled = none) (S : St c H env V ms s.heap) (l : ListH H a vs)
    (h : ∀ it h', (∀ (x : Str) (p : Pos), Fresh prog w A c H env V ms (.Name x p) vs.length (fun i _ binds => ∃ v, binds = [(x, v)] ∧ vs[i]? = some v) it h') → Q it (uH s h')) : wpAny (model prog w) A (pyIter (.ref a)) Q E s := by
  refine wpAny_pyIter_list (l.at S.kn) (h _ _ fun x p => ?_)
  have hlt : a < s.heap.objs.size := by obtain ⟨_, e, _⟩ := l.at S.kn; exact Heap.lt_size e
  have fr : s.heap.get? s.heap.objs.size = none := fresh_of_size (Nat.le_refl _)
  have W := Walks.list (prog := prog) (w := w) hh s.heap.objs.size a (Nat.ne_of_lt hlt) vs.toArray
  have e0 := Heap.get?_push_size s.heap (o := { cls := .type "list_iterator", data := .fields #[.ref a, .int 0 0] }) rfl
  have S₂ := St.newAt (r := ms) (os := []) (by rw [List.append_nil]; exact S) (Up.push s.heap _) fr e0
  have I := Itr.ofWalks x p W fun i h st b hb => by rw [List.mem_singleton.mp hb]; obtain ⟨o, e, _⟩ := st.1; exact ⟨o, e⟩
  have own : ∀ p ∈ [(s.heap.objs.size, ({ cls := .type "list_iterator", data := .fields #[.ref a, .int 0 0] } : Obj))], (s.heap.push { cls := .type "list_iterator", data := .fields #[.ref a, .int 0 0] }).get? p.1 = some p.2 := fun p hp => by rw [List.mem_singleton.mp hp]; exact e0
  rw [List.size_toArray] at I
  refine ⟨_, _, ⟨fun i H' os s₁ E₁ Q₁ hi j k g hQ => I.step i H' os s₁ E₁ Q₁ hi j k g fun v H2 os' h' tk' binds M j' It ⟨u, e, hv⟩ => hQ v H2 os' h' tk' binds M j' It ⟨u, e, by simpa using hv⟩, I.done, I.self, I.mono⟩, .make W.frame rfl (fun b hb => ?_) ⟨⟨_, e0, rfl, rfl⟩, (l.at S.kn).push _⟩ S₂.kn own, S₂, fun p hp => by rw [List.mem_singleton.mp hp]; exact S.notX fr⟩
  · rcases List.mem_cons.mp hb with rfl | hb
    · exact .inl (.head _)
    · rw [List.mem_singleton.mp hb]; obtain ⟨ep, e⟩ := l; exact .inr (by rw [e]; exact nofun)
theorem it_pairs {a : Addr} {vs : List Value} {P : Nat → Value → Value → Prop} {Q : Value → Shared → Prop} (hh : A.handled = none) (S : St c H env V ms s.heap) (l : ListH H a vs) (hP : ∀ i v, vs[i]? = some v → Ex3 fun t u z => v = .ref t ∧ TupW H t [u, z] ∧ P i u z)
    (h : ∀ it h', (∀ (x y : Str) (p q r : Pos) (m : Nat), Fresh prog w A c H env V ms (.Tuple [.Name x p, .Name y q] m r) vs.length (fun i _ binds => ∃ u z, binds = [(x, u), (y, z)] ∧ P i u z) it h') → Q it (uH s h')) : wpAny (model prog w) A (pyIter (.ref a)) Q E s := by
  refine wpAny_pyIter_list (l.at S.kn) (h _ _ fun x y p q r m => ?_)
  have fr : s.heap.get? s.heap.objs.size = none := fresh_of_size (Nat.le_refl _)
  have e0 := Heap.get?_push_size s.heap (o := { cls := .type "list_iterator", data := .fields #[.ref a, .int 0 0] }) rfl
  have S₂ := St.newAt (r := ms) (os := []) (by rw [List.append_nil]; exact S) (Up.push s.heap _) fr e0
  have nX := S.notX fr
  generalize s.heap.objs.size = I at *
  refine ⟨fun i H' os => ∃ o, os = [(I, o)] ∧ o.cls = .type "list_iterator" ∧ o.data = .fields #[.ref a, .int i 0] ∧ H.le H', _, ⟨?_, ?_, ?_, ?_⟩, ⟨_, rfl, rfl, rfl, .refl _⟩, S₂, fun p hp => by rw [List.mem_singleton.mp hp]; exact nX⟩
  · intro i H' os s₁ E₁ Q₁ hi rI7 kn g hQ
    refine absG fun gG hgG => ?_
    obtain ⟨o, rfl, hc, hd, lH⟩ := rI7
    refine hgG ?_; clear hgG
    obtain ⟨g1, g2⟩ := g _ (.head _)
    have hIt : s₁.heap.IsListIter I a i := ⟨o, g1, hc, hd⟩
    refine absG fun gG hgG => ?_
    obtain ⟨t, u, z, ev, ht, hp⟩ := hP i vs[i] (by simp [hi])
    refine hgG ?_; clear hgG
    refine wpAny_pyNext_list_item hIt ((l.le lH).at kn) (x := vs[i]) (by simp [hi]) fun h₂ it₂ sb => ⟨_, rfl, ?_⟩
    have it₂' := it₂
    refine absG fun gG hgG => ?_
    obtain ⟨o', e', hc', hd'⟩ := it₂
    refine hgG ?_; clear hgG
    rw [ev]
    refine wpAny_letOwnedTupleGo_listiter (s := uH s₁ h₂) it₂' ?_
    have kn2 : InH H' h₂ := fun b o e => sb.extBut b o (fun q => by subst q; rw [g2] at e; cases e) (kn b o e)
    exact hQ (.ref t) H' [(I, o')] h₂ _ _ ⟨.refl _, kn2, fun b o hb e => sb.extBut b o (by simpa using hb) e, fun a e => .inl e, fun p hp => by rw [List.mem_singleton.mp hp]; exact e', rfl⟩ ⟨o', rfl, hc', by simpa using hd', lH⟩ (.pair _ _ _ _ _ _ t u z (ht.le lH)) ⟨u, z, rfl, hp⟩
  · intro H' os s₁ E₁ Q₁ rI5 kn g hQ
    refine absG fun gG hgG => ?_
    obtain ⟨o, rfl, hc, hd, lH⟩ := rI5
    refine hgG ?_; clear hgG
    obtain ⟨g1, g2⟩ := g _ (.head _)
    exact wpAny_pyNext_list_end hh ⟨o, g1, hc, hd⟩ ((l.le lH).at kn) (by simp) fun h₂ eb => ⟨rfl, hQ h₂ _ fun b o hb e => eb b o (by simpa using hb) e⟩
  · intro H' os s₁ E₁ Q₁ rI5 kn g hQ
    refine absG fun gG hgG => ?_
    obtain ⟨o, rfl, hc, hd, lH⟩ := rI5
    refine hgG ?_; clear hgG
    exact wpAny_pyIter_listiter ⟨o, (g _ (.head _)).1, hc, hd⟩ hQ
  · intro i H' H'' os rI4 l'
    refine absG fun gG hgG => ?_
    obtain ⟨o, rfl, hc, hd, lH⟩ := rI4
    refine hgG ?_; clear hgG
    exact ⟨o, rfl, hc, hd, lH.trans l'⟩
noncomputable def RngAt (h : Heap) (v : Value) (n : Nat) : Prop := Ex4 fun r t u z => v = .ref r ∧ IsRange h r 0 n 1 t u z
theorem call_rng {n : Nat} {t : Tok} {Q : Value → Shared → Prop} (h : ∀ v h' tk', Up s.heap h' → RngAt h' v n → Q v (uP s h' tk')) : wpAny (model prog w) A (call (.type "range") [.int n t]) Q E s :=
  call_range_1 (h _ _ _ (Up.push _ _) ⟨_, _, _, _, rfl, Heap.get?_push_size _ rfl⟩)
theorem it_rng {n : Nat} {v : Value} {Q : Value → Shared → Prop} (hh : A.handled = none) (hn : n ≤ 10) (S : St c H env V ms s.heap) (r : RngAt s.heap v n)
    (h : ∀ it h', (∀ (x : Str) (p : Pos), Fresh prog w A c H env V ms (.Name x p) n (fun i _ binds => ∃ t, binds = [(x, .int i t)]) it h') → Q it (uH s h')) : wpAny (model prog w) A (pyIter v) Q E s := by
  refine absG fun gG hgG => ?_
  obtain ⟨a, t, u, z, rfl, hr⟩ := r
  refine hgG ?_; clear hgG
  obtain ⟨e1, e2⟩ := rng_small n hn
  refine wpAny_pyIter_range hr e2 (h _ _ fun x p => ?_)
  rw [e1]
  have fr : s.heap.get? s.heap.objs.size = none := fresh_of_size (Nat.le_refl _)
  have W := Walks.range (prog := prog) (w := w) hh s.heap.objs.size 0 1 n
  have e0 := Heap.get?_push_size s.heap (o := { cls := .type "range_iterator", data := .fields #[rawInt 0, rawInt n, rawInt 1] }) rfl
  have S₂ := St.newAt (r := ms) (os := []) (by rw [List.append_nil]; exact S) (Up.push s.heap _) fr e0
  have I := Itr.ofWalks x p W fun i h st b hb => by rw [List.mem_singleton.mp hb]; exact ⟨_, st⟩
  have own : ∀ p ∈ [(s.heap.objs.size, ({ cls := .type "range_iterator", data := .fields #[rawInt 0, rawInt n, rawInt 1] } : Obj))], (s.heap.push { cls := .type "range_iterator", data := .fields #[rawInt 0, rawInt n, rawInt 1] }).get? p.1 = some p.2 := fun p hp => by rw [List.mem_singleton.mp hp]; exact e0
  refine ⟨_, _, ⟨fun i H' os s₁ E₁ Q₁ hi j k g hQ => I.step i H' os s₁ E₁ Q₁ hi j k g fun v H2 os' h' tk' binds M j' It ⟨u, e, hv⟩ => ?_, I.done, I.self, I.mono⟩, .make W.frame rfl (fun b hb => .inl hb) (by show IsRangeIter _ _ _ _ _; simpa using e0) S₂.kn own, S₂, fun p hp => by rw [List.mem_singleton.mp hp]; exact S.notX fr⟩
  obtain ⟨t', rfl⟩ := hv
  refine hQ v H2 os' h' tk' binds M j' It ⟨t', ?_⟩
  rw [e]; simp
theorem zip_new {l1 l2 : Addr} {us zs : List Value} {Q : Value → Shared → Prop} (hh : A.handled = none) (S : St c H env V ms s.heap) (h1 : ListH H l1 us) (h2 : ListH H l2 zs)
    (h : ∀ v H' h', H.le H' → (∀ (x y : Str) (p q r : Pos) (m : Nat), Fresh prog w A c H' env V ms (.Tuple [.Name x p, .Name y q] m r) (min us.length zs.length) (fun i _ binds => ∃ u z, binds = [(x, u), (y, z)] ∧ us[i]? = some u ∧ zs[i]? = some z) v h') → Q v (uH s h')) :
    wpAny (model prog w) A (call (.type "zip") [.ref l1, .ref l2]) Q E s := by
  have a1 : l1 < s.heap.objs.size := by obtain ⟨_, e, _⟩ := h1.at S.kn; exact Heap.lt_size e
  have a2 : l2 < s.heap.objs.size := by obtain ⟨_, e, _⟩ := h2.at S.kn; exact Heap.lt_size e
  refine call_zip_2 (h1.at S.kn) (h2.at S.kn) fun h' hz hTI hTO hi1 hi2 _ hk => ?_
  have D := zipApart_new a1 a2
  have f0 : s.heap.get? s.heap.objs.size = none := fresh_of_size (Nat.le_refl _)
  have f1 : s.heap.get? (s.heap.objs.size + 1) = none := fresh_of_size (Nat.le_add_right _ _)
  have f2 : s.heap.get? (s.heap.objs.size + 2) = none := fresh_of_size (Nat.le_add_right _ _)
  have f3 : s.heap.get? (s.heap.objs.size + 3) = none := fresh_of_size (Nat.le_add_right _ _)
  have f4 : s.heap.get? (s.heap.objs.size + 4) = none := fresh_of_size (Nat.le_add_right _ _)
  obtain ⟨oz, ez⟩ : ∃ o, h'.get? (s.heap.objs.size + 4) = some o := ⟨_, hz⟩
  obtain ⟨oT, eT⟩ : ∃ o, h'.get? (s.heap.objs.size + 3) = some o := ⟨_, hTO⟩
  obtain ⟨o0, e0, r0⟩ := id hi1
  obtain ⟨o1, e1, r1⟩ := id hi2
  have W := WalksT.zip2 (prog := prog) (w := w) hh _ _ _ _ _ l1 l2 D us.toArray zs.toArray
  generalize s.heap.objs.size + 4 = z at *
  generalize s.heap.objs.size + 3 = TO at *
  generalize s.heap.objs.size + 2 = TI at *
  generalize s.heap.objs.size + 1 = i2 at *
  generalize s.heap.objs.size = i1 at *
  have up : Up s.heap h' := fun b o e => hk b o e
  have S1 := S.new up f2 hTI
  have S2 := S1.freeze (S.notX f2)
  have lH := addH_le (o := ({ cls := .type "tuple", data := .seq #[.ref i1, .ref i2] } : Obj)) (S1.mu _ (.head _)).2.1
  have off : ∀ {b : Addr}, b ≠ TI → s.heap.get? b = none → (addH H TI ({ cls := .type "tuple", data := .seq #[.ref i1, .ref i2] } : Obj)) b = none := fun n f => by rw [addH_ne n]; exact S.kn.off f
  have hI : InH (addH H TI ({ cls := .type "tuple", data := .seq #[.ref i1, .ref i2] } : Obj)) h' := S2.kn
  have base : St c (addH H TI ({ cls := .type "tuple", data := .seq #[.ref i1, .ref i2] } : Obj)) env V ms h' := S2
  have mkS : St c (addH H TI ({ cls := .type "tuple", data := .seq #[.ref i1, .ref i2] } : Obj)) env V ((z, oz) :: (TO, oT) :: (i1, o0) :: (i2, o1) :: ms) h' := by
    have T1 := S.new up f1 e1
    have add : ∀ {a : Addr} {o : Obj} {l : List (Addr × Obj)}, St c (addH H TI ({ cls := .type "tuple", data := .seq #[.ref i1, .ref i2] } : Obj)) env V l h' → s.heap.get? a = none → h'.get? a = some o → a ≠ TI → (∀ p ∈ l, p.1 ≠ a) → St c (addH H TI ({ cls := .type "tuple", data := .seq #[.ref i1, .ref i2] } : Obj)) env V ((a, o) :: l) h' := by
      intro a o l T f e n nl
      have Sa := S.new up f e
      obtain ⟨k1, k2, k3, k4, k5⟩ := Sa.mu _ (.head _)
      exact { toRs := T.toRs, le := T.le, upI := T.upI, frI := T.frI, xs := fun b hb => let ⟨o', m⟩ := T.xs b hb; ⟨o', .tail _ m⟩, offL := T.offL, offC := T.offC, apart := T.apart
              mu := fun p hp => by
                rcases List.mem_cons.mp hp with rfl | hp
                · exact ⟨e, off n f, k3, k4, k5⟩
                · exact T.mu p hp
              nd := by
                rw [List.map_cons, List.nodup_cons]
                refine ⟨fun m => ?_, T.nd⟩
                obtain ⟨p, hp, q⟩ := List.mem_map.mp m
                exact nl p hp q }
    have msn : ∀ {a : Addr}, s.heap.get? a = none → ∀ p ∈ ms, p.1 ≠ a := fun f p hp q => by
      have := (S.mu p hp).1
      rw [q, f] at this; cases this
    have A1 := add base f1 e1 D.TIi2.symm (msn f1)
    have A2 := add A1 f0 e0 D.TIi1.symm (fun p hp => by
      rcases List.mem_cons.mp hp with rfl | hp
      · exact D.i12.symm
      · exact msn f0 p hp)
    have A3 := add A2 f3 eT D.TITO.symm (fun p hp => by
      rcases List.mem_cons.mp hp with rfl | hp
      · exact D.TOi1.symm
      · rcases List.mem_cons.mp hp with rfl | hp
        · exact D.TOi2.symm
        · exact msn f3 p hp)
    exact add A3 f4 ez D.TIz.symm (fun p hp => by
      rcases List.mem_cons.mp hp with rfl | hp
      · exact D.TOz
      · rcases List.mem_cons.mp hp with rfl | hp
        · exact D.i1z
        · rcases List.mem_cons.mp hp with rfl | hp
          · exact D.i2z
          · exact msn f4 p hp)
  have fin : St c (addH H TI ({ cls := .type "tuple", data := .seq #[.ref i1, .ref i2] } : Obj)) env V (ms ++ [(z, oz), (TO, oT), (i1, o0), (i2, o1)]) h' := mkS.perm (List.perm_append_comm (l₁ := [(z, oz), (TO, oT), (i1, o0), (i2, o1)]))
  refine h (.ref z) _ h' lH fun x y p q r m => ?_
  have I := Itr.ofWalksT x y p q r m W (fun i h st b hb => by
      refine absG fun gG hgG => ?_
      obtain ⟨q1, _, ⟨a, b', q2⟩, ⟨o3, q3, _⟩, ⟨o4, q4, _⟩, _⟩ := st
      refine hgG ?_; clear hgG
      simp at hb
      rcases hb with rfl | rfl | rfl | rfl
      · exact ⟨_, q1⟩
      · exact ⟨_, q2⟩
      · exact ⟨_, q3⟩
      · exact ⟨_, q4⟩) fun i vs ⟨a, b, _, _, e⟩ => ⟨a, b, e⟩
  rw [List.size_toArray, List.size_toArray] at I
  refine ⟨_, _, ⟨fun i H' os s₁ E₁ Q₁ hi j k g hQ => I.step i H' os s₁ E₁ Q₁ hi j k g fun v H2 os' h' tk' binds M j' It ⟨u, u', e, a, b, ha, hb, e'⟩ => ?_, I.done, I.self, I.mono⟩, .make W.frame rfl (fun b hb => ?_) ⟨hz, hTI, ⟨_, _, hTO⟩, hi1, hi2, Heap.IsList.at (h1.at S.kn) (fun o e => hk _ o e), Heap.IsList.at (h2.at S.kn) (fun o e => hk _ o e)⟩ hI (fun p hp => (fin.mu p (List.mem_append_right _ hp)).1), fin, fun p hp => ?_⟩
  · simp at e'
    obtain ⟨rfl, rfl⟩ := e'
    exact hQ v H2 os' h' tk' binds M j' It ⟨u, u', e, by simpa using ha, by simpa using hb⟩
  · simp at hb
    rcases hb with rfl | rfl | rfl | rfl | rfl | rfl | rfl
    · exact .inl (by simp)
    · exact .inr (by rw [addH_self]; exact nofun)
    · exact .inl (by simp)
    · exact .inl (by simp)
    · exact .inl (by simp)
    · obtain ⟨ep, e⟩ := h1; exact .inr (by rw [lH _ _ e]; exact nofun)
    · obtain ⟨ep, e⟩ := h2; exact .inr (by rw [lH _ _ e]; exact nofun)
  · simp at hp
    rcases hp with rfl | rfl | rfl | rfl
    · exact S.notX f4
    · exact S.notX f3
    · exact S.notX f0
    · exact S.notX f1
end
end Mine
end
section
open PySem PySem.W PyProof.Rows PySem.Calls
set_option maxRecDepth 10000
namespace Mine
section
variable {prog : Program} {w : World} {A : Around} {E : Value → Shared → Prop} {s : Shared} {K : Frag} {c : Cx} {H H0 : KH} {env : Env} {V : Str → Option Value} {ms : List (Addr × Obj)}
theorem compLoopD_none {kx vx tgt iter : PySem.Expr} {ifs : List PySem.Expr} {scope : Scope} {pos : Pos} {it : Value} {D : Addr} {cenv : Env} {R : Result → Shared → Prop} (I : Nat → Shared → Prop)
    (turn : ∀ n s, I n s → ∀ E' : Value → Shared → Prop, wpAny (model prog w) A (pyNext it) (fun r s₁ => match r with
      | none => R (.ok .next) s₁
      | some v => wpAny (model prog w) A (letOwnedTupleGo tgt it v) (fun _ s₁' => wpAny (model prog w) A (assign tgt cenv v) (fun _ s₂ =>
          wpAny (model prog w) A (testsOf ifs cenv) (fun ok s₃ => ok = false ∧ ∃ m, m < n ∧ I m s₃) E' s₂) E' s₁') E' s₁) E' s)
    (n : Nat) (h : I n s) :
    codeAny (model prog w) A (.compLoop (.DictComp kx vx [⟨tgt, iter, ifs, 0⟩] scope pos) 0 it (.ref D) cenv) R s := by
  refine codeAny_loop rfl I (fun n s hI => ?_) n h
  show wpAny _ A ((compTurn (.DictComp kx vx [⟨tgt, iter, ifs, 0⟩] scope pos) 0 it (.ref D) cenv).onRaise (fun x => do noteFrame x cenv; theTreesLotGoes x)) _ _ s
  refine wpAny_noted ?_
  rw [compTurn_dict]
  refine wpAny_bind (wpAny_standAt (wpAny_bind (wpAny_mono (turn n s hI _) (fun r s₁ h₁ => ?_) fun _ _ h' => h')))
  cases r with
  | none => exact wpAny_pure h₁
  | some v =>
    refine wpAny_bind (wpAny_mono h₁ (fun _ s₁' h₁' => ?_) fun _ _ h' => h')
    refine wpAny_bind (wpAny_mono h₁' (fun _ s₂ h₂ => wpAny_bind (wpAny_mono h₂ (fun ok s₃ h₃ => ?_) fun _ _ h' => h')) fun _ _ h' => h')
    obtain ⟨rfl, h₃⟩ := h₃
    exact wpAny_pure ⟨rfl, h₃⟩
inductive UpTo (s₃ s₄ : Shared) : Prop
  | mk (h' : Heap) (tk' : Nat) (e : s₄ = (uP s₃ h' tk')) (u : Up s₃.heap h')
inductive DcG (prog : Program) (w : World) (A : Around) (c : Cx) (env : Env) (scope : Scope) (tgt : PySem.Expr) (ifs : List PySem.Expr) (K : (Str → Option Value) → List (Addr × Obj) → KH → Shared → Prop) (it : Value) (s₂ : Shared) : Prop
  | mk (n : Nat) (B : Nat → KH → List (Str × Value) → Prop) (H₁ : KH) (V₁ : Str → Option Value) (ms₁ : List (Addr × Obj)) (F : Fresh prog w A c H₁ env V₁ ms₁ tgt n B it s₂.heap)
      (turn : ∀ i binds cenv H' s₃ (E' : Value → Shared → Prop), i < n → B i H' binds → H₁.le H' → Rs c.H0 H' cenv (compVB scope env V₁ binds) s₃.heap → cenv.scope = relabel scope env →
        wpAny (model prog w) A (testsOf ifs cenv) (fun ok s₄ => ok = false ∧ UpTo s₃ s₄) E' s₃)
      (fin : K V₁ ms₁ H₁ s₂)
theorem dc0_gen {kx vx tgt iter : PySem.Expr} {ifs : List PySem.Expr} {scope : Scope} {pos pos' : Pos} {Q : Value → Shared → Prop} {use : Option (Value → Sem Unit)} {first : Sem Value} (hh : A.handled = none) (Bs : Base K c.H0) (S₀ : St c H env V ms s.heap) (Z : CompScopeB env scope (tgtNames tgt))
    (h : wpAny (model prog w) A first (fun xv s₁ => wpAny (model prog w) A (pyIter xv) (DcG prog w A c env scope tgt ifs fun V₁ ms₁ H₁ s₂ => ∀ D o C oC m' H' h' tk', H₁.le H' → St c H' env V₁ ((ms₁ ++ [(D, o)]) ++ [(C, oC)]) h' → NsObj' oC m' → OwnD prog w o [] → D ≠ sysModules → D ∉ c.X → C ∉ c.X → compPost (model prog w) A E use Q (.ref D) C (.ok .next) (uP s₂ h' tk')) E s₁) E s)
    (hs : ∀ x, foldedSetIterable iter env x = pure x) :
    wpAny (model prog w) A (comprehension (.DictComp kx vx [⟨tgt, iter, ifs, 0⟩] scope pos) scope env pos' newDict false first use) Q E s := by
  refine wpAny_comprehension_free (use := use) rfl hs (clos_ofB S₀.toRs Z) Z.kind Z.loc (wpAny_mono h (fun xv s₁ h₁ => wpAny_mono h₁ (fun it s₂ h₂ => ?_) fun _ _ e => e) fun _ _ e => e)
  refine absG fun gG hgG => ?_
  obtain ⟨n, B, H₁, V₁, ms₁, ⟨J, os₁, W, j0, S₂, hX⟩, turn, fin⟩ := h₂
  refine hgG ?_; clear hgG
  refine wpAny_newObj_type ?_
  have frD : s₂.heap.get? s₂.heap.objs.size = none := fresh_of_size (Nat.le_refl _)
  obtain ⟨oD, eD, rD⟩ := Heap.dictOf_iff.mp (Heap.DictOf.new (knd := strKind prog w) s₂.heap)
  have S₃ := S₂.newAt (Up.push _ _) frD eD
  have DX := S₂.notX frD
  have Dm := S₂.toRs.noMod Bs frD
  generalize s₂.heap.objs.size = D at *
  generalize s₂.heap.push { cls := .type "dict", data := .dict #[] } = h₃ at *
  refine wpAny_newFunctionEnv Z.cell (by intro y hy; simp at hy) (fun h₁ hns₁ hsb₁ => ?_) Z.kind
  dsimp only at hns₁ hsb₁ ⊢
  have frC : h₃.get? h₃.objs.size = none := fresh_of_size (Nat.le_refl _)
  have CX := S₃.notX frC
  have up₁ : Up h₃ h₁ := fun b o e => hsb₁.extBut b o (Nat.ne_of_lt (Heap.lt_size e)) (Heap.get?_push_of_some _ e)
  obtain ⟨oC, eC, nC⟩ := nsObj_of hns₁
  have S₄ : St c H₁ env V₁ ((ms₁ ++ [(D, oD)]) ++ (h₃.objs.size, oC) :: os₁) h₁ := St.newAt (r := ms₁ ++ [(D, oD)]) (by rw [List.append_assoc]; exact S₃) up₁ frC eC
  generalize h₃.objs.size = C at *
  have loop : ∀ s₃ : Shared, s₃ = { s₂ with heap := h₁, toks := s₂.toks + ([] : List (Str × Value)).length } →
      codeAny (model prog w) A (.compLoop (.DictComp kx vx [⟨tgt, iter, ifs, 0⟩] scope pos) 0 it (.ref D) (compEnvC scope (clOf env scope.names []) C env)) (compPost (model prog w) A E use Q (.ref D) C) s₃ := by
    rintro s₃ rfl
    refine compLoopD_none (fun k s' => Ex7 fun i os H' oC m' h' tk' => An8 (s' = (uP s₂ h' tk')) (k = n + 1 - i) (i ≤ n) (H₁.le H') (St c H' env V₁ ((ms₁ ++ [(D, oD)]) ++ (C, oC) :: os) h') ((∀ p ∈ os, p.1 ∉ c.X)) (NsObj' oC m') (J i H' os)) ?_ (n + 1)
      ⟨0, os₁, H₁, oC, _, h₁, _, rfl, rfl, Nat.zero_le _, .refl _, S₄, hX, nC, j0⟩
    intro k s' rI2 E'
    refine absG fun gG hgG => ?_
    obtain ⟨i, os, H', oC', m', h', tk', rfl, rfl, hi, le, S', hX', nC', j⟩ := rI2
    refine hgG ?_; clear hgG
    have own : ∀ p ∈ os, h'.get? p.1 = some p.2 ∧ H' p.1 = none := fun p hp => let ⟨a, b, _⟩ := S'.mu p (List.mem_append_right _ (.tail _ hp)); ⟨a, b⟩
    have Sos : St c H' env V₁ ((ms₁ ++ [(D, oD), (C, oC')]) ++ os) h' := by simpa using S'
    rcases Nat.lt_or_ge i n with lt | ge
    · refine W.turn (fun v s₁ q => q) (s := uP s₂ h' tk') lt j S'.kn own fun v H2 os2 h2 tk2 binds M j2 It hB => ?_
      have S2 : St c H2 env V₁ ((ms₁ ++ [(D, oD)]) ++ (C, oC') :: os2) h2 := by simpa using Sos.moveR M
      have hX2 : ∀ p ∈ os2, p.1 ∉ c.X := fun p hp => by
        have : p.1 ∈ os.map (·.1) := by rw [← M.addr]; exact List.mem_map_of_mem hp
        obtain ⟨p', hp', e⟩ := List.mem_map.mp this
        rw [← e]; exact hX' p' hp'
      refine asgC (s := uP s₂ h2 tk2) hh S2 nC' It rfl Z.kind (fun x hx => lookup_relabel_local (Z.var x hx)) fun h3 tk3 oC3 m3 S3 n3 hm3 => ?_
      have eC'' := (S3.mu (C, oC3) (List.mem_append_right _ (.head _))).1
      refine wpAny_mono (turn i binds (compEnvC scope (clOf env scope.names []) C env) H2 (uP s₂ h3 tk3) E' lt hB (le.trans M.le) (rs_compB S3.toRs Z (n3.ns eC'') (fun p hp => by rw [← It.names]; exact List.mem_map_of_mem hp) hm3) rfl) (fun ok s₃ q => ?_) fun _ _ q => q
      refine absG fun gG hgG => ?_
      obtain ⟨q1, h4, tk4, rfl, up4⟩ := q
      refine hgG ?_; clear hgG
      exact ⟨q1, _, by lia, i + 1, os2, H2, oC3, m3, h4, tk4, rfl, rfl, lt, le.trans M.le, S3.up up4, hX2, n3, j2⟩
    · have e : i = n := Nat.le_antisymm hi ge
      subst e
      refine W.last (s := uP s₂ h' tk') j S'.kn own fun h2 tk2 keep => ?_
      have S5 := Sos.losesR hX' keep
      have S6 : St c H' env V₁ ((ms₁ ++ [(D, oD)]) ++ [(C, oC')]) h2 := by simpa using S5
      exact fin D oD C oC' m' H' h2 tk2 le S6 nC' rD Dm DX CX
  have own₁ : ∀ p ∈ os₁, h₁.get? p.1 = some p.2 ∧ H₁ p.1 = none := fun p hp => let ⟨a, b, _⟩ := S₄.mu p (List.mem_append_right _ (.tail _ hp)); ⟨a, b⟩
  exact codeAny_compStart_dict (loop _ rfl) (W.self H₁ os₁ _ _ _ j0 S₄.kn own₁ (loop _ rfl))
theorem dc0 {kx vx tgt iter : PySem.Expr} {ifs : List PySem.Expr} {scope : Scope} {pos : Pos} {Q : Value → Shared → Prop} (hh : A.handled = none) (Bs : Base K c.H0) (S₀ : St c H env V ms s.heap) (Z : CompScopeB env scope (tgtNames tgt))
    (h : wpAny (model prog w) A (eval iter env) (fun xv s₁ => wpAny (model prog w) A (pyIter xv) (DcG prog w A c env scope tgt ifs fun V₁ ms₁ H₁ s₂ => ∀ D o H' h' tk', H₁.le H' → St c H' env V₁ ((D, o) :: ms₁) h' → OwnD prog w o [] → D ≠ sysModules → D ∉ c.X → Q (.ref D) (uP s₂ h' tk')) E s₁) E s)
    (hs : ∀ x, foldedSetIterable iter env x = pure x := by intro _; rfl) :
    wpAny (model prog w) A (eval (.DictComp kx vx [⟨tgt, iter, ifs, 0⟩] scope pos) env) Q E s := by
  rw [arm_eval_DictComp]
  refine dc0_gen (use := none) hh Bs S₀ Z (wpAny_mono h (fun xv s₁ h₁ => wpAny_mono h₁ (fun it s₂ h₂ => ?_) fun _ _ e => e) fun _ _ e => e) hs
  refine absG fun gG hgG => ?_
  obtain ⟨n, B, H₁, V₁, ms₁, F, turn, fin⟩ := h₂
  refine hgG ?_; clear hgG
  refine ⟨n, B, H₁, V₁, ms₁, F, turn, fun D o C oC m' H' h' tk' le S' nC od Dm DX CX => ?_⟩
  have eC := (S'.mu (C, oC) (List.mem_append_right _ (.head _))).1
  refine ⟨m', nC.ns eC, fun h2 hs2 => ?_⟩
  refine fin D o H' h2 tk' le ?_ od Dm DX
  have S4 := S'.losesR (h' := h2) (by simpa using CX) fun b o hb e => hs2.extBut b o (by simpa using hb) e
  exact S4.perm List.perm_append_comm
theorem dc0_assign {kx vx tgt iter : PySem.Expr} {y : Str} {py : Pos} {ifs : List PySem.Expr} {scope : Scope} {pos spos : Pos} {Q : Flow → Shared → Prop} (hh : A.handled = none) (Bs : Base K c.H0) (S₀ : St c H env V ms s.heap) (Z : CompScopeB env scope (tgtNames tgt))
    (hsw : swapsWith (.DictComp kx vx [⟨tgt, iter, ifs, 0⟩] scope pos) (some (.Name y py)) spos.line env = pure true) (hy : env.kindOf y = some .local ∨ env.kindOf y = some .cell)
    (h : wpAny (model prog w) A (eval iter env) (fun xv s₁ => wpAny (model prog w) A (pyIter xv) (DcG prog w A c env scope tgt ifs fun V₁ ms₁ H₁ s₂ => ∀ D o H' h' tk', H₁.le H' → St c H' env (setV V₁ y (.ref D)) ((D, o) :: ms₁) h' → OwnD prog w o [] → D ≠ sysModules → D ∉ c.X → Q .next (uP s₂ h' tk')) E s₁) E s)
    (hs : ∀ x, foldedSetIterable iter env x = pure x := by intro _; rfl) :
    wpAny (model prog w) A (exec (.Assign [.Name y py] (.DictComp kx vx [⟨tgt, iter, ifs, 0⟩] scope pos) spos) env) Q E s := by
  rw [exec_Assign_Name_used _ _ _ _ hsw]
  refine wpAny_bind (wpAny_standAt (wpAny_bind ?_))
  show wpAny _ A (do let _ ← comprehension (.DictComp kx vx [⟨tgt, iter, ifs, 0⟩] scope pos) scope env _ newDict false (eval iter env) (some (assign (.Name y py) env))) _ _ s
  refine wpAny_bind (wpAny_mono (dc0_gen (use := some (assign (.Name y py) env)) (Q := fun _ s' => Q .next s') hh Bs S₀ Z
    (wpAny_mono h (fun xv s₁ h₁ => wpAny_mono h₁ (fun it s₂ h₂ => ?_) fun _ _ e => e) fun _ _ e => e) hs) (fun _ s' hq => wpAny_pure (wpAny_pure hq)) fun _ _ e => e)
  refine absG fun gG hgG => ?_
  obtain ⟨n, B, H₁, V₁, ms₁, F, turn, fin⟩ := h₂
  refine hgG ?_; clear hgG
  refine ⟨n, B, H₁, V₁, ms₁, F, turn, fun D o C oC m' H' h' tk' le S' nC od Dm DX CX => ?_⟩
  show wpAny _ A (assign (.Name y py) env (.ref D)) _ _ _
  refine wpAny_assign_Name (St.store S' hy fun h₃ tk₃ S₃ => ?_)
  have eC := (S₃.mu (C, oC) (List.mem_append_right _ (.head _))).1
  refine ⟨m', nC.ns eC, fun h2 hs2 => ?_⟩
  refine fin D o H' h2 _ le ?_ od Dm DX
  have S4 := S₃.losesR (h' := h2) (by simpa using CX) fun b o hb e => hs2.extBut b o (by simpa using hb) e
  exact S4.perm List.perm_append_comm
theorem it_dict {a : Addr} {kvs : List (Str × Value)} {Q : Value → Shared → Prop} (hh : A.handled = none) (S : St c H env V ms s.heap) (D : DictH prog w H a kvs)
    (h : ∀ it h', (∀ (x : Str) (p : Pos), Fresh prog w A c H env V ms (.Name x p) kvs.length (fun i _ binds => ∃ v, binds = [(x, v)] ∧ Ex3 fun k y t => kvs[i]? = some (k, y) ∧ v = .str k t) it h') → Q it (uH s h')) : wpAny (model prog w) A (pyIter (.ref a)) Q E s := by
  refine absG fun gG hgG => ?_
  obtain ⟨o, es, ep, e, r⟩ := D.at S.kn
  refine hgG ?_; clear hgG
  have hlt : a < s.heap.objs.size := Heap.lt_size e
  have dat : s.heap.DictAt (strKind prog w) a kvs ep := ⟨o, es, e, r⟩
  refine wpAny_pyIter_dict (beq_eq_false_iff_ne.mpr D.1) dat (h _ _ fun x p => ?_)
  have fr : s.heap.get? s.heap.objs.size = none := fresh_of_size (Nat.le_refl _)
  have W := Walks.dictKeys (prog := prog) (w := w) (knd := strKind prog w) hh s.heap.objs.size a (Nat.ne_of_lt hlt) kvs ep
  have e0 := Heap.get?_push_size s.heap (o := { cls := .type "dict_keyiterator", data := .fields #[.ref a, .int 0 0, .int kvs.length 0, .int ep 0] }) rfl
  have S₂ := St.newAt (r := ms) (os := []) (by rw [List.append_nil]; exact S) (Up.push s.heap _) fr e0
  have I := Itr.ofWalks x p W fun i h st b hb => by rw [List.mem_singleton.mp hb]; obtain ⟨⟨o, e, _⟩, _⟩ := st; exact ⟨o, e⟩
  have own : ∀ p ∈ [(s.heap.objs.size, ({ cls := .type "dict_keyiterator", data := .fields #[.ref a, .int 0 0, .int kvs.length 0, .int ep 0] } : Obj))], (s.heap.push { cls := .type "dict_keyiterator", data := .fields #[.ref a, .int 0 0, .int kvs.length 0, .int ep 0] }).get? p.1 = some p.2 := fun p hp => by rw [List.mem_singleton.mp hp]; exact e0
  refine ⟨_, _, ⟨fun i H' os s₁ E₁ Q₁ hi j k g hQ => I.step i H' os s₁ E₁ Q₁ hi j k g fun v H2 os' h' tk' binds M j' It ⟨u, e, k', y', hk, hv⟩ => ?_, I.done, I.self, I.mono⟩, .make W.frame rfl (fun b hb => ?_) ⟨⟨_, e0, rfl, rfl⟩, dat.at' fun o e => Heap.get?_push_of_some _ e⟩ S₂.kn own, S₂, fun p hp => by rw [List.mem_singleton.mp hp]; exact S.notX fr⟩
  · obtain ⟨t, rfl⟩ := Value.isStrOf_shape hv
    exact hQ v H2 os' h' tk' binds M j' It ⟨_, e, k', y', t, hk, rfl⟩
  · rcases List.mem_cons.mp hb with rfl | hb
    · exact .inl (.head _)
    · rw [List.mem_singleton.mp hb]; obtain ⟨_, o', e', _⟩ := D; exact .inr (by rw [e']; exact nofun)
end
end Mine
end
section
open PySem PySem.W PyProof.Rows PySem.Calls
set_option maxRecDepth 10000
set_option linter.unusedVariables false
namespace Mine
section
variable {prog : Program} {w : World} {A : Around} {E : Value → Shared → Prop} {s : Shared} {c : Cx} {H H0 : KH} {env : Env} {V : Str → Option Value} {ms : List (Addr × Obj)}
theorem asg2 {x y : Str} {px py tp tp' pos : Pos} {k k' : Nat} {e1 e2 : PySem.Expr} {Q : Flow → Shared → Prop} (hh : A.handled = none)
    (h : wpAny (model prog w) A (eval e1 env) (fun v1 s₁ => wpAny (model prog w) A (eval e2 env) (fun v2 s₂ => Ex4 fun c H' V' ms' => St c H' env V' ms' s₂.heap ∧
      ∀ h' tk', St c H' env (setV (setV V' y v2) x v1) ms' h' → Q .next (uP s₂ h' tk')) E s₁) E s)
    (hx : env.kindOf x = some .local ∨ env.kindOf x = some .cell) (hy : env.kindOf y = some .local ∨ env.kindOf y = some .cell)
    (he1 : starEach [e1, e2] env = (false, eval e1 env) :: starEach [e2] env := by rfl) (he2 : starEach [e2] env = (false, eval e2 env) :: starEach [] env := by rfl)
    (hs : swapsWithSole [.Tuple [.Name x px, .Name y py] k tp] (.Tuple [e1, e2] k' tp') pos.line env = pure false := by rfl)
    (hw : swappedStores [.Tuple [.Name x px, .Name y py] k tp] (.Tuple [e1, e2] k' tp') env = pure (some [x, y]) := by kernel_rfl) :
    wpAny (model prog w) A (exec (.Assign [.Tuple [.Name x px, .Name y py] k tp] (.Tuple [e1, e2] k' tp') pos) env) Q E s := by
  refine Assign_Tuple_swapped (names := [x, y]) ?_ hs hw
  refine Tuple_ ?_
  refine wpAny_items_cons (he := he1) (wpAny_mono h (fun v1 s₁ h₁ => wpAny_items_cons (he := he2) (wpAny_mono h₁ (fun v2 s₂ h₂ => wpAny_items_nil ?_) fun _ _ q => q)) fun _ _ q => q)
  obtain ⟨c, H', V', ms', S, hq⟩ := h₂
  refine wpAny_newObj_type ?_ (by show ([v1, v2] : List Value).toArray.size ≤ sizeLine; rw [List.size_toArray, sizeLine_eq]; simp)
  have ht : IsTup (s₂.heap.push { cls := .type "tuple", dict := none, data := .seq [v1, v2].toArray }) s₂.heap.objs.size #[v1, v2] := ⟨_, Heap.get?_push_size _ rfl, rfl, _, rfl⟩
  have S₃ := S.up (Up.push s₂.heap { cls := .type "tuple", dict := none, data := .seq [v1, v2].toArray })
  generalize s₂.heap.objs.size = t at *
  generalize s₂.heap.push { cls := .type "tuple", dict := none, data := .seq [v1, v2].toArray } = h₃ at *
  have e2 : [x, y].length = (#[v1, v2] : Array Value).size := rfl
  rw [e2]
  refine unpackItems_tuple (s := uH s₂ h₃) hh ht fun h₄ he => ?_
  have S₄ := S₃.up (up_ext he)
  show wpAny (model prog w) A (assignInOrder [bindName env y, bindName env x] [v2, v1]) _ _ _
  refine assignInOrder_cons (bindName_ (St.store (s := uH s₂ h₄) S₄ hy fun h₅ tk₅ S₅ => ?_))
  exact assignInOrder_cons (bindName_ (St.store S₅ hx fun h₆ tk₆ S₆ => assignInOrder_nil (hq h₆ tk₆ S₆)))
theorem get_none {d : Addr} {k : Str} {t : Tok} {pos : Pos} {x : Sem Value} {Q : Value → Shared → Prop} (D : DictH prog w H d []) (k0 : InH H s.heap)
    (h : wpAny (model prog w) A x (fun v s₁ => ∃ k t, v = .str k t ∧ InH H s₁.heap ∧ ∀ tk', Q .none (uT s₁ tk')) E s) : MethodOn prog w A "get" pos (.ref d) [(false, x)] Q E s := by
  have hD := D.at k0
  refine ⟨"dict", "dict.get", F.plainAttrs_dict, F.slot_dict_get, F.type_dict_get, hD.typeIs, hD.mapOf.noDict, ?_⟩
  refine wpAny_dict_get1 (knd := PySem.strKind prog w) (beq_eq_false_iff_ne.mpr D.1) (wpAny_mono h (fun v s₁ q => ?_) fun _ _ q => q)
  obtain ⟨k, t, rfl, kn, q⟩ := q
  exact ⟨k, _, strKind_is prog w k t, (D.at kn).mapOf, q _⟩
theorem t_isi2 {C C' a a' D : Addr} {l l' : List (Str × Value)} {x name Dn : Str} {p p0 p1 p2 pos : Pos} {Q : Bool → Shared → Prop} (B : Base (KW w) H0) (S : Rs H0 H env V s.heap) (hf : env.kindOf "isinstance" = some .globalImplicit) (hx : V x = some (.ref a)) (hk : env.kindOf x = some .local ∨ env.kindOf x = some .cell) (I : Inst H C a l)
    (ok : attrOk (KW w) C name = true) (hm : (name, .ref a') ∈ l) (I' : Inst H C' a' l')
    (hC : C' ∈ nodes) (hD : D ∈ nodes) (hDn : nsIn (KW w) mainGlobals Dn = some (some (.ref D))) (hkD : env.kindOf Dn = some .globalImplicit) (h : ∀ tk, Q (C' == D) (uT s tk))
    (e0 : nsIn (KW w) mainGlobals "isinstance" = some none := by rfl) (e1 : bootBuiltins "isinstance" = some (.builtin "isinstance") := by rfl) (hd : (x == ("__debug__" : Str)) = false := by decide) (hd' : (Dn == ("__debug__" : Str)) = false := by decide) :
    wpAny (model prog w) A (isTrue (.Call (.Name "isinstance" p) [.Attribute (.Name x p1) name p0, .Name Dn p2] [] pos) env (eval (.Call (.Name "isinstance" p) [.Attribute (.Name x p1) name p0, .Name Dn p2] [] pos) env)) Q E s := by
  refine wpAny_isTrue_value (ev_callB B S e0 e1 hf (wpAny_items_cons (ev_attr B S hx hk I ok hm rfl (fun tk => wpAny_items_cons (ev_glob (s := uT s tk) B S hDn (wpAny_items_nil ?_) hkD hd')) hd))) rfl
  exact isi_one (s := uT s tk) (S.inK B) S.kn I' (own_ok hC) (isi_ok hC hD) fun tk => wpAny_truthy_bool (h tk)
theorem appv_spec {n : Nat} {v : Value} {f : Str} {args : List Ex} {d : Addr} (B : Base (KW w) H0) (l0 : H0.le H) (R : Room A (10 * n + 9)) (hT : TreeAt H (n + 1) v (.appv f args)) (hF : Few (n + 1) (.appv f args)) (hd : DictH prog w H d []) :
    Pure prog w A H 458 [v, .ref d] (fun H' r => NeedsH prog w H' r (needF (n + 1) (.appv f args))) := by
  intro s E Q kn hQ
  obtain ⟨a, af, l, vs, t, rfl, I, I', L, hargs⟩ := hT
  refine call_fn (ms := []) (binds := [("expr", .ref a), ("env", .ref d)]) B l0 kn (fun _ h => nomatch h) .nil R.depth rfl rfl rfl rfl rfl rfl rfl ?_
  intro Lc h₁ tk S
  refine xs (if_t (t_isi2 B S.toRs rfl rfl (by walk_at "VK") I (by walk_at "AT") (by walk_at "MEM") I' (by walk_at "MEM") (by walk_at "MEM") rfl rfl fun tk' => ⟨rfl, ?_⟩))
  refine xs ?_
  refine asg2 ?_ ?_ ?_ ?_
  case refine_1 => exact R.hd
  case refine_3 => exact .inl rfl
  case refine_4 => exact .inl rfl
  refine dict_one B S fun D o h₂ S₂ nm => ?_
  refine ev_attr2 B S₂.toRs rfl (by walk_at "VK") I (by walk_at "AT") (by walk_at "MEM") I' (by walk_at "AT") (by walk_at "MEM") rfl fun tk₃ => wpAny_Constant_bool ?_
  refine ⟨f, t, H, _, [], rfl, S₂, fun o' h₄ tk₄ S₄ od => ?_⟩
  refine wpAny_Call_method1_late rfl rfl rfl (ev_var S₄.toRs rfl (get_none hd S₄.kn (k := f) (t := t) ?_) (by walk_at "VK"))
  refine ev_attr2 B S₄.toRs rfl (by walk_at "VK") I (by walk_at "AT") (by walk_at "MEM") I' (by walk_at "AT") (by walk_at "MEM") rfl fun tk₅ => ⟨f, t, rfl, S₄.kn, fun tk₆ => ?_⟩
  refine ⟨_, _, _, _, S₄, fun h₇ tk₇ S₇ => wpAny_execs_nil ?_⟩
  refine xs (if_t (wpAny_isTrue_BoolOp (wpAny_allTrue_Or_cons (t_isNone S₇.toRs rfl (by walk_at "VK") ⟨rfl, ?_⟩))))
  refine xs (wpAny_Return_some (ev_var S₇.toRs rfl ?_ (by walk_at "VK")))
  exact hQ _ _ _ _ (S₇.freeze (by simp)).post.grow ⟨D, rfl, nm, o', addH_self, od⟩
end
end Mine
end
section
open PySem PySem.W PyProof.Rows PySem.Calls
set_option maxRecDepth 10000
namespace Mine
section
variable {prog : Program} {w : World} {A : Around} {H0 H : KH}
theorem appl_spec {n : Nat} {v : Value} {ps : List Str} {b : Ex} {args : List Ex} {d : Addr} (B : Base (KW w) H0) (IH : NeededAt prog w H0 n) (l0 : H0.le H) (hn5 : n ≤ 4) (R : Room A (10 * n + 12)) (hT : TreeAt H (n + 1) v (.appl ps b args)) (hF : Few (n + 1) (.appl ps b args)) (hd : DictH prog w H d []) :
    Pure prog w A H 458 [v, .ref d] (fun H' r => NeedsH prog w H' r (needF (n + 1) (.appl ps b args))) := by
  intro s E Q kn hQ
  refine absG fun gG hgG => ?_
  obtain ⟨a, af, lp, pvs, vb, l, vs, rfl, I, I', Lp, sps, hTb, L, hargs⟩ := hT
  refine hgG ?_; clear hgG
  refine absG fun gG hgG => ?_
  obtain ⟨hF1, hF2, hF3, hF4⟩ := hF
  refine hgG ?_; clear hgG
  have b4 := four_le (n := n) (by lia)
  have hlb := needF_len n b hF2
  have hla : ∀ e ∈ args, lenF (needF n e) ≤ 4 ^ n := fun e he => needF_len n e (hF4 e he)
  refine call_fn (ms := []) (binds := [("expr", .ref a), ("env", .ref d)]) B l0 kn (fun _ h => nomatch h) .nil R.depth rfl rfl rfl rfl rfl rfl rfl ?_
  intro Lc h₁ tk S
  have R' : ∀ env, Room (A.deeper env) (10 * n + 11) := fun _ => R.deeper
  refine xs (if_f (t_isi2 B S.toRs rfl rfl (by walk_at "VK") I (by walk_at "AT") (by walk_at "MEM") I' (by walk_at "MEM") (by walk_at "MEM") rfl rfl fun tk' => ⟨rfl, ?_⟩))
  refine xs (if_t (t_isi2 (s := uP s h₁ _) B S.toRs rfl rfl (by walk_at "VK") I (by walk_at "AT") (by walk_at "MEM") I' (by walk_at "MEM") (by walk_at "MEM") rfl rfl fun tk' => ⟨rfl, ?_⟩))
  refine xs ?_
  refine asg2 ?_ ?_ ?_ ?_
  case refine_1 => exact R.hd
  case refine_3 => exact .inl rfl
  case refine_4 => exact .inl rfl
  refine dict_empty (s := uP s h₁ _) B S fun D o h₂ S₂ od nm _ => ?_
  have S₃ := S₂.freeze (by simp)
  have l3 : H.le (addH H D o) := addH_le (S₂.mu _ (.head _)).2.1
  have hD : DictH prog w (addH H D o) D [] := ⟨nm, o, addH_self, od⟩
  refine ev_callK (s := uP s h₂ _) B S₃.toRs rfl rfl rfl (wpAny_items_cons (ev_attr B S₃.toRs rfl (by walk_at "VK") (I.le l3) (by walk_at "AT") (by walk_at "MEM") rfl fun tk' => wpAny_items_cons (ev_var (s := uP s h₂ _) S₃.toRs rfl (wpAny_items_nil ⟨S₃.inK B, ?_⟩) (by walk_at "VK"))))
  refine signature_spec B IH S₃.b0 hn5 ((R' _).mo) (I'.le l3) (Lp.le l3) sps hF1 (hTb.le l3) hF2 (hd.le l3) _ _ _ S₃.kn fun kv H₄ h₄ tk₄ G₄ hsig => ?_
  refine absG fun gG hgG => ?_
  obtain ⟨ak, lf, fvs, fv, rfl, Ik, Lf, hfl, hfs⟩ := hsig
  refine hgG ?_; clear hgG
  have S₄ := S₃.grow G₄
  have l4 := l3.trans G₄.le
  refine ⟨_, H₄, _, [], S₄, fun h₅ tk₅ S₅ => wpAny_execs_nil (wpAny_execs_nil ?_)⟩
  have I₄ := I.le l4
  have L₄ := L.le l4
  have hlen : vs.length = args.length := hargs.len
  refine xs (xif (wpAny_isTrue_BoolOp (wpAny_allTrue_Or_cons (t_isNone (s := uP s h₅ tk₅) S₅.toRs rfl (by walk_at "VK") ?_))))
  refine wpAny_allTrue_Or_cons (wpAny_isTrue_Compare1 ?_ rfl)
  refine ev_callB (s := uP s h₅ tk₅) B S₅.toRs rfl rfl rfl (wpAny_items_cons (ev_attr B S₅.toRs rfl (by walk_at "VK") I₄ (by walk_at "AT") (by walk_at "MEM") rfl fun tk' => wpAny_items_nil ?_))
  refine len_list (s := uP s h₅ tk') (L₄.at S₅.kn) (by rw [List.size_toArray]; lia) ?_
  refine ev_callB (s := uP s h₅ _) B S₅.toRs rfl rfl rfl (wpAny_items_cons (ev_attr B S₅.toRs rfl (by walk_at "VK") Ik (by walk_at "AT") (by walk_at "MEM") rfl fun tk' => wpAny_items_nil ?_))
  refine len_list (s := uP s h₅ tk') (Lf.at S₅.kn) (by rw [List.size_toArray]; lia) ?_
  refine lt_int (wpAny_truthy_bool ?_)
  have e : decide ((vs.toArray.size : Int) < fvs.toArray.size) = decide (args.length < ps.length) := by
    rw [List.size_toArray, List.size_toArray, hlen, hfl]; exact decide_eq_decide.mpr Int.ofNat_lt
  rw [e]
  have eF : needF (n + 1) (.appl ps b args) = appF (needF n) ps b args := rfl
  rw [eF] at hQ
  unfold appF at hQ
  by_cases hc : args.length < ps.length
  · rw [decide_eq_true hc]
    rw [if_pos hc] at hQ
    refine xs (wpAny_Return_some (ev_var S₅.toRs rfl ?_ (by walk_at "VK")))
    exact hQ _ _ _ _ S₅.post.grow ⟨D, rfl, hD.le G₄.le⟩
  rw [decide_eq_false hc]
  rw [if_neg hc] at hQ
  refine wpAny_allTrue_Or_nil (wpAny_execs_nil ?_)
  generalize hx : needF n b = x at hQ hfs Ik hlb
  cases x with
  | none =>
    refine xs (if_t (wpAny_isTrue_value (ev_attr B S₅.toRs rfl (by walk_at "VK") Ik (by walk_at "AT") (by walk_at "MEM") rfl fun tk' => wpAny_truthy_bool ⟨rfl, ?_⟩) rfl))
    refine xs (wpAny_Return_some (wpAny_Constant_none ?_))
    exact hQ _ _ _ _ S₅.post.grow rfl
  | some ks =>
    obtain ⟨hfv, hfree⟩ := hfs ks rfl
    subst hfv
    refine xs (if_f (wpAny_isTrue_value (ev_attr B S₅.toRs rfl (by walk_at "VK") Ik (by walk_at "AT") (by walk_at "MEM") rfl fun tk' => wpAny_truthy_bool ⟨rfl, wpAny_execs_nil ?_⟩) rfl))
    have hwl := without_len (some ks) ps
    have hfvr : handedIn fv = true := by
      unfold NeedsH at hfree; unfold withoutF at hfree
      obtain ⟨d', rfl, _⟩ := hfree; rfl
    refine xs (wpAny_Assign_Name (ev_callK (s := uP s h₅ _) B S₅.toRs rfl rfl rfl (wpAny_items_cons (ev_var S₅.toRs rfl (wpAny_items_cons (ev_attr B S₅.toRs rfl (by walk_at "VK") Ik (by walk_at "AT") (by walk_at "MEM") hfvr fun tk' => wpAny_items_nil ⟨S₅.inK B, ?_⟩)) (by walk_at "VK")))))
    have hlb' : ks.length ≤ 4 ^ n := hlb
    refine both_spec B S₅.b0 ((R' _).mo) (n1 := some []) ⟨D, rfl, hD.le G₄.le⟩ hfree (by have : lenF (some ([] : List Str)) = 0 := rfl; have : lenF (some ks) = ks.length := rfl; lia) _ _ _ S₅.kn fun rv H₆ h₆ tk₆ G₆ hr₆ => ?_
    have S₆ := S₅.grow G₆
    refine St.store (s := uP s h₆ tk₆) S₆ (by walk_at "VK") fun h₇ tk₇ S₇ => ?_
    have l7 := l4.trans G₆.le
    refine xs ?_
    refine for_it (c := ⟨H0, H, s.heap, []⟩) R.hd (fun i H' V' ms' => ms' = [] ∧ V' "env" = some (.ref d) ∧ ∃ fv, V' "found" = some fv ∧ NeedsH prog w H' fv (((ps.zip args).take i).foldl (flagF (needF n) ks) (bothF (some []) (withoutF (some ks) ps)))) ?_ ?_
    · refine ev_callT (s := uP s h₇ tk₇) B S₇.toRs rfl rfl rfl (wpAny_items_cons (ev_attr B S₇.toRs rfl (by walk_at "VK") (Ik.le G₆.le) (by walk_at "AT") (by walk_at "MEM") rfl fun tk' => wpAny_items_cons (ev_attr (s := uP s h₇ tk') B S₇.toRs rfl (by walk_at "VK") (I.le l7) (by walk_at "AT") (by walk_at "MEM") rfl fun tk' => wpAny_items_nil ?_)))
      refine zip_new (s := uP s h₇ tk') R.hd S₇ (Lf.le G₆.le) (L.le l7) fun z H₈ h₈ l8 hF => ?_
      obtain ⟨J, os, W, j0, S₈, hX⟩ := hF "flag" "arg" _ _ _ 0
      refine W.self H₈ os _ _ _ j0 S₈.kn (fun p hp => let ⟨a, b, _⟩ := S₈.mu p (List.mem_append_right _ hp); ⟨a, b⟩) ?_
      refine ⟨_, J, _, H₈, _, [], os, W, j0, S₈, hX, ⟨rfl, rfl, rv, rfl, hr₆.le l8⟩, ?_, ?_⟩
      · intro i binds os' H' V' ms' h' tk' hi rI9 le hX' rI12 S'
        refine absG fun gG hgG => ?_
        obtain ⟨u, z', rfl, hu, hz⟩ := rI9
        obtain ⟨rfl, henv, fv', hfv', hN⟩ := rI12
        refine hgG ?_; clear hgG
        rw [List.getElem?_map] at hu
        obtain ⟨p, hp, rfl⟩ := Option.map_eq_some_iff.mp hu
        obtain ⟨e, hei, hTe⟩ := hargs.at hz
        have hem : e ∈ args := List.mem_of_getElem? hei
        have hpe : (ps.zip args)[i]? = some (p, e) := by rw [List.getElem?_zip_eq_some]; exact ⟨hp, hei⟩
        have lH := (l7.trans l8).trans le
        have hFe := hF4 e hem
        have step := foldl_take_succ (flagF (needF n) ks) (bothF (some []) (withoutF (some ks) ps)) (ps.zip args) i (p, e) hpe
        have hl1 := app_len (nd := needF n) (ps := ps) (bd := b) (args := args) (b := 4 ^ n) (by rw [hx]; exact hlb) hla hF3 i ks hx
        have hle := hla e hem
        have hfound : (bindV [("flag", Value.bool (decide (p ∈ ks))), ("arg", z')] V') "found" = some fv' := hfv'
        have henv' : (bindV [("flag", Value.bool (decide (p ∈ ks))), ("arg", z')] V') "env" = some (.ref d) := henv
        refine xs ?_
        by_cases hk : p ∈ ks
        · refine if_t (wpAny_isTrue_value (ev_var (s := uP s h' tk') S'.toRs rfl (wpAny_truthy_bool ⟨decide_eq_true hk, ?_⟩) (by walk_at "VK")) rfl)
          refine xs (wpAny_Assign_Name ?_)
          refine ev_callK (s := uP s h' tk') B S'.toRs rfl rfl rfl (wpAny_items_cons (ev_var S'.toRs hfound (wpAny_items_cons ?_) (by walk_at "VK")))
          refine ev_callK (s := uP s h' tk') B S'.toRs rfl rfl rfl (wpAny_items_cons (ev_var S'.toRs rfl (wpAny_items_cons (ev_var S'.toRs henv' (wpAny_items_nil ⟨S'.inK B, ?_⟩) (by walk_at "VK"))) (by walk_at "VK")))
          refine IH _ H' z' e d (l0.trans lH) ((R' _).mo) (hTe.le lH) hFe (hd.le lH) _ _ _ S'.kn fun rv H2 h2 tk2 G2 hr => wpAny_items_nil ⟨(S'.grow G2).inK B, ?_⟩
          have S2 := S'.grow G2
          refine both_spec B S2.b0 ((R' _).mo) (hN.le G2.le) hr (by lia) _ _ _ S2.kn fun rv2 H3 h3 tk3 G3 hr3 => ?_
          have S3 := S2.grow G3
          refine St.store (s := uP s h3 tk3) S3 (by walk_at "VK") fun h4 tk4 S4 => ?_
          refine wpAny_execs_nil (wpAny_execs_nil ⟨_, _, [], h4, _, rfl, G2.le.trans G3.le, S4, rfl, henv, _, rfl, ?_⟩)
          rw [step]
          unfold flagF
          rw [if_pos hk]
          exact hr3
        · refine if_f (wpAny_isTrue_value (ev_var (s := uP s h' tk') S'.toRs rfl (wpAny_truthy_bool ⟨decide_eq_false hk, ?_⟩) (by walk_at "VK")) rfl)
          refine wpAny_execs_nil (wpAny_execs_nil ⟨H', _, [], h', _, rfl, .refl _, S', rfl, henv, _, hfv', ?_⟩)
          rw [step]
          unfold flagF
          rw [if_neg hk]
          exact hN
      · intro H' V' ms' h' tk' le rI6 S'
        refine absG fun gG hgG => ?_
        obtain ⟨rfl, henv, fv', hfv', hN⟩ := rI6
        refine hgG ?_; clear hgG
        have e : min (List.map (fun p => Value.bool (decide (p ∈ ks))) ps).length vs.length = (ps.zip args).length := by rw [List.length_map, List.length_zip, hlen]
        rw [e, List.take_length] at hN
        refine xs (wpAny_Return_some (ev_var (s := uP s h' tk') S'.toRs hfv' ?_ (by walk_at "VK")))
        exact hQ _ _ _ _ S'.post.grow hN
    · intro H' H'' i V' ms' l' rI6
      refine absG fun gG hgG => ?_
      obtain ⟨h1, h2, fv, h3, h4⟩ := rI6
      refine hgG ?_; clear hgG
      exact ⟨h1, h2, fv, h3, h4.le l'⟩
end
end Mine
end
section
open PySem PySem.W PyProof.Rows PySem.Calls
set_option maxRecDepth 10000
set_option linter.unusedVariables false
namespace Mine
section
variable {prog : Program} {w : World} {A : Around} {E : Value → Shared → Prop} {s : Shared} {c : Cx} {H H0 : KH} {env : Env} {V : Str → Option Value} {ms : List (Addr × Obj)}
theorem le_line {n : Nat} (h : n ≤ 10000) : n ≤ sizeLine := by rw [sizeLine_eq]; lia
inductive MidI (c : Cx) (env : Env) (s : Shared) (H : KH) (Mid : KH → (Str → Option Value) → List (Addr × Obj) → Prop) (f : Flow) (s' : Shared) : Prop
  | mk (ef : f = .next) (H3 : KH) (V3 : Str → Option Value) (ms3 : List (Addr × Obj)) (h3 : Heap) (tk3 : Nat) (e : s' = (uP s h3 tk3)) (l : H.le H3) (S : St c H3 env V3 ms3 h3) (i : Mid H3 V3 ms3)
theorem mid {M : Model} {m : Sem Flow} {h0 : Heap} {Q : Flow → Shared → Prop} (S : St c H env V ms h0) (Mid : KH → (Str → Option Value) → List (Addr × Obj) → Prop)
    (h1 : wpAny M A m (MidI c env s H Mid) E s)
    (h2 : ∀ H3 V3 ms3 h3 tk3, H.le H3 → St c H3 env V3 ms3 h3 → Mid H3 V3 ms3 → Q .next (uP s h3 tk3)) : wpAny M A m Q E s :=
  wpAny_mono h1 (fun f s' ⟨e, H3, V3, ms3, h3, tk3, e', l, S3, q⟩ => by subst e; subst e'; exact h2 H3 V3 ms3 h3 tk3 l S3 q) fun _ _ q => q
theorem meth_append {a : Addr} {o0 : Obj} {pos : Pos} {x : Sem Value} {Q : Value → Shared → Prop} (h0 : s.heap.get? a = some o0) (hc0 : o0.cls = .type "list" ∧ o0.dict = none)
    (h : wpAny (model prog w) A x (fun v s₁ => Ex7 fun c H' env V' ms' vs ep => St c H' env V' ((a, lsO vs ep) :: ms') s₁.heap ∧ vs.length ≤ 10000 ∧ ∀ h' ep', St c H' env V' ((a, lsO (vs ++ [v]) ep') :: ms') h' → Q .none (uH s₁ h')) E s) :
    MethodOn prog w A "append" pos (.ref a) [(false, x)] Q E s := by
  refine ⟨"list", "list.append", F.plainAttrs_list, F.slot_list_append, F.type_list_append, ⟨_, h0, hc0.1⟩, fun b e => by cases e; exact ⟨_, h0, hc0.2⟩, PySem.P.append_list (wpAny_mono h (fun v s₁ q => ?_) fun _ _ q => q)⟩
  refine absG fun gG hgG => ?_
  obtain ⟨c, H', env, V', ms', vs, ep, S, hl, q⟩ := q
  refine hgG ?_; clear hgG
  have e := (S.mu _ (.head _)).1
  refine ⟨vs.toArray, ep, by rw [List.size_toArray]; exact le_line hl, e, ?_⟩
  have e' : (s₁.heap.update a (Obj.mapSeq fun xs => xs.push v)).get? a = some _ := IsL.update e _
  rw [List.push_toArray] at e'
  exact q _ _ (S.change (fun b o hb e => (Heap.get?_update_other _ _ (Ne.symm hb)).trans e) e')
theorem list_copy {l : Addr} {vs : List Value} {Q : Value → Shared → Prop} (S : St c H env V ms s.heap) (hl : s.heap.IsList l vs.toArray) (hsz : vs.length ≤ 10000)
    (h : ∀ a ep h', St c H env V ((a, lsO vs ep) :: ms) h' → a ∉ c.X → Q (.ref a) (uH s h')) : wpAny (model prog w) A (call (.type "list") [.ref l]) Q E s := by
  refine absG fun gG hgG => ?_
  obtain ⟨o, ho, hc, n, hd⟩ := hl
  refine hgG ?_; clear hgG
  exact call_list_seq l (.inl rfl) ho hc hd (fun h' c' up e => h _ c' h' (S.new up (fresh_of_size (Nat.le_refl _)) e) (S.notX (fresh_of_size (Nat.le_refl _)))) (by rw [List.size_toArray]; exact le_line hsz)
theorem list_add {l b : Addr} {vs us : List Value} {ep ep' : Nat} {Q : Value → Shared → Prop} (S : St c H env V ms s.heap) (hl : s.heap.get? l = some (lsO vs ep)) (hb : s.heap.get? b = some (lsO us ep')) (hsz : vs.length + us.length ≤ 10000)
    (h : ∀ a h', St c H env V ((a, lsO (vs ++ us) 0) :: ms) h' → a ∉ c.X → Q (.ref a) (uH s h')) : wpAny (model prog w) A (binaryOp .Add (.ref l) (.ref b)) Q E s := by
  refine PySem.P.add_list hl hb ?_ (by rw [List.size_toArray, List.size_toArray]; exact le_line hsz)
  rw [List.append_toArray]
  exact h _ _ (S.new (Up.push _ _) (fresh_of_size (Nat.le_refl _)) (Heap.get?_push_size _ rfl)) (S.notX (fresh_of_size (Nat.le_refl _)))
theorem newLX {M : Model} {vs : List Value} {Q : Value → Shared → Prop} (S : St c H env V ms s.heap) (hsz : vs.length ≤ 1000) (h : ∀ a h', St c H env V ((a, lsO vs 0) :: ms) h' → a ∉ c.X → Q (.ref a) (uH s h')) : wpAny M A (newList vs) Q E s :=
  wpAny_newObj_type (h _ _ (S.new (Up.push _ _) (fresh_of_size (Nat.le_refl _)) (Heap.get?_push_size _ rfl)) (S.notX (fresh_of_size (Nat.le_refl _)))) (by show vs.toArray.size ≤ sizeLine; rw [List.size_toArray, sizeLine_eq]; lia)
theorem newTX {M : Model} {vs : List Value} {Q : Value → Shared → Prop} (S : St c H env V ms s.heap) (hsz : vs.length ≤ 1000) (h : ∀ a h', St c H env V ((a, tupObj vs) :: ms) h' → a ∉ c.X → Q (.ref a) (uH s h')) : wpAny M A (newTuple vs) Q E s :=
  wpAny_newObj_type (h _ _ (S.new (Up.push _ _) (fresh_of_size (Nat.le_refl _)) (Heap.get?_push_size _ rfl)) (S.notX (fresh_of_size (Nat.le_refl _)))) (by show vs.toArray.size ≤ sizeLine; rw [List.size_toArray, sizeLine_eq]; lia)
theorem strs_append {vs us : List Value} {a b : List Str} (h : StrsAre vs a) (k : StrsAre us b) : StrsAre (vs ++ us) (a ++ b) := by
  induction h with
  | nil => exact k
  | cons y t _ ih => exact .cons y t ih
theorem needs_snoc {vs : List Value} {ns : List (Option (List Str))} {v : Value} {n : Option (List Str)} (h : NeedsAll prog w H vs ns) (k : NeedsH prog w H v n) : NeedsAll prog w H (vs ++ [v]) (ns ++ [n]) := by
  induction h with
  | nil => exact .cons k .nil
  | cons a _ ih => exact .cons a ih
end
section
variable {prog : Program} {w : World} {A : Around} {H0 H : KH}
theorem case_spec {n : Nat} {v : Value} {e : Ex} {cn : Str} {alts : List (List Str × Ex)} {o : Option Ex} {d : Addr} (B : Base (KW w) H0) (IH : NeededAt prog w H0 n) (l0 : H0.le H) (hn5 : n ≤ 4) (R : Room A (10 * n + 12)) (hT : TreeAt H (n + 1) v (.case e cn alts o)) (hF : Few (n + 1) (.case e cn alts o)) (hd : DictH prog w H d []) :
    Pure prog w A H 465 [v, .ref d] (fun H' r => NeedsH prog w H' r (needF (n + 1) (.case e cn alts o))) := by
  intro s E Q kn hQ
  refine absG fun gG hgG => ?_
  obtain ⟨a, l, vs, ve, vo, t, rfl, I, hTe, L, hA, hO⟩ := hT
  refine hgG ?_; clear hgG
  refine absG fun gG hgG => ?_
  obtain ⟨hF1, hF2, hF3, hF4, hal⟩ := hF
  refine hgG ?_; clear hgG
  have b4 := four_le (n := n) (by first | decide | lia)
  refine call_fn (ms := []) (binds := [("expr", .ref a), ("env", .ref d)]) B l0 kn (fun _ h => nomatch h) .nil R.depth rfl rfl rfl rfl rfl rfl rfl ?_
  intro Lc h₁ tk S
  have R' : ∀ env, Room (A.deeper env) (10 * n + 11) := fun _ => R.deeper
  have hlen : vs.length = alts.length := hA.len
  refine xs (wpAny_Assign_Name (List_ (wpAny_items_nil ?_)))
  refine newLX S (by simp) fun D h₂ S₂ DX => ?_
  refine St.store S₂ (by walk_at "VK") fun h₃ tk₃ S₃ => ?_
  refine xs ?_
  refine for_it (c := ⟨H0, H, s.heap, []⟩) R.hd (fun i H' V' ms' => V' "expr" = some (.ref a) ∧ V' "env" = some (.ref d) ∧ V' "lots" = some (.ref D) ∧ ∃ us ep, ms' = [(D, lsO us ep)] ∧ NeedsAll prog w H' us ((alts.take i).map fun p => withoutF (needF n p.2) (p.1 ++ [cn]))) ?_ ?_
  · refine ev_attr B S₃.toRs rfl (by walk_at "VK") I (by walk_at "AT") (by walk_at "MEM") rfl fun tk' => ?_
    refine it_list (s := uP s h₃ tk') R.hd S₃ L fun it h₄ hF => ?_
    obtain ⟨J, os, W, j0, S₄, hX⟩ := hF "alt" _
    refine ⟨_, J, _, H, _, _, os, W, j0, S₄, hX, ⟨rfl, rfl, rfl, [], 0, rfl, .nil⟩, ?_, ?_⟩
    · intro i binds os' H' V' ms' h' tk' hi rI9 le hX' rI12 S'
      refine absG fun gG hgG => ?_
      obtain ⟨va, rfl, hva⟩ := rI9
      obtain ⟨hexpr, henv, hlots, us, ep, rfl, hN⟩ := rI12
      refine hgG ?_; clear hgG
      refine absG fun gG hgG => ?_
      obtain ⟨p, hpi, aa, l', nsv, vb, rfl, Ia, La, sa, hTa⟩ := hA.at hva
      refine hgG ?_; clear hgG
      have hpm : p ∈ alts := List.mem_of_getElem? hpi
      have hFp := hF3 p hpm
      have hal' := hal p hpm
      have hlens := strsLen sa
      have hblen := needF_len n p.2 hFp
      have Ia' := Ia.le le
      have hexpr' : (bindV [("alt", Value.ref aa)] V') "expr" = some (.ref a) := hexpr
      have henv' : (bindV [("alt", Value.ref aa)] V') "env" = some (.ref d) := henv
      have hlots' : (bindV [("alt", Value.ref aa)] V') "lots" = some (.ref D) := hlots
      have hul : us.length ≤ 1 := by
        have := hN.len; rw [List.length_map] at this
        have := List.length_take_le' i alts; lia
      have hvb : handedIn vb = true := by
        obtain ⟨ab, lb, rfl, _⟩ := hTa.inst; rfl
      refine xs (wpAny_Expr (wpAny_Call_method1_late rfl rfl rfl (ev_var S'.toRs hlots' (meth_append (S'.mu _ (.head _)).1 ⟨rfl, rfl⟩ ?_) (by walk_at "VK"))))
      refine ev_callK (s := uP s h' tk') B S'.toRs rfl rfl rfl (wpAny_items_cons ?_)
      refine ev_callK (s := uP s h' tk') B S'.toRs rfl rfl rfl (wpAny_items_cons (ev_attr B S'.toRs rfl (by walk_at "VK") Ia' (by walk_at "AT") (by walk_at "MEM") hvb fun tk' => wpAny_items_cons (ev_var (s := uP s h' tk') S'.toRs henv' (wpAny_items_nil ⟨S'.inK B, ?_⟩) (by walk_at "VK"))))
      refine IH _ H' vb p.2 d (l0.trans le) ((R' _).mo) (hTa.le le) hFp (hd.le le) _ _ _ S'.kn fun rv H2 h2 tk2 G2 hr => wpAny_items_cons ?_
      have S2 := S'.grow G2
      refine wpAny_BinOp (ev_callT (s := uP s h2 tk2) B S2.toRs rfl rfl rfl (wpAny_items_cons (ev_attr B S2.toRs rfl (by walk_at "VK") (Ia'.le G2.le) (by walk_at "AT") (by walk_at "MEM") rfl fun tk' => wpAny_items_nil ?_)))
      refine list_copy (s := uP s h2 tk') S2 (((La.le le).le G2.le).at S2.kn) (by first | decide | lia) fun c1 ep1 h3 S3 X1 => ?_
      refine List_ (wpAny_items_cons (ev_attr (s := uP s h3 tk') B S3.toRs hexpr' (by walk_at "VK") ((I.le le).le G2.le) (by walk_at "AT") (by walk_at "MEM") rfl fun tk' => wpAny_items_nil ?_))
      refine newLX (s := uP s h3 tk') S3 (by simp) fun c2 h4 S4 X2 => ?_
      refine list_add (s := uP s h4 tk') S4 (S4.mu _ (.tail _ (.head _))).1 (S4.mu _ (.head _)).1 (by simp; lia) fun c3 h5 S5 X3 => wpAny_items_nil ⟨S5.inK B, ?_⟩
      have S6 := S5.freeze X3
      have l6 := addH_le (o := lsO (nsv ++ [.str cn t]) 0) (S5.mu _ (.head _)).2.1
      have hnames : NamesH (addH H2 c3 (lsO (nsv ++ [.str cn t]) 0)) (.ref c3) (p.1 ++ [cn]) := ⟨c3, _, rfl, ⟨0, addH_self⟩, strs_append sa (.cons cn t .nil)⟩
      refine without_spec B S6.b0 ((R' _).mo) (hr.le l6) hnames (by first | decide | lia) _ _ _ S6.kn fun wv H7 h7 tk7 G7 hw => ?_
      have S7 := ((S6.grow G7).drop X2).drop X1
      refine ⟨_, H7, _, _, _, us, ep, S7, by lia, fun h8 ep8 S8 => wpAny_execs_nil ⟨H7, _, _, h8, _, rfl, (G2.le.trans l6).trans G7.le, S8, hexpr', henv', hlots', _, ep8, rfl, ?_⟩⟩
      rw [List.take_add_one, hpi]
      simp only [Option.toList_some, List.map_append, List.map_cons, List.map_nil]
      exact needs_snoc (hN.le ((G2.le.trans l6).trans G7.le)) hw
    · intro H' V' ms' h' tk' le rI6 S'
      refine absG fun gG hgG => ?_
      obtain ⟨hexpr, henv, hlots, us, ep, rfl, hN⟩ := rI6
      refine hgG ?_; clear hgG
      rw [hlen, List.take_length] at hN
      have hul : us.length ≤ 1 := by have := hN.len; rw [List.length_map] at this; lia
      have hlb : ∀ p ∈ alts, lenF (needF n p.2) ≤ 4 ^ n := fun p hp => needF_len n p.2 (hF3 p hp)
      have hob : ∀ e ∈ o, lenF (needF n e) ≤ 4 ^ n := fun e he => needF_len n e (hF4 e he)
      have hcl := case_len (c := cn) hlb hob
      refine xs (mid (s := uP s h' tk') S' (fun H3 V3 ms3 => V3 "expr" = some (.ref a) ∧ V3 "env" = some (.ref d) ∧ V3 "lots" = some (.ref D) ∧ ∃ us ep, ms3 = [(D, lsO us ep)] ∧ NeedsAll prog w H3 us (alts.map (fun p => withoutF (needF n p.2) (p.1 ++ [cn])) ++ (o.map fun e => withoutF (needF n e) [cn]).toList)) ?_ ?_)
      · cases o with
        | none =>
          have hO' : vo = .none := hO
          subst hO'
          refine if_f (wpAny_isTrue_Compare1 (ev_attr (s := uP s h' tk') B S'.toRs hexpr (by walk_at "VK") (I.le le) (by walk_at "AT") (by walk_at "MEM") rfl fun tk3 => wpAny_Constant_none (isNot_none (wpAny_truthy_bool ⟨rfl, wpAny_execs_nil ?_⟩))) rfl)
          exact ⟨rfl, H', V', _, h', tk3, rfl, .refl _, S', hexpr, henv, hlots, us, ep, rfl, by simpa using hN⟩
        | some eo =>
          have hTo : TreeAt H n vo eo := hO
          have hFo := hF4 eo rfl
          have hbo := needF_len n eo hFo
          refine absG fun gG hgG => ?_
          obtain ⟨ao, lo, rfl, _⟩ := hTo.inst
          refine hgG ?_; clear hgG
          refine if_t (wpAny_isTrue_Compare1 (ev_attr (s := uP s h' tk') B S'.toRs hexpr (by walk_at "VK") (I.le le) (by walk_at "AT") (by walk_at "MEM") rfl fun tk3 => wpAny_Constant_none (isNot_none (wpAny_truthy_bool ⟨rfl, ?_⟩))) rfl)
          refine xs (wpAny_Expr (wpAny_Call_method1_late rfl rfl rfl (ev_var (s := uP s h' tk3) S'.toRs hlots (meth_append (S'.mu _ (.head _)).1 ⟨rfl, rfl⟩ ?_) (by walk_at "VK"))))
          refine ev_callK (s := uP s h' tk3) B S'.toRs rfl rfl rfl (wpAny_items_cons ?_)
          refine ev_callK (s := uP s h' tk3) B S'.toRs rfl rfl rfl (wpAny_items_cons (ev_attr B S'.toRs hexpr (by walk_at "VK") (I.le le) (by walk_at "AT") (by walk_at "MEM") rfl fun tk' => wpAny_items_cons (ev_var (s := uP s h' tk') S'.toRs henv (wpAny_items_nil ⟨S'.inK B, ?_⟩) (by walk_at "VK"))))
          refine IH _ H' _ eo d (l0.trans le) ((R' _).mo) (hTo.le le) hFo (hd.le le) _ _ _ S'.kn fun rv H2 h2 tk2 G2 hr => wpAny_items_cons ?_
          have S2 := S'.grow G2
          refine List_ (wpAny_items_cons (ev_attr (s := uP s h2 tk2) B S2.toRs hexpr (by walk_at "VK") ((I.le le).le G2.le) (by walk_at "AT") (by walk_at "MEM") rfl fun tk' => wpAny_items_nil ?_))
          refine newLX (s := uP s h2 tk') S2 (by simp) fun c2 h4 S4 X2 => wpAny_items_nil ⟨S4.inK B, ?_⟩
          have S6 := S4.freeze X2
          have l6 := addH_le (o := lsO [.str cn t] 0) (S4.mu _ (.head _)).2.1
          have hnames : NamesH (addH H2 c2 (lsO [.str cn t] 0)) (.ref c2) [cn] := ⟨c2, _, rfl, ⟨0, addH_self⟩, .cons cn t .nil⟩
          refine without_spec B S6.b0 ((R' _).mo) (hr.le l6) hnames (by first | decide | lia) _ _ _ S6.kn fun wv H7 h7 tk7 G7 hw => ?_
          have S7 := S6.grow G7
          have l7 := (G2.le.trans l6).trans G7.le
          refine ⟨_, H7, _, _, _, us, ep, S7, by lia, fun h8 ep8 S8 => wpAny_execs_nil ⟨rfl, H7, _, _, h8, _, rfl, l7, S8, hexpr, henv, hlots, _, ep8, rfl, ?_⟩⟩
          exact needs_snoc (hN.le l7) hw
      · intro H3 V3 ms3 h3 tk3 l3 S3 rI7
        refine absG fun gG hgG => ?_
        obtain ⟨hexpr3, henv3, hlots3, us3, ep3, rfl, hN3⟩ := rI7
        refine hgG ?_; clear hgG
        have lH3 := le.trans l3
        have hbe := needF_len n e hF1
        have hev : handedIn ve = true := by obtain ⟨ae, le', rfl, _⟩ := hTe.inst; rfl
        refine xs (wpAny_Return_some ?_)
        refine ev_callK (s := uP s h3 tk3) B S3.toRs rfl rfl rfl (wpAny_items_cons ?_)
        refine ev_callK (s := uP s h3 tk3) B S3.toRs rfl rfl rfl (wpAny_items_cons (ev_attr B S3.toRs hexpr3 (by walk_at "VK") (I.le lH3) (by walk_at "AT") (by walk_at "MEM") hev fun tk' => wpAny_items_cons (ev_var (s := uP s h3 tk') S3.toRs henv3 (wpAny_items_nil ⟨S3.inK B, ?_⟩) (by walk_at "VK"))))
        refine IH _ H3 ve e d (l0.trans lH3) ((R' _).mo) (hTe.le lH3) hF1 (hd.le lH3) _ _ _ S3.kn fun rv H4 h4 tk4 G4 hr => wpAny_items_cons ?_
        have S4 := S3.grow G4
        have S5 := S4.freeze (by simp)
        have l5 := addH_le (o := lsO us3 ep3) (S4.mu _ (.head _)).2.1
        refine ev_callK (s := uP s h4 tk4) B S5.toRs rfl rfl rfl (wpAny_items_cons (ev_var (s := uP s h4 tk4) S5.toRs hlots3 (wpAny_items_nil ⟨S5.inK B, ?_⟩) (by walk_at "VK")))
        refine either_spec B S5.b0 ((R' _).mo) ⟨ep3, addH_self⟩ ((hN3.le G4.le).le l5) (fun x hx => Nat.le_trans (hcl x hx) (by first | decide | lia)) _ _ _ S5.kn fun ev' H6 h6 tk6 G6 hr6 => wpAny_items_nil ⟨(S5.grow G6).inK B, ?_⟩
        have S6 := S5.grow G6
        have hel := either_len (b := 4 ^ n) _ none (Nat.zero_le _) hcl
        refine both_spec B S6.b0 ((R' _).mo) ((hr.le l5).le G6.le) hr6 (by unfold eitherF; lia) _ _ _ S6.kn fun fv H7 h7 tk7 G7 hr7 => ?_
        exact hQ _ _ _ _ (S6.grow G7).post.grow hr7
  · intro H' H'' i V' ms' l' rI6
    refine absG fun gG hgG => ?_
    obtain ⟨h1, h2, h3, us, ep, h4, h5⟩ := rI6
    refine hgG ?_; clear hgG
    exact ⟨h1, h2, h3, us, ep, h4, h5.le l'⟩
end
end Mine
end
section
open PySem PySem.W PyProof.Rows PySem.Calls
set_option maxRecDepth 100000
set_option linter.unusedVariables false
namespace Mine
theorem list_keys_none : typeLookup (.type "list") "keys" = pure none := by rw [typeLookup_type, builtinLookup_eq_fast]; kernel_rfl
theorem entry_update_loop : entryFor table "dict.update.loop" = some Builtin.«dict.update.loop» := entryFor_of_tree (by kernel_rfl)
theorem plain_update_loop : plainId "dict.update.loop" = true := by decide +kernel
section
variable {prog : Program} {w : World} {A : Around} {E : Value → Shared → Prop} {s : Shared}
theorem keys_miss {a : Addr} {xs : Array Value} {k : Nat} {Q : Option Value → Shared → Prop} (hx : s.heap.get? a = some { cls := .type "list", data := .seq xs k }) (hA : A.handled = none)
    (h : ∀ h' tk, Up s.heap h' → Q none (uP s h' tk)) : wpAny (model prog w) A (getAttr? (.ref a) "keys") Q E s := by
  obtain ⟨hp, g, d, tk, os⟩ := s
  have hT : ∀ tk', (⟨hp, g, d, tk', os⟩ : Shared).TypeIs (.ref a) "list" := fun _ => ⟨_, hx, rfl⟩
  have f1 := sub_AttributeError
  have f3 := F.slot_list_getattribute.lookup
  have f4 := F.slot_list_getattribute.bind (.ref a)
  have f5 := am_list_getattr_none
  unfold getAttr? getAttrBy? getAttrBy
  repeat (any_goals (first | assumption | exact hT _ | ((with_reducible show wpAny _ _ (call (Value.builtin "list.__getattribute__") _ _) _ _ _); refine call_meets F.slot_list_getattribute (hT _) am_entry_list_getattribute (F.args_list_getattribute_2 _ _) (meets_getattribute_miss_list a xs k #[] "keys" _ list_keys_none (by decide) (by decide +kernel)) ⟨hx, hA, fun h' tk' e hx' => ?_⟩) | wp_step))
  obtain ⟨t', u', he⟩ := hx'.there
  show wpAny _ _ (getattributeRaised _ _ _ _ _ _ _) _ _ _
  unfold getattributeRaised
  repeat (any_goals (first | assumption | wp_step))
  exact h _ _ hx'.keeps
theorem tup_at {h h' : Heap} {t : Addr} {items : Array Value} (x : IsTup h t items) (e : ∀ o, h.get? t = some o → h'.get? t = some o) : IsTup h' t items := let ⟨o, a, r⟩ := x; ⟨o, e o a, r⟩
noncomputable def PairsAt (h : Heap) (vs : List Value) (kvs : List (Str × Value)) : Prop := vs.length = kvs.length ∧ ∀ (i : Nat) (v : Value), vs[i]? = some v → ∃ (t : Addr) (k : Str) (u : Tok) (y : Value), v = .ref t ∧ IsTup h t #[.str k u, y] ∧ kvs[i]? = some (k, y)
theorem update_loop {R : Result → Shared → Prop} {l I D : Addr} {vs : List Value} {kvs : List (Str × Value)} (hh : A.handled = none) (hsz : kvs.length ≤ sizeLine) (nd : (kvs.map (·.1)).Nodup) :
    ∀ (k i : Nat) (s : Shared) (o : Obj), vs.length - i = k → i ≤ vs.length → s.heap.IsListIter I l i → s.heap.IsList l vs.toArray → PairsAt s.heap vs kvs → s.heap.get? D = some o → o.IsDictOf (strKind prog w) (kvs.take i) → D ≠ I → D ≠ l → I ≠ l → (∀ v : Value, v ∈ vs → v ≠ Value.ref D ∧ v ≠ Value.ref I) →
      (∀ h' tk o', (∀ b x, b ≠ D → b ≠ I → s.heap.get? b = some x → h'.get? b = some x) → h'.get? D = some o' → o'.IsDictOf (strKind prog w) kvs → R (.ok (.ret .none)) (uP s h' tk)) →
      codeAny (model prog w) A (.builtin "dict.update.loop" ⟨[.ref D, .ref I, rawInt i, .none], []⟩) R s := by
  intro k
  induction k with
  | zero =>
    intro i s o hk hi hit hl hp hD hO n1 n2 n3 hv hR
    have hin : i = vs.length := by lia
    subst hin
    refine codeAny_builtin entry_update_loop ?_
    rw [Around.under_plainId plain_update_loop _]
    show wpAny _ A.in1 (pyNext (.ref I) >>= _) _ _ s
    refine wpAny_bind (wpAny_pyNext_list_end hh hit hl (by simp) fun h' eb => ?_)
    show wpAny _ _ (Builtin.Dict.addKeywords D [] >>= _) _ _ _
    refine wpAny_bind (wpAny_pure (wpAny_pure ?_))
    rw [hp.1, List.take_length] at hO
    exact hR h' _ o (fun b x _ hb e => eb b x hb e) (eb D o n1 hD) hO
  | succ k ih =>
    intro i s o hk hi hit hl hp hD hO n1 n2 n3 hv hR
    have hlt : i < vs.length := by lia
    have hvi : vs[i]? = some vs[i] := by simp [hlt]
    obtain ⟨t, key, u, y, ev, ht, hkv⟩ := hp.2 i vs[i] hvi
    have htn := hv _ (List.getElem_mem hlt)
    rw [ev] at htn
    have tD : t ≠ D := fun q => htn.1 (by rw [q])
    have tI : t ≠ I := fun q => htn.2 (by rw [q])
    refine codeAny_builtin entry_update_loop ?_
    rw [Around.under_plainId plain_update_loop _]
    show wpAny _ A.in1 (pyNext (.ref I) >>= _) _ _ s
    refine wpAny_bind (wpAny_pyNext_list_item hit hl (x := vs[i]) (by simp [hlt]) fun h₁ hit₁ hs₁ => ?_)
    rw [ev]
    have ht₁ : IsTup h₁ t #[.str key u, y] := tup_at ht fun o e => hs₁.extBut t o tI e
    obtain ⟨ot, et, ct, nt, dt⟩ := id ht₁
    have hT : (⟨h₁, s.gens, s.drawn, s.toks, s.os⟩ : Shared).TypeIs (.ref t) "tuple" := ⟨_, et, ct⟩
    show wpAny _ _ (holding [.ref t] _ >>= _) _ _ _
    refine wpAny_bind (wpAny_holding (wpAny_bind (wpAny_tryCatch ?_)))
    unfold Builtin.Dict.pairItems
    refine wpAny_bind (wpAny_typeOf hT ?_)
    rw [if_pos (by rfl)]
    refine wpAny_bind (wpAny_seqItems (s := uH s h₁) et dt (wpAny_pure ?_))
    show wpAny _ _ (holding [.str key u, y] (dictSet D (.str key u) y)) _ _ _
    have hD₁ : h₁.get? D = some o := hs₁.extBut D o n1 hD
    have tl : (kvs.take i).length ≤ sizeLine := Nat.le_trans (List.length_take_le' _ _) hsz
    refine wpAny_holding (wpAny_dictSet_pairs (knd := strKind prog w) (s := uH s h₁) (strKind_is prog w key u) (Heap.dictOf_iff.mpr ⟨o, hD₁, hO⟩) (fun h₂ hd₂ hs₂ => ?_) tl)
    obtain ⟨o₂, e₂, r₂⟩ := Heap.dictOf_iff.mp hd₂
    have keep : ∀ b x, b ≠ D → b ≠ I → s.heap.get? b = some x → h₂.get? b = some x := fun b x hb hb' e => hs₂.extBut b x hb (hs₁.extBut b x hb' e)
    have est : stored (kvs.take i) key y = kvs.take (i + 1) := by
      rw [List.take_add_one, hkv]
      unfold stored
      rw [if_neg]
      · rfl
      · intro q
        obtain ⟨p, hp', hq⟩ := List.any_eq_true.mp q
        have hq' : p.1 = key := of_decide_eq_true hq
        have : kvs = kvs.take i ++ kvs.drop i := (List.take_append_drop i kvs).symm
        rw [this, List.map_append, List.nodup_append] at nd
        refine nd.2.2 p.1 (List.mem_map_of_mem hp') key ?_ hq'
        refine List.mem_map.mpr ⟨(key, y), ?_, rfl⟩
        refine List.mem_of_getElem? (i := 0) ?_
        rw [List.getElem?_drop]; exact hkv
    rw [est] at r₂
    refine wpAny_pure ⟨plainId_quiet plain_update_loop _, ?_⟩
    refine ih (i + 1) _ o₂ (by lia) hlt (hit₁.at fun o e => hs₂.extBut I o n1.symm e) (hl.at fun o e => keep l o n2.symm n3.symm e) ⟨hp.1, fun j v hj => ?_⟩ e₂ r₂ n1 n2 n3 hv fun h' tk o' kp e' r' => hR h' tk o' (fun b x hb hb' e => kp b x hb hb' (keep b x hb hb' e)) e' r'
    obtain ⟨t', key', u', y', e1, e2, e3⟩ := hp.2 j v hj
    have hn := hv v (List.mem_of_getElem? hj)
    rw [e1] at hn
    exact ⟨t', key', u', y', e1, tup_at e2 fun o e => keep t' o (fun q => hn.1 (by rw [q])) (fun q => hn.2 (by rw [q])) e, e3⟩
theorem call_dict_pairs {l : Addr} {ep : Nat} {vs : List Value} {kvs : List (Str × Value)} {Q : Value → Shared → Prop} (hh : A.handled = none) (hl : s.heap.get? l = some { cls := .type "list", data := .seq vs.toArray ep }) (hp : PairsAt s.heap vs kvs) (nd : (kvs.map (·.1)).Nodup) (hsz : kvs.length ≤ sizeLine)
    (h : ∀ D o h' tk, Up s.heap h' → s.heap.get? D = none → h'.get? D = some o → OwnD prog w o kvs → Q (.ref D) (uP s h' tk)) : wpAny (model prog w) A (call (.type "dict") [.ref l]) Q E s := by
  refine callType_codes (Q₁ := fun obj s₁ => obj = .ref s.heap.objs.size ∧ s₁ = { s with heap := s.heap.push { cls := .type "dict", data := .dict #[] } }) PySem.F.kt_called_dict (PySem.F.kt_typeCall_dict_1 _) PySem.F.entry_dict_init (kt_code_dict_new _ ⟨rfl, rfl⟩) ?_
  rintro obj s₁ ⟨rfl, rfl⟩
  have frD : s.heap.get? s.heap.objs.size = none := fresh_of_size (Nat.le_refl _)
  have hnew : (s.heap.push { cls := .type "dict", data := .dict #[] }).DictOf (strKind prog w) s.heap.objs.size [] := Heap.DictOf.new s.heap
  have up1 : Up s.heap (s.heap.push { cls := .type "dict", data := .dict #[] }) := Up.push _ _
  have szD : (s.heap.push { cls := .type "dict", data := .dict #[] }).objs.size = s.heap.objs.size + 1 := Heap.size_push ..
  have hlt : l < s.heap.objs.size := Heap.lt_size hl
  generalize s.heap.push { cls := .type "dict", data := .dict #[] } = h1 at *
  refine ⟨hnew.typeIs, PySem.F.args_dict_init_2 _ _, ?_⟩
  unfold Builtin.«dict.__init__»
  refine wpAny_bind ?_
  unfold Builtin.Dict.selfAndRest
  refine wpAny_bind (wpAny_notOrdered_dict hnew.typeIs ?_)
  show wpAny _ _ (pure (s.heap.objs.size, [Value.ref l])) _ _ _
  refine wpAny_pure ?_
  show wpAny _ _ (Builtin.Dict.updateFrom "dict.__init__" s.heap.objs.size (.ref l) [] .none) _ _ _
  unfold Builtin.Dict.updateFrom
  have hl1 := up1 _ _ hl
  have hTl : ∀ (h' : Heap) (tk : Nat), Up h1 h' → (⟨h', s.gens, s.drawn, tk, s.os⟩ : Shared).TypeIs (.ref l) "list" := fun h' tk u => ⟨_, u _ _ hl1, rfl⟩
  refine wpAny_bind (wpAny_typeOf (hTl h1 _ (.refl _)) ?_)
  rw [if_pos (by decide)]
  refine wpAny_bind (keys_miss hl1 hh fun h2 tk2 up2 => ?_)
  rw [if_pos (by rfl)]
  refine wpAny_bind (wpAny_rule ?_)
  have hl2 := up2 _ _ hl1
  have up12 : Up s.heap h2 := up1.trans up2
  obtain ⟨oD, eD, rD⟩ := Heap.dictOf_iff.mp hnew
  have eD2 := up2 _ _ eD
  refine wpAny_bind (wpAny_pyIter_list (s := uP s h2 tk2) ⟨_, hl2, rfl, _, rfl⟩ ?_)
  have frI : h2.get? h2.objs.size = none := fresh_of_size (Nat.le_refl _)
  have up3 := Up.push h2 { cls := .type "list_iterator", data := .fields #[.ref l, .int 0 0] }
  have eI := Heap.get?_push_size h2 (o := { cls := .type "list_iterator", data := .fields #[.ref l, .int 0 0] }) rfl
  have nDI : s.heap.objs.size ≠ h2.objs.size := Nat.ne_of_lt (Heap.lt_size eD2)
  have nIl : h2.objs.size ≠ l := Nat.ne_of_gt (Heap.lt_size hl2)
  dsimp only
  generalize h2.objs.size = I at *
  generalize h2.push { cls := .type "list_iterator", data := .fields #[.ref l, .int 0 0] } = h3 at *
  refine wpAny_pure ⟨plainId_quiet plain_update_loop _, ?_⟩
  have up13 := up12.trans up3
  refine update_loop (vs := vs) (kvs := kvs) (l := l) (by exact hh) hsz nd vs.length 0 (uP s h3 tk2) oD rfl (Nat.zero_le _) ⟨_, eI, rfl, rfl⟩ ⟨_, up3 _ _ hl2, rfl, _, rfl⟩ ⟨hp.1, fun j v hj => ?_⟩ (up3 _ _ eD2) (by simpa using rD) nDI (Nat.ne_of_gt hlt) nIl (fun v hv => ?_) fun h' tk o' kp e' r' => ?_
  · obtain ⟨t', key', u', y', e1, e2, e3⟩ := hp.2 j v hj
    exact ⟨t', key', u', y', e1, tup_at e2 fun o e => up13 _ _ e, e3⟩
  · obtain ⟨j, hj⟩ := List.getElem?_of_mem hv
    obtain ⟨t', key', u', y', e1, ⟨ot, et, _⟩, e3⟩ := hp.2 j v hj
    rw [e1]
    refine ⟨fun q => ?_, fun q => ?_⟩
    · cases q; rw [frD] at et; cases et
    · cases q; have := up12 _ _ et; rw [frI] at this; cases this
  · refine ⟨rfl, h _ o' h' tk (fun b x e => ?_) frD e' r'⟩
    refine kp b x (fun q => ?_) (fun q => ?_) (up13 _ _ e)
    · rw [q, frD] at e; cases e
    · have := up12 _ _ e; rw [q, frI] at this; cases this
end
end Mine
end
section
open PySem PySem.W PyProof.Rows PySem.Calls
set_option maxRecDepth 10000
set_option linter.unusedVariables false
namespace Mine
noncomputable def BindsAt (H : KH) (n : Nat) (vs : List Value) (binds : List (Str × Ex)) : Prop := All2 (fun v (p : Str × Ex) => Ex3 fun a t ve => v = .ref a ∧ TupH H a [.str p.1 t, ve] ∧ TreeAt H n ve p.2) vs binds
theorem BindsAt.le {H H' : KH} {n : Nat} {vs : List Value} {binds : List (Str × Ex)} (x : BindsAt H n vs binds) (l : H.le H') : BindsAt H' n vs binds :=
  x.imp fun v p ⟨a, t, ve, e, T, R⟩ => ⟨a, t, ve, e, T.le l, TreeAt.le l _ _ _ R⟩
theorem BindsAt.pairs {H : KH} {n : Nat} {vs : List Value} {binds : List (Str × Ex)} (x : BindsAt H n vs binds) : ∀ (i : Nat) (v : Value), vs[i]? = some v → Ex3 fun (t : Addr) (u z : Value) => v = Value.ref t ∧ TupW H t [u, z] ∧ ∃ (p : Str × Ex) (tk : Tok), binds[i]? = some p ∧ u = Value.str p.1 tk ∧ TreeAt H n z p.2 := fun i v hv => by
  obtain ⟨p, hp, a, t, ve, rfl, T, R⟩ := x.at hv
  exact ⟨a, _, _, rfl, T.w, p, t, hp, rfl, R⟩
section
variable {prog : Program} {w : World} {A : Around} {H0 H : KH}
theorem lk {cenv : Env} {sc : Scope} {x : Str} {k : Option NameKind} (h : cenv.scope = sc) (e : sc.names.lookup x = k) : cenv.kindOf x = k := by unfold Env.kindOf; rw [h]; exact e
theorem functions_in_spec {n : Nat} {l : Addr} {vs : List Value} {binds : List (Str × Ex)} (B : Base (KW w) H0) (l0 : H0.le H) (R : Room A 3) (hl : ListH H l vs) (hb : BindsAt H n vs binds) :
    Pure prog w A H 475 [.ref l] (fun H' r => ∃ d, r = .ref d ∧ DictH prog w H' d []) := by
  intro s E Q kn hQ
  refine call_fn (ms := []) (binds := [("binds", .ref l)]) B l0 kn (fun _ h => nomatch h) .nil R.depth rfl rfl rfl rfl rfl rfl rfl ?_
  intro Lc h₁ tk S
  refine xs (wpAny_Return_some ?_)
  refine dc0 R.hd B S (.of rfl) (ev_var S.toRs rfl ?_ (by walk_at "VK"))
  refine it_pairs (s := uP s h₁ tk) R.hd S hl (BindsAt.pairs hb) fun it h₂ hF => ⟨_, _, H, _, [], hF "name" "expr" _ _ _ 0, ?_, ?_⟩
  · rintro i bs cenv H' s₃ E' hi ⟨u, z, rfl, p, tk, hp, rfl, hT⟩ le S₃ hsc
    obtain ⟨az, lz, rfl, Iz⟩ := hT.inst
    refine tests_one (t_isi B S₃ (lk hsc rfl) rfl (.inl (lk hsc rfl)) (Iz.le le) (clsOf_node p.2) (by walk_at "MEM") rfl (lk hsc rfl) fun tk' => ⟨?_, s₃.heap, tk', rfl, .refl _⟩)
    cases p.2 <;> rfl
  · intro D o H' h₃ tk₃ le S₃ od nm DX
    exact hQ _ _ _ _ (S₃.freeze DX).post.grow ⟨D, rfl, nm, o, addH_self, od⟩
theorem settled_spec {f d : Addr} (B : Base (KW w) H0) (l0 : H0.le H) (R : Room A 3) (hf : DictH prog w H f []) (hd : DictH prog w H d []) :
    Pure prog w A H 480 [.ref f, .ref d] (fun H' r => ∃ d, r = .ref d ∧ DictH prog w H' d []) := by
  intro s E Q kn hQ
  refine call_fn (ms := []) (binds := [("functions", .ref f), ("env", .ref d)]) B l0 kn (fun _ h => nomatch h) .nil R.depth rfl rfl rfl rfl rfl rfl rfl ?_
  intro Lc h₁ tk S
  have R' : ∀ env, Room (A.deeper env) 2 := fun _ => R.deeper
  refine xs (dc0_assign R.hd B S (.of rfl) rfl (by walk_at "VK") (ev_var S.toRs rfl ?_ (by walk_at "VK")))
  refine it_dict (s := uP s h₁ tk) R.hd S hf fun it h₂ hF => ⟨_, _, H, _, [], hF "name" _, ?_, ?_⟩
  · intro i bs cenv H' s₃ E' hi
    exact absurd hi (Nat.not_lt_zero _)
  intro D o H₃ h₃ tk₃ le S₃ od nm DX
  refine xs (wpAny_Assign_Name (wpAny_Compare1 (ev_var (s := uP s h₃ tk₃) S₃.toRs rfl ?_ (by walk_at "VK")) rfl))
  refine dict_empty (s := uP s h₃ tk₃) B S₃ fun D' o' h₄ S₄ od' nm' _ => ?_
  refine keq_eq (knd := strKind prog w) (s := uP s h₄ tk₃) (ka := []) (kb := []) (r := true) (beq_eq_false_iff_ne.mpr hf.1) (beq_eq_false_iff_ne.mpr nm') ((hf.le le).at S₄.kn) (Heap.dictOf_iff.mpr ⟨o', (S₄.mu _ (.head _)).1, od'⟩) (R' _).units (fun _ => .nil) ?_
  refine St.store (s := uP s h₄ tk₃) S₄ (by walk_at "VK") fun h₅ tk₅ S₅ => ?_
  refine xs (wpAny_While (codeAny_whileLoop (fun n s' => n = 0 ∧ s' = (uP s h₅ tk₅)) ?_ 0 ⟨rfl, rfl⟩))
  rintro n s' ⟨rfl, rfl⟩
  refine wpAny_isTrue_Not (wpAny_isTrue_value (ev_var (s := uP s h₅ tk₅) S₅.toRs rfl (wpAny_truthy_bool ?_) (by walk_at "VK")) rfl)
  refine wpAny_execs_nil ?_
  refine xs (wpAny_Return_some (ev_var (s := uP s h₅ tk₅) S₅.toRs rfl ?_ (by walk_at "VK")))
  have S₆ := (S₅.drop (by simp)).freeze DX
  exact hQ _ _ _ _ S₆.post.grow ⟨D, rfl, nm, o, addH_self, od⟩
end
end Mine
end
section
open PySem PySem.W PyProof.Rows PySem.Calls
set_option maxRecDepth 10000
set_option linter.unusedVariables false
namespace Mine
section
variable {prog : Program} {w : World} {A : Around} {H0 H : KH}
theorem bound_env_spec {n : Nat} {a l d : Addr} {fs : List (Str × Value)} {r : Bool} {vs : List Value} {binds : List (Str × Ex)} (B : Base (KW w) H0) (l0 : H0.le H) (R : Room A 6) (I : Inst H 227 a fs) (h1 : (("binds" : Str), Value.ref l) ∈ fs) (h2 : (("is_rec" : Str), Value.bool r) ∈ fs) (hl : ListH H l vs) (hb : BindsAt H n vs binds) (hd : DictH prog w H d []) :
    Pure prog w A H 485 [.ref a, .ref d] (fun H' r => ∃ d, r = .ref d ∧ DictH prog w H' d []) := by
  intro s E Q kn hQ
  refine call_fn (ms := []) (binds := [("expr", .ref a), ("env", .ref d)]) B l0 kn (fun _ h => nomatch h) .nil R.depth rfl rfl rfl rfl rfl rfl rfl ?_
  intro Lc h₁ tk S
  have R' : ∀ env, Room (A.deeper env) 5 := fun _ => R.deeper
  refine xs (wpAny_Assign_Name (ev_callK (s := uP s h₁ tk) B S.toRs rfl rfl rfl (wpAny_items_cons (ev_attr B S.toRs rfl (by walk_at "VK") I (by walk_at "AT") h1 rfl fun tk' => wpAny_items_nil ⟨S.inK B, ?_⟩))))
  refine functions_in_spec B l0 ((R' _).mo) hl hb _ _ _ S.kn fun fv H₂ h₂ tk₂ G₂ ⟨f, e, hf⟩ => ?_
  subst e
  have S₂ := S.grow G₂
  refine St.store (s := uP s h₂ tk₂) S₂ (by walk_at "VK") fun h₃ tk₃ S₃ => ?_
  refine xs ?_
  cases r with
  | true =>
    refine if_t (wpAny_isTrue_value (ev_attr (s := uP s h₃ tk₃) B S₃.toRs rfl (by walk_at "VK") (I.le G₂.le) (by walk_at "AT") h2 rfl fun tk' => wpAny_truthy_bool ⟨rfl, ?_⟩) rfl)
    refine xs (wpAny_Return_some (ev_callK (s := uP s h₃ tk') B S₃.toRs rfl rfl rfl (wpAny_items_cons (ev_var (s := uP s h₃ tk') S₃.toRs rfl (wpAny_items_cons ?_) (by walk_at "VK")))))
    refine ev_callK (s := uP s h₃ tk') B S₃.toRs rfl rfl rfl (wpAny_items_cons (ev_var (s := uP s h₃ tk') S₃.toRs rfl (wpAny_items_cons (ev_var (s := uP s h₃ tk') S₃.toRs rfl (wpAny_items_nil ⟨S₃.inK B, ?_⟩) (by walk_at "VK"))) (by walk_at "VK")))
    refine settled_spec B S₃.b0 ((R' _).mo) hf (hd.le G₂.le) _ _ _ S₃.kn fun mv H₄ h₄ tk₄ G₄ ⟨m, e, hm⟩ => wpAny_items_nil ⟨(S₃.grow G₄).inK B, ?_⟩
    subst e
    have S₄ := S₃.grow G₄
    refine extended_spec B S₄.b0 ((R' _).mo) ((hd.le G₂.le).le G₄.le) hm _ _ _ S₄.kn fun rv H₅ h₅ tk₅ G₅ hr => ?_
    exact hQ _ _ _ _ (S₄.grow G₅).post.grow hr
  | false =>
    refine if_f (wpAny_isTrue_value (ev_attr (s := uP s h₃ tk₃) B S₃.toRs rfl (by walk_at "VK") (I.le G₂.le) (by walk_at "AT") h2 rfl fun tk' => wpAny_truthy_bool ⟨rfl, wpAny_execs_nil ?_⟩) rfl)
    refine xs (wpAny_Return_some (ev_callK (s := uP s h₃ tk') B S₃.toRs rfl rfl rfl (wpAny_items_cons (ev_var (s := uP s h₃ tk') S₃.toRs rfl (wpAny_items_cons ?_) (by walk_at "VK")))))
    refine dc0 (s := uP s h₃ tk') R.hd B S₃ (.of rfl) (ev_var (s := uP s h₃ tk') S₃.toRs rfl ?_ (by walk_at "VK"))
    refine it_dict (s := uP s h₃ tk') R.hd S₃ hf fun it h₄ hF => ⟨_, _, H₂, _, [], hF "name" _, ?_, ?_⟩
    · intro i bs cenv H' s₃ E' hi
      exact absurd hi (Nat.not_lt_zero _)
    intro D o H₅ h₅ tk₅ le S₅ od nm DX
    have S₆ := S₅.freeze DX
    refine wpAny_items_nil ⟨S₆.inK B, ?_⟩
    have l6 := addH_le (o := o) (S₅.mu _ (.head _)).2.1
    refine extended_spec B S₆.b0 ((R' _).mo) (((hd.le G₂.le).le le).le l6) ⟨nm, o, addH_self, od⟩ _ _ _ S₆.kn fun rv H₇ h₇ tk₇ G₇ hr => ?_
    exact hQ _ _ _ _ (S₆.grow G₇).post.grow hr
noncomputable def WaitAt (H : KH) (n : Nat) (kvs : List (Str × Value)) (wait : List (Str × Ex)) : Prop := All2 (fun (kv : Str × Value) (p : Str × Ex) => kv.1 = p.1 ∧ TreeAt H n kv.2 p.2) kvs wait
theorem WaitAt.le {H H' : KH} {n : Nat} {kvs : List (Str × Value)} {wait : List (Str × Ex)} (x : WaitAt H n kvs wait) (l : H.le H') : WaitAt H' n kvs wait := x.imp fun a b ⟨e, t⟩ => ⟨e, TreeAt.le l _ _ _ t⟩
theorem WaitAt.at_some {H : KH} {n : Nat} {kvs : List (Str × Value)} {wait : List (Str × Ex)} (x : WaitAt H n kvs wait) {k : Str} {e : Ex} (h : wait.lookup k = some e) : ∃ v, valueAt kvs k = some v ∧ TreeAt H n v e := by
  induction x with
  | nil => cases h
  | @cons a b as bs h1 _ ih =>
    obtain ⟨e1, t1⟩ := h1
    unfold valueAt at ih ⊢
    obtain ⟨b1, b2⟩ := b
    rw [List.lookup_cons] at h
    rw [List.find?_cons]
    by_cases q : k = b1
    · subst q
      simp at h
      subst h
      rw [decide_eq_true e1]
      exact ⟨_, rfl, t1⟩
    · have : (k == b1) = false := by simpa using q
      rw [this] at h
      have e2 : a.1 ≠ k := fun z => q (z.symm.trans e1)
      rw [decide_eq_false e2]
      exact ih h
theorem WaitAt.at_none {H : KH} {n : Nat} {kvs : List (Str × Value)} {wait : List (Str × Ex)} (x : WaitAt H n kvs wait) {k : Str} (h : wait.lookup k = none) : valueAt kvs k = none := by
  induction x with
  | nil => rfl
  | @cons a b as bs h1 _ ih =>
    obtain ⟨e1, t1⟩ := h1
    unfold valueAt at ih ⊢
    obtain ⟨b1, b2⟩ := b
    rw [List.lookup_cons] at h
    rw [List.find?_cons]
    by_cases q : k = b1
    · subst q
      simp at h
    · have : (k == b1) = false := by simpa using q
      rw [this] at h
      have e2 : a.1 ≠ k := fun z => q (z.symm.trans e1)
      rw [decide_eq_false e2]
      exact ih h
theorem WaitAt.drop {H : KH} {n : Nat} {kvs : List (Str × Value)} {wait : List (Str × Ex)} (x : WaitAt H n kvs wait) (k : Str) : WaitAt H n (PySem.without kvs k) (wait.filter fun p => !(p.1 == k)) := by
  unfold PySem.without
  induction x with
  | nil => exact .nil
  | @cons a b as bs h1 _ ih =>
    obtain ⟨e1, t1⟩ := h1
    rw [List.filter_cons, List.filter_cons]
    by_cases q : b.1 = k
    · have e2 : a.1 = k := e1.trans q
      rw [if_neg (by simp [e2]), if_neg (by simp [q])]
      exact ih
    · have e2 : a.1 ≠ k := fun z => q (e1.symm.trans z)
      rw [if_pos (by simp [e2]), if_pos (by simp [q])]
      exact .cons ⟨e1, t1⟩ ih
theorem BindsAt.wait {H : KH} {n : Nat} {vs : List Value} {binds : List (Str × Ex)} (x : BindsAt H n vs binds) : ∃ kvs, WaitAt H n kvs binds ∧ kvs.map (·.1) = binds.map (·.1) ∧ ∀ h, InH H h → PairsAt h vs kvs := by
  induction x with
  | nil => exact ⟨[], .nil, rfl, fun h _ => ⟨rfl, fun i v hv => by simp at hv⟩⟩
  | @cons v p vs bs h1 hr ih =>
    refine absG fun gG hgG => ?_
    obtain ⟨kvs, w1, w2, w3⟩ := ih
    refine hgG ?_; clear hgG
    refine absG fun gG hgG => ?_
    obtain ⟨a, t, ve, rfl, T, R⟩ := h1
    refine hgG ?_; clear hgG
    refine ⟨(p.1, ve) :: kvs, .cons ⟨rfl, R⟩ w1, by rw [List.map_cons, List.map_cons, w2], fun h k => ⟨by rw [List.length_cons, List.length_cons, (w3 h k).1], fun i v hv => ?_⟩⟩
    cases i with
    | zero =>
      simp at hv; subst hv
      exact ⟨a, p.1, t, ve, rfl, T.w.at k, rfl⟩
    | succ i => exact (w3 h k).2 i v (by simpa using hv)
theorem meth_pop {c : Cx} {env : Env} {V : Str → Option Value} {ms : List (Addr × Obj)} {E : Value → Shared → Prop} {s : Shared} {d : Addr} {o : Obj} {kvs : List (Str × Value)} {k : Str} {v : Value} {pos : Pos} {t : Sem Value} {Q : Value → Shared → Prop} (S : St c H env V ((d, o) :: ms) s.heap) (hd : OwnD prog w o kvs) (hv : valueAt kvs k = some v) (hsz : kvs.length ≤ 10000)
    (h : wpAny (model prog w) A t (fun kv s₁ => ∃ u, kv = .str k u ∧ s₁.heap = s.heap ∧ ∀ o' h' tk', St c H env V ((d, o') :: ms) h' → OwnD prog w o' (PySem.without kvs k) → Q v (uP s₁ h' tk')) E s) : MethodOn prog w A "pop" pos (.ref d) [(false, t)] Q E s := by
  have hD : s.heap.DictOf (strKind prog w) d kvs := Heap.dictOf_iff.mpr ⟨o, (S.mu _ (.head _)).1, hd⟩
  refine ⟨"dict", "dict.pop", F.plainAttrs_dict, F.slot_dict_pop, F.type_dict_pop, hD.typeIs, hD.mapOf.noDict, callWith_builtin rfl (evalArgs_plain (spliced_cons (wpAny_mono h (fun kv s₁ q => spliced_nil ?_) fun _ _ q => q)))⟩
  refine absG fun gG hgG => ?_
  obtain ⟨u, rfl, eh, q⟩ := q
  refine hgG ?_; clear hgG
  have hD1 : s₁.heap.DictOf (strKind prog w) d kvs := by rw [eh]; exact hD
  refine call_meetsIn PySem.F.slot_dict_pop hD1.typeIs PySem.F.entry_dict_pop (PySem.F.args_dict_pop_2 _ _) (meets_dict_pop_there (strKind prog w) d (strKind_is prog w k u) [] (.inl rfl) rfl) ⟨kvs, v, hD1, le_line hsz, hv, fun h' hmm hs => ?_⟩
  obtain ⟨o', e', r⟩ := Heap.dictOf_iff.mp hmm
  refine q o' h' _ (S.change (fun b x z y => (hs.2 b z).trans (by rw [eh]; exact y)) e') r
end
end Mine
end
section
open PySem PySem.W PyProof.Rows PySem.Calls
set_option maxRecDepth 10000
set_option linter.unusedVariables false
namespace Mine
section
variable {prog : Program} {w : World} {A : Around} {E : Value → Shared → Prop} {s : Shared} {c : Cx} {H H0 : KH} {env : Env} {V : Str → Option Value} {ms : List (Addr × Obj)}
theorem names_comp {n : Nat} {l : Addr} {vs : List Value} {binds : List (Str × Ex)} {iter : PySem.Expr} {p p1 p2 p3 pos : Pos} {k : Nat} {scope : Scope} {Q : Value → Shared → Prop} (hh : A.handled = none) (S : St c H env V ms s.heap) (Z : CompScopeB env scope ["name", "value"]) (hl : ListH H l vs) (hb : BindsAt H n vs binds) (hsz : vs.length ≤ 10000)
    (hiter : ∀ (Q : Value → Shared → Prop) (E : Value → Shared → Prop), (∀ tk, Q (.ref l) (uT s tk)) → wpAny (model prog w) A (eval iter env) Q E s)
    (h : ∀ D ep ys H' h' tk', H.le H' → St c H' env V ((D, lsO ys ep) :: ms) h' → StrsAre ys (binds.map (·.1)) → D ∉ c.X → Q (.ref D) (uP s h' tk'))
    (hs : ∀ x, foldedSetIterable iter env x = pure x := by intro _; rfl) :
    wpAny (model prog w) A (eval (.ListComp (.Name "name" p) [⟨.Tuple [.Name "name" p1, .Name "value" p2] k p3, iter, [], 0⟩] scope pos) env) Q E s := by
  refine lc hh S Z (fun i H' ys ms' => ms' = ms ∧ StrsAre ys ((binds.take i).map fun q : Str × Ex => q.1)) (fun _ _ _ _ _ _ h => h) (hiter _ _ fun tk => ?_) hs
  refine it_pairs (s := uT s tk) hh S hl (BindsAt.pairs hb) fun it h₂ hF => ?_
  refine absG fun gG hgG => ?_
  obtain ⟨J, os, W, j0, S₂, hX⟩ := hF "name" "value" p1 p2 p3 k
  refine hgG ?_; clear hgG
  refine ⟨_, J, _, H, V, ms, os, W, le_line hsz, j0, S₂, hX, ⟨rfl, .nil⟩, ?_, ?_⟩
  · intro i bs T cenv H' ys ms' h' tk' E' hi rI11 le rI13 S' hsc view
    refine absG fun gG hgG => ?_
    obtain ⟨u, z, rfl, q, tq, hq, rfl, hT⟩ := rI11
    obtain ⟨rfl, hy⟩ := rI13
    refine hgG ?_; clear hgG
    refine tests_nil ⟨H', ms', h', tk', rfl, .refl _, S', ?_⟩
    unfold LcK
    rw [if_pos rfl]
    refine ev_var (s := uP s h' tk') (view _ _ _ S') rfl ⟨H', ms', h', tk', rfl, .refl _, S', rfl, ?_⟩ (.inl (lk hsc (lookup_relabel_local (Z.var "name" (.head _)))))
    rw [List.take_add_one, hq, List.map_append]
    exact strs_append hy (.cons q.1 tq .nil)
  · intro D ep ys H' ms' h' tk' le rI8 S' DX
    refine absG fun gG hgG => ?_
    obtain ⟨rfl, hy⟩ := rI8
    refine hgG ?_; clear hgG
    have e : vs.length = binds.length := hb.len
    rw [e, List.take_length] at hy
    exact h D ep ys H' h' tk' le S' hy DX
end
theorem bindStep_more {nd : Ex → Option (List Str)} (x : Bs) (name : Str) : (bindStep nd x name).wait.length + (if (bindStep nd x name).more then 1 else 0) ≤ x.wait.length + (if x.more then 1 else 0) := by
  unfold bindStep
  split
  · rename_i e ks he hn
    split
    · have hm := mem_of_lookup he
      have h3 : (x.wait.filter fun p => !(p.1 == name)).length + 1 ≤ x.wait.length := by
        have := (List.length_filter_lt_length_iff_exists (p := fun p : Str × Ex => !(p.1 == name))).mpr ⟨(name, e), hm, by simp⟩
        lia
      show (x.wait.filter fun p => !(p.1 == name)).length + (if true = true then 1 else 0) ≤ _
      rw [if_pos rfl]
      lia
    · exact Nat.le_refl _
  · exact Nat.le_refl _
theorem bindFold_more {nd : Ex → Option (List Str)} : ∀ (known : List Str) (x : Bs), (known.foldl (bindStep nd) x).wait.length + (if (known.foldl (bindStep nd) x).more then 1 else 0) ≤ x.wait.length + (if x.more then 1 else 0)
  | [], _ => Nat.le_refl _
  | k :: r, x => Nat.le_trans (bindFold_more r (bindStep nd x k)) (bindStep_more x k)
theorem bindPass_more {nd : Ex → Option (List Str)} (known : List Str) (x : Bs) : (bindPass nd known x).wait.length + (if (bindPass nd known x).more then 1 else 0) ≤ x.wait.length := by
  have := bindFold_more (nd := nd) known { x with more := false }
  unfold bindPass
  simp only [Bool.false_eq_true, if_false, Nat.add_zero] at this
  exact this
noncomputable def WI (prog : Program) (w : World) (n : Nat) (binds : List (Str × Ex)) (de D W : Addr) (H : KH) (V : Str → Option Value) (ms : List (Addr × Obj)) (x : Bs) : Prop :=
  An8 (V "env" = some (.ref de)) (V "known" = some (.ref D)) (V "waiting" = some (.ref W)) (V "is_more" = some (.bool x.more)) (∃ nv, V "needs" = some nv ∧ NeedsH prog w H nv x.needs) (∃ oW kvs, ms = [(W, oW)] ∧ OwnD prog w oW kvs ∧ WaitAt H n kvs x.wait)
  (∀ p ∈ x.wait, p ∈ binds) (lenF x.needs + x.wait.length * 4 ^ n ≤ 3 * 4 ^ n)
theorem WI.le {prog : Program} {w : World} {n : Nat} {binds : List (Str × Ex)} {de D W : Addr} {H H' : KH} {V : Str → Option Value} {ms : List (Addr × Obj)} {x : Bs} (l : H.le H') (h : WI prog w n binds de D W H V ms x) : WI prog w n binds de D W H' V ms x :=
  let ⟨a, b, c, d, ⟨nv, e1, e2⟩, ⟨oW, kvs, f1, f2, f3⟩, g, g2⟩ := h
  ⟨a, b, c, d, ⟨nv, e1, e2.le l⟩, ⟨oW, kvs, f1, f2, f3.le l⟩, g, g2⟩
theorem waitLen {H : KH} {n : Nat} {kvs : List (Str × Value)} {wait : List (Str × Ex)} (x : WaitAt H n kvs wait) : kvs.length = wait.length := All2.len x
section
variable {prog : Program} {w : World} {A : Around} {H0 H : KH}
theorem with_binds_spec {n : Nat} {a l di do_ : Addr} {nv : Value} {fs : List (Str × Value)} {r : Bool} {vs : List Value} {binds : List (Str × Ex)} {b : Ex} (B : Base (KW w) H0) (IH : NeededAt prog w H0 n) (l0 : H0.le H) (hn5 : n ≤ 4) (R : Room A (10 * n + 12)) (I : Inst H 227 a fs) (h1 : (("binds" : Str), Value.ref l) ∈ fs) (h2 : (("is_rec" : Str), Value.bool r) ∈ fs)
    (hl : ListH H l vs) (hb : BindsAt H n vs binds) (hlen2 : binds.length ≤ 2) (hnd : (binds.map (·.1)).Nodup) (hFb : ∀ p ∈ binds, Few n p.2) (hFb0 : Few n b) (hdi : DictH prog w H di []) (hdo : DictH prog w H do_ []) (hN : NeedsH prog w H nv (needF n b)) :
    Pure prog w A H 490 [nv, .ref a, .ref di, .ref do_] (fun H' rv => NeedsH prog w H' rv (letF (needF n) binds b)) := by
  intro s E Q kn hQ
  refine call_fn (ms := []) (binds := [("needs", nv), ("expr", .ref a), ("inner", .ref di), ("outer", .ref do_)]) B l0 kn (fun _ h => nomatch h) .nil R.depth rfl rfl rfl rfl rfl rfl rfl ?_
  intro Lc h₁ tk S
  have R' : ∀ env, Room (A.deeper env) (10 * n + 11) := fun _ => R.deeper
  have b4 := four_le (n := n) (by first | decide | lia)
  have hwl : ∀ p ∈ binds, lenF (needF n p.2) ≤ 4 ^ n := fun p hp => needF_len n p.2 (hFb p hp)
  have hbl := needF_len n b hFb0
  have hvl : vs.length = binds.length := hb.len
  obtain ⟨de, hde, hdeD⟩ : ∃ de, de = (if r then di else do_) ∧ DictH prog w H de [] := by
    cases r
    · exact ⟨_, rfl, hdo⟩
    · exact ⟨_, rfl, hdi⟩
  refine xs (mid (s := uP s h₁ tk) S (fun H3 V3 ms3 => V3 "needs" = some nv ∧ V3 "expr" = some (.ref a) ∧ V3 "env" = some (.ref de) ∧ ms3 = []) ?_ ?_)
  · refine wpAny_Assign_Name (wpAny_IfExp (wpAny_isTrue_value (ev_attr (s := uP s h₁ tk) B S.toRs rfl (by walk_at "VK") I (by walk_at "AT") h2 rfl fun tk' => wpAny_truthy_bool ?_) rfl))
    cases r with
    | true => subst hde; exact ev_var (s := uP s h₁ tk') S.toRs rfl (St.store (s := uP s h₁ tk') S (by walk_at "VK") fun h₂ tk₂ S₂ => ⟨rfl, _, _, _, h₂, tk₂, rfl, .refl _, S₂, rfl, rfl, rfl, rfl⟩) (by walk_at "VK")
    | false => subst hde; exact ev_var (s := uP s h₁ tk') S.toRs rfl (St.store (s := uP s h₁ tk') S (by walk_at "VK") fun h₂ tk₂ S₂ => ⟨rfl, _, _, _, h₂, tk₂, rfl, .refl _, S₂, rfl, rfl, rfl, rfl⟩) (by walk_at "VK")
  intro H₂ V₂ ms₂ h₂ tk₂ le₂ S₂ rI7
  refine absG fun gG hgG => ?_
  obtain ⟨v1, v2, v3, rfl⟩ := rI7
  refine hgG ?_; clear hgG
  refine absG fun gG hgG => ?_
  obtain ⟨kvs, hw1, hw2, hw3⟩ := BindsAt.wait (hb.le le₂)
  refine hgG ?_; clear hgG
  have hkl : kvs.length = binds.length := by rw [← List.length_map (f := fun q : Str × Value => q.1), ← List.length_map (f := fun q : Str × Ex => q.1)]; exact congrArg List.length hw2
  refine xs ?_
  refine asg2 ?_ ?_ ?_ ?_
  case refine_1 => exact R.hd
  case refine_3 => exact .inl rfl
  case refine_4 => exact .inl rfl
  refine ev_callT (s := uP s h₂ tk₂) B S₂.toRs rfl rfl rfl (wpAny_items_cons (ev_attr B S₂.toRs v2 (by walk_at "VK") (I.le le₂) (by walk_at "AT") h1 rfl fun tk' => wpAny_items_nil ?_))
  obtain ⟨epl, hel⟩ := hl.le le₂
  refine call_dict_pairs (s := uP s h₂ tk') (by exact R.hd) (S₂.kn _ _ hel) (hw3 _ S₂.kn) (by rw [hw2]; exact hnd) (le_line (by first | decide | lia)) fun W oW h₃ tk₃ up₃ frW eW oWd => ?_
  have S₃ := S₂.new up₃ frW eW
  have WX := S₂.notX frW
  have Wm := S₂.toRs.noMod B frW
  refine names_comp (s := uP s h₃ tk₃) R.hd S₃ (.of rfl) (hl.le le₂) (hb.le le₂) (by first | decide | lia) (fun Q' E' hq => ev_attr (s := uP s h₃ tk₃) B S₃.toRs v2 (by walk_at "VK") (I.le le₂) (by walk_at "AT") h1 rfl fun tk' => hq tk') fun D ep ys H₄ h₄ tk₄ le₄ S₄ hys DX => ?_
  refine ⟨_, H₄, _, _, S₄, fun h₅ tk₅ S₅ => ?_⟩
  have S₆ := S₅.freeze DX
  have l6 := addH_le (o := lsO ys ep) (S₅.mu _ (.head _)).2.1
  have l26 : H.le (addH H₄ D (lsO ys ep)) := (le₂.trans le₄).trans l6
  have hknown : ListH (addH H₄ D (lsO ys ep)) D ys := ⟨ep, addH_self⟩
  generalize addH H₄ D (lsO ys ep) = H₆ at *
  refine xs (wpAny_Assign_Name (wpAny_Constant_bool ?_))
  refine St.store (s := uP s h₅ tk₅) S₆ (by walk_at "VK") fun h₇ tk₇ S₇ => ?_
  have hnames : binds.map (·.1) = binds.map (fun q : Str × Ex => q.1) := rfl
  generalize hF : bindLoop (needF n) (binds.map (·.1)) (binds.length + 2) ⟨needF n b, binds, true⟩ = F
  have hQ' : ∀ (v : Value) (H' : KH) (h' : Heap) (tk : Nat), Grow H s.heap H' h' → NeedsH prog w H' v (withoutF F.needs (binds.map (·.1))) → Q v (uP s h' tk) := by
    intro v H' h' tk G hn
    refine hQ v H' h' tk G ?_
    show NeedsH prog w H' v (withoutF (bindLoop (needF n) (binds.map (·.1)) (binds.length + 2) ⟨needF n b, binds, true⟩).needs (binds.map (·.1)))
    rw [hF]; exact hn
  refine xs (wpAny_While (codeAny_whileLoop (fun m s' => Ex7 fun x k H' V' ms' h' tk' => An7 (s' = (uP s h' tk')) (H₆.le H') (St ⟨H0, H, s.heap, []⟩ H' _ V' ms' h') (WI prog w n binds de D W H' V' ms' x) (m = k) (x.wait.length + (if x.more then 2 else 1) ≤ k) (bindLoop (needF n) (binds.map (·.1)) k x = F)) ?_ (binds.length + 2)
    ⟨⟨needF n b, binds, true⟩, binds.length + 2, H₆, _, _, h₇, tk₇, rfl, .refl _, S₇, ⟨v3, rfl, rfl, rfl, ⟨nv, v1, hN.le l26⟩, ⟨oW, kvs, rfl, oWd, (hw1.le le₄).le l6⟩, fun p hp => hp, ?_⟩, rfl, Nat.le_refl _, hF⟩))
  · intro m s' rI2
    refine absG fun gG hgG => ?_
    obtain ⟨x, k, H', V', ms', h', tk', rfl, le', S', WIx, rfl, hk, hF'⟩ := rI2
    refine hgG ?_; clear hgG
    refine absG fun gG hgG => ?_
    obtain ⟨w1, w2, w3, w4, ⟨nv', w5, w6⟩, ⟨oW', kvs', rfl, w7, w8⟩, w9, w10⟩ := id WIx
    refine hgG ?_; clear hgG
    obtain ⟨k', rfl⟩ : ∃ k', m = k' + 1 := ⟨m - 1, by split at hk <;> lia⟩
    have fin : x.needs = none ∨ x.more = false → F = x := fun hor => by
      rw [← hF']
      unfold bindLoop
      cases hxn : x.needs with
      | none => rfl
      | some ks =>
        have : x.more = false := hor.resolve_left (by rw [hxn]; exact nofun)
        simp [this]
    have lH' := l26.trans le'
    cases hxn : x.needs with
    | none =>
      rw [hxn] at w6
      cases w6
      refine wpAny_isTrue_BoolOp (wpAny_allTrue_And_cons (t_notNone (s := uP s h' tk') S'.toRs w5 (by walk_at "VK") ?_))
      refine wpAny_execs_nil (xs (wpAny_Return_some ?_))
      refine ev_callK (s := uP s h' tk') B S'.toRs rfl rfl rfl (wpAny_items_cons (ev_var (s := uP s h' tk') S'.toRs w5 (wpAny_items_cons (ev_var (s := uP s h' tk') S'.toRs w2 (wpAny_items_nil ⟨S'.inK B, ?_⟩) (by walk_at "VK"))) (by walk_at "VK")))
      refine without_spec B S'.b0 ((R' _).mo) (n := none) rfl ⟨D, ys, rfl, hknown.le le', hys⟩ (Nat.zero_le _) _ _ _ S'.kn fun rv H₈ h₈ tk₈ G₈ hr => ?_
      refine hQ' _ _ _ _ ((S'.grow G₈).drop (by simp)).post.grow ?_
      rw [fin (.inl hxn), hxn]; exact hr
    | some ks =>
      rw [hxn] at w6
      obtain ⟨dk, rfl, Dk⟩ := w6
      refine wpAny_isTrue_BoolOp (wpAny_allTrue_And_cons (t_notNone (s := uP s h' tk') S'.toRs w5 (by walk_at "VK") ?_))
      refine wpAny_allTrue_And_cons (wpAny_isTrue_value (ev_var (s := uP s h' tk') S'.toRs w4 (wpAny_truthy_bool ?_) (by walk_at "VK")) rfl)
      cases hxm : x.more with
      | false =>
        refine wpAny_execs_nil (xs (wpAny_Return_some ?_))
        refine ev_callK (s := uP s h' tk') B S'.toRs rfl rfl rfl (wpAny_items_cons (ev_var (s := uP s h' tk') S'.toRs w5 (wpAny_items_cons (ev_var (s := uP s h' tk') S'.toRs w2 (wpAny_items_nil ⟨S'.inK B, ?_⟩) (by walk_at "VK"))) (by walk_at "VK")))
        refine without_spec B S'.b0 ((R' _).mo) (n := some ks) ⟨dk, rfl, Dk⟩ ⟨D, ys, rfl, hknown.le le', hys⟩ (by rw [hxn] at w10; lia) _ _ _ S'.kn fun rv H₈ h₈ tk₈ G₈ hr => ?_
        refine hQ' _ _ _ _ ((S'.grow G₈).drop (by simp)).post.grow ?_
        rw [fin (.inr hxm), hxn]; exact hr
      | true =>
        refine wpAny_allTrue_And_nil ?_
        refine xs (wpAny_Assign_Name (wpAny_Constant_bool ?_))
        refine St.store (s := uP s h' tk') S' (by walk_at "VK") fun h₈ tk₈ S₈ => ?_
        have hpm := bindPass_more (nd := needF n) (binds.map (·.1)) x
        have hbl1 : bindLoop (needF n) (binds.map (·.1)) k' (bindPass (needF n) (binds.map (·.1)) x) = F := by
          rw [← hF']
          conv => rhs; unfold bindLoop
          rw [hxn]
          simp [hxm]
        refine xs ?_
        refine for_it (c := ⟨H0, H, s.heap, []⟩) R.hd (fun i H' V' ms' => WI prog w n binds de D W H' V' ms' (((binds.map fun q : Str × Ex => q.1).take i).foldl (bindStep (needF n)) { x with more := false })) ?_ (fun H1 H2 i V' ms' l h => h.le l)
        refine ev_var (s := uP s h₈ tk₈) S₈.toRs w2 ?_ (by walk_at "VK")
        refine it_list (s := uP s h₈ tk₈) R.hd S₈ (hknown.le le') fun it h₉ hFr => ?_
        obtain ⟨J, os, Wk, j0, S₉, hX⟩ := hFr "name" _
        refine ⟨_, J, _, H', _, _, os, Wk, j0, S₉, hX, ⟨w1, w2, w3, rfl, ⟨_, w5, by show NeedsH prog w H' (.ref dk) x.needs; rw [hxn]; exact ⟨dk, rfl, Dk⟩⟩, ⟨oW', kvs', rfl, w7, w8⟩, w9, w10⟩, ?_, ?_⟩
        · intro i bs os' H1 V1 ms1 h1' tk1 hi rI9 le1 hX1 WI1 S1
          refine absG fun gG hgG => ?_
          obtain ⟨u, rfl, hu⟩ := rI9
          refine hgG ?_; clear hgG
          refine absG fun gG hgG => ?_
          obtain ⟨name, tn, hname, rfl⟩ := strsAt hys hu
          refine hgG ?_; clear hgG
          have step := foldl_take_succ (bindStep (needF n)) { x with more := false } (binds.map fun q : Str × Ex => q.1) i name hname
          generalize ((binds.map fun q : Str × Ex => q.1).take i).foldl (bindStep (needF n)) { x with more := false } = y at WI1 step
          rw [step]
          refine absG fun gG hgG => ?_
          obtain ⟨u1, u2, u3, u4, ⟨nv1, u5, u6⟩, ⟨oW1, kv1, rfl, u7, u8⟩, u9, u10⟩ := id WI1
          refine hgG ?_; clear hgG
          have lH1 := lH'.trans le1
          have j1 : (bindV [("name", Value.str name tn)] V1) "env" = some (.ref de) := u1
          have j3 : (bindV [("name", Value.str name tn)] V1) "waiting" = some (.ref W) := u3
          have j5 : (bindV [("name", Value.str name tn)] V1) "needs" = some nv1 := u5
          have keepWI : WI prog w n binds de D W H1 (bindV [("name", Value.str name tn)] V1) [(W, oW1)] y := ⟨u1, u2, u3, u4, ⟨nv1, u5, u6⟩, ⟨oW1, kv1, rfl, u7, u8⟩, u9, u10⟩
          have hDW : h1'.DictOf (strKind prog w) W kv1 := Heap.dictOf_iff.mpr ⟨oW1, (S1.mu _ (.head _)).1, u7⟩
          have hwlen := waitLen u8
          have hsame : (y.wait.lookup name = none ∨ ∀ ks, y.needs = some ks → name ∉ ks) → bindStep (needF n) y name = y := fun hor => by
            unfold bindStep
            cases hl1 : y.wait.lookup name with
            | none => rfl
            | some e =>
              cases hn1 : y.needs with
              | none => rfl
              | some ks =>
                have := (hor.resolve_left (by rw [hl1]; exact nofun)) ks hn1
                simp [this]
          refine xs (xif (wpAny_isTrue_BoolOp ?_))
          refine wpAny_allTrue_And_cons (wpAny_isTrue_Compare1 (ev_var (s := uP s h1' tk1) S1.toRs rfl (ev_var (s := uP s h1' tk1) S1.toRs j3 ?_ (by walk_at "VK")) (by walk_at "VK")) rfl)
          refine wpAny_in_of (knd := PySem.strKind prog w) (k := name) (strKind_is prog w name tn) (beq_eq_false_iff_ne.mpr Wm) hDW.mapOf (wpAny_truthy_bool ?_)
          cases hl1 : y.wait.lookup name with
          | none =>
            rw [u8.at_none hl1]
            refine wpAny_execs_nil (wpAny_execs_nil ⟨H1, _, _, h1', _, rfl, .refl _, S1, ?_⟩)
            rw [hsame (.inl hl1)]
            exact keepWI
          | some e =>
            obtain ⟨ve, hve, hTe⟩ := u8.at_some hl1
            rw [hve]
            refine wpAny_allTrue_And_cons (t_notNone (s := uP s h1' _) S1.toRs j5 (by walk_at "VK") ?_)
            cases hn1 : y.needs with
            | none =>
              rw [hn1] at u6
              cases u6
              refine wpAny_execs_nil (wpAny_execs_nil ⟨H1, _, _, h1', _, rfl, .refl _, S1, ?_⟩)
              rw [hsame (.inr fun ks hks => by rw [hn1] at hks; cases hks)]
              exact keepWI
            | some ks1 =>
              rw [hn1] at u6
              obtain ⟨dk1, rfl, Dk1⟩ := u6
              refine wpAny_allTrue_And_cons (wpAny_isTrue_Compare1 (ev_var (s := uP s h1' _) S1.toRs rfl (ev_var (s := uP s h1' _) S1.toRs j5 (in_dictT (s := uP s h1' _) Dk1 S1.kn fun tk2 => wpAny_truthy_bool ?_) (by walk_at "VK")) (by walk_at "VK")) rfl)
              by_cases hk1 : name ∈ ks1
              · rw [decide_eq_true hk1]
                refine wpAny_allTrue_And_nil ?_
                have hem := mem_of_lookup hl1
                have heb := u9 _ hem
                have hFe : Few n e := hFb _ heb
                have hel : lenF (needF n e) ≤ 4 ^ n := hwl _ heb
                have hstep : bindStep (needF n) y name = ⟨bothF (some ks1) (needF n e), y.wait.filter (fun p => !(p.1 == name)), true⟩ := by
                  unfold bindStep
                  rw [hl1, hn1]
                  simp [hk1]
                have hsl := bindStep_len (nd := needF n) (b := 4 ^ n) y name fun p hp => hwl _ (u9 p hp)
                have hkv1 : kv1.length ≤ 10000 := by
                  have h6 : y.wait.length * 4 ^ n ≤ 3 * 4 ^ n := Nat.le_trans (Nat.le_add_left _ _) u10
                  have := Nat.le_of_mul_le_mul_right h6 (Nat.pos_of_ne_zero (by simp))
                  lia
                refine xs (wpAny_Assign_Name ?_)
                refine ev_callK (s := uP s h1' tk2) B S1.toRs rfl rfl rfl (wpAny_items_cons (ev_var (s := uP s h1' tk2) S1.toRs j5 (wpAny_items_cons ?_) (by walk_at "VK")))
                refine ev_callK (s := uP s h1' tk2) B S1.toRs rfl rfl rfl (wpAny_items_cons ?_)
                refine wpAny_Call_method1_late rfl rfl rfl (ev_var (s := uP s h1' tk2) S1.toRs j3 (meth_pop (s := uP s h1' tk2) S1 u7 hve hkv1 (ev_var (s := uP s h1' tk2) S1.toRs rfl ⟨tn, rfl, rfl, fun o2 h2 tk3 S2 od2 => ?_⟩ (by walk_at "VK"))) (by walk_at "VK"))
                refine wpAny_items_cons (ev_var (s := uP s h2 tk3) S2.toRs j1 (wpAny_items_nil ⟨S2.inK B, ?_⟩) (by walk_at "VK"))
                refine IH _ H1 ve e de (l0.trans lH1) ((R' _).mo) hTe hFe (hdeD.le lH1) _ _ _ S2.kn fun rv H3 h3 tk4 G3 hr => wpAny_items_nil ⟨(S2.grow G3).inK B, ?_⟩
                have S3 := S2.grow G3
                have hks1 : lenF (some ks1) ≤ 3 * 4 ^ n := by rw [← hn1]; lia
                refine both_spec B S3.b0 ((R' _).mo) (n1 := some ks1) ⟨dk1, rfl, Dk1.le G3.le⟩ hr (by first | decide | lia) _ _ _ S3.kn fun rv2 H4 h4 tk5 G4 hr4 => ?_
                have S4 := S3.grow G4
                refine St.store (s := uP s h4 tk5) S4 (by walk_at "VK") fun h5 tk6 S5 => ?_
                refine xs (wpAny_Assign_Name (wpAny_Constant_bool ?_))
                refine St.store (s := uP s h5 tk6) S5 (by walk_at "VK") fun h6 tk7 S6 => ?_
                have l34 := G3.le.trans G4.le
                refine wpAny_execs_nil (wpAny_execs_nil ⟨H4, _, [(W, o2)], h6, tk7, rfl, l34, S6, ?_⟩)
                rw [hstep] at hsl ⊢
                exact ⟨u1, u2, u3, rfl, ⟨rv2, rfl, hr4⟩, ⟨o2, _, rfl, od2, (u8.drop name).le l34⟩, fun p hp => u9 p (hsl.2 p hp), Nat.le_trans hsl.1 u10⟩
              · rw [decide_eq_false hk1]
                refine wpAny_execs_nil (wpAny_execs_nil ⟨H1, _, _, h1', _, rfl, .refl _, S1, ?_⟩)
                rw [hsame (.inr fun ks hks => by rw [hn1] at hks; cases hks; exact hk1)]
                exact keepWI
        · rintro H1 V1 ms1 h1' tk1 le1 WI1 S1'
          have eL : ys.length = (binds.map (·.1)).length := strsLen hys
          rw [eL, List.take_length] at WI1
          refine wpAny_execs_nil ⟨k', Nat.lt_succ_self _, _, k', H1, V1, ms1, h1', tk1, rfl, le'.trans le1, S1', WI1, rfl, ?_, hbl1⟩
          show (bindPass (needF n) (binds.map (·.1)) x).wait.length + (if (bindPass (needF n) (binds.map (·.1)) x).more then 2 else 1) ≤ k'
          rw [hxm, if_pos rfl] at hk
          revert hpm
          cases (bindPass (needF n) (binds.map (·.1)) x).more
          · simp; lia
          · simp; lia
  · have h5 : binds.length * 4 ^ n ≤ 2 * 4 ^ n := Nat.mul_le_mul_right _ hlen2
    show lenF (needF n b) + binds.length * 4 ^ n ≤ 3 * 4 ^ n
    lia
end
end Mine
end
section
open PySem PySem.W PyProof.Rows PySem.Calls
set_option maxRecDepth 10000
set_option linter.unusedVariables false
namespace Mine
section
variable {prog : Program} {w : World} {A : Around} {H0 H : KH}
theorem let_spec {n : Nat} {v : Value} {binds : List (Str × Ex)} {b : Ex} {r : Bool} {d : Addr} (B : Base (KW w) H0) (IH : NeededAt prog w H0 n) (l0 : H0.le H) (hn5 : n ≤ 4) (R : Room A (10 * n + 13)) (hT : TreeAt H (n + 1) v (.let_ binds b r)) (hF : Few (n + 1) (.let_ binds b r)) (hd : DictH prog w H d []) :
    Pure prog w A H 497 [v, .ref d] (fun H' r' => NeedsH prog w H' r' (needF (n + 1) (.let_ binds b r))) := by
  intro s E Q kn hQ
  obtain ⟨a, l, vs, vb, rfl, I, L, hb, hTb⟩ := hT
  obtain ⟨hF1, hF2, hF3, hF4⟩ := hF
  have hb' : BindsAt H n vs binds := hb
  refine call_fn (ms := []) (binds := [("expr", .ref a), ("env", .ref d)]) B l0 kn (fun _ h => nomatch h) .nil R.depth rfl rfl rfl rfl rfl rfl rfl ?_
  intro Lc h₁ tk S
  have R' : ∀ env, Room (A.deeper env) (10 * n + 12) := fun _ => R.deeper
  obtain ⟨ab, lb, rfl, _⟩ := hTb.inst
  refine xs (wpAny_Assign_Name (ev_callK (s := uP s h₁ tk) B S.toRs rfl rfl rfl (wpAny_items_cons (ev_var (s := uP s h₁ tk) S.toRs rfl (wpAny_items_cons (ev_var (s := uP s h₁ tk) S.toRs rfl (wpAny_items_nil ⟨S.inK B, ?_⟩) (by walk_at "VK"))) (by walk_at "VK")))))
  refine bound_env_spec B l0 ((R' _).mo) I (by walk_at "MEM") (by walk_at "MEM") L hb' hd _ _ _ S.kn fun iv H₂ h₂ tk₂ G₂ ⟨di, e, hdi⟩ => ?_
  subst e
  have S₂ := S.grow G₂
  refine St.store (s := uP s h₂ tk₂) S₂ (by walk_at "VK") fun h₃ tk₃ S₃ => ?_
  refine xs (wpAny_Return_some (ev_callK (s := uP s h₃ tk₃) B S₃.toRs rfl rfl rfl (wpAny_items_cons ?_)))
  refine ev_callK (s := uP s h₃ tk₃) B S₃.toRs rfl rfl rfl (wpAny_items_cons (ev_attr B S₃.toRs rfl (by walk_at "VK") (I.le G₂.le) (by walk_at "AT") (by walk_at "MEM") rfl fun tk' => wpAny_items_cons (ev_var (s := uP s h₃ tk') S₃.toRs rfl (wpAny_items_nil ⟨S₃.inK B, ?_⟩) (by walk_at "VK"))))
  refine IH _ H₂ _ b di S₃.b0 ((R' _).mo) (hTb.le G₂.le) hF4 hdi _ _ _ S₃.kn fun nv H₄ h₄ tk₄ G₄ hn => ?_
  have S₄ := S₃.grow G₄
  have l4 := G₂.le.trans G₄.le
  refine wpAny_items_cons (ev_var (s := uP s h₄ tk₄) S₄.toRs rfl (wpAny_items_cons (ev_var (s := uP s h₄ tk₄) S₄.toRs rfl (wpAny_items_cons (ev_var (s := uP s h₄ tk₄) S₄.toRs rfl (wpAny_items_nil ⟨S₄.inK B, ?_⟩) (by walk_at "VK"))) (by walk_at "VK"))) (by walk_at "VK"))
  refine with_binds_spec B IH S₄.b0 hn5 ((R' _).mo) (I.le l4) (by walk_at "MEM") (by walk_at "MEM") (L.le l4) (hb'.le l4) hF1 hF2 hF3 hF4 (hdi.le G₄.le) (hd.le l4) hn _ _ _ S₄.kn fun rv H₅ h₅ tk₅ G₅ hr => ?_
  exact hQ _ _ _ _ (S₄.grow G₅).post.grow hr
variable {E : Value → Shared → Prop} {s : Shared} {env : Env} {V : Str → Option Value}
theorem t_isi3 {C a D1 D2 D3 : Addr} {l : List (Str × Value)} {x n1 n2 n3 : Str} {p p1 p2 p3 p4 p5 pos : Pos} {k : Nat} {Q : Bool → Shared → Prop} {c : Cx} {ms : List (Addr × Obj)} (B : Base (KW w) c.H0) (S : St c H env V ms s.heap) (hf : env.kindOf "isinstance" = some .globalImplicit) (hx : V x = some (.ref a)) (hk : env.kindOf x = some .local ∨ env.kindOf x = some .cell) (I : Inst H C a l)
    (hC : C ∈ nodes) (hD : ∀ D ∈ [D1, D2, D3], D ∈ nodes) (hn1 : nsIn (KW w) mainGlobals n1 = some (some (.ref D1))) (hn2 : nsIn (KW w) mainGlobals n2 = some (some (.ref D2))) (hn3 : nsIn (KW w) mainGlobals n3 = some (some (.ref D3)))
    (k1 : env.kindOf n1 = some .globalImplicit) (k2 : env.kindOf n2 = some .globalImplicit) (k3 : env.kindOf n3 = some .globalImplicit) (h : ∀ h' tk, Up s.heap h' → St c H env V ms h' → Q (C == D1 || (C == D2 || (C == D3 || false))) (uP s h' tk))
    (e0 : nsIn (KW w) mainGlobals "isinstance" = some none := by rfl) (e1 : bootBuiltins "isinstance" = some (.builtin "isinstance") := by rfl) (hd : (x == ("__debug__" : Str)) = false := by decide) (d1 : (n1 == ("__debug__" : Str)) = false := by decide) (d2 : (n2 == ("__debug__" : Str)) = false := by decide) (d3 : (n3 == ("__debug__" : Str)) = false := by decide) :
    wpAny (model prog w) A (isTrue (.Call (.Name "isinstance" p) [.Name x p1, .Tuple [.Name n1 p2, .Name n2 p3, .Name n3 p4] k p5] [] pos) env (eval (.Call (.Name "isinstance" p) [.Name x p1, .Tuple [.Name n1 p2, .Name n2 p3, .Name n3 p4] k p5] [] pos) env)) Q E s := by
  refine wpAny_isTrue_value (ev_callB B S.toRs e0 e1 hf (wpAny_items_cons (ev_var S.toRs hx (wpAny_items_cons ?_) hk hd))) rfl
  refine Tuple_ (wpAny_items_cons (ev_glob B S.toRs hn1 (wpAny_items_cons (ev_glob B S.toRs hn2 (wpAny_items_cons (ev_glob B S.toRs hn3 (wpAny_items_nil ?_) k3 d3)) k2 d2)) k1 d1))
  refine wpAny_newObj_type (wpAny_items_nil ?_) (by show ([.ref D1, .ref D2, .ref D3] : List Value).toArray.size ≤ sizeLine; rw [List.size_toArray, sizeLine_eq]; simp)
  have up := Up.push s.heap { cls := .type "tuple", dict := none, data := .seq ([.ref D1, .ref D2, .ref D3] : List Value).toArray }
  have S₁ := S.up up
  refine isi_tup (s := { s with heap := s.heap.push _ }) (S₁.inK B) S₁.kn I (own_ok hC) (Heap.get?_push_size _ rfl) (isi_any (Ds := [D1, D2, D3]) hC hD) fun tk => wpAny_truthy_bool (h _ tk up S₁)
end
end Mine
end
section
open PySem PySem.W PyProof.Rows PySem.Calls
set_option maxRecDepth 10000
set_option linter.unusedVariables false
namespace Mine
section
variable {prog : Program} {w : World} {A : Around} {H0 H : KH}
set_option maxHeartbeats 4000000 in
theorem needed_step {n : Nat} (B : Base (KW w) H0) (IH : NeededAt prog w H0 n) (hn5 : n ≤ 4) : NeededAt prog w H0 (n + 1) := by
  intro A H v e d l0 R hT hF hd s E Q kn hQ
  refine absG fun gG hgG => ?_
  obtain ⟨a, fl, rfl, I⟩ := hT.inst
  refine hgG ?_; clear hgG
  refine call_fn (ms := []) (binds := [("expr", .ref a), ("env", .ref d)]) B l0 kn (fun _ h => nomatch h) .nil R.depth rfl rfl rfl rfl rfl rfl rfl ?_
  intro Lc h₁ tk S
  have R' : ∀ env, Room (A.deeper env) (10 * n + 13) := fun _ => (R.mo).deeper
  have hC := clsOf_node e
  refine xs (xif (t_isi (s := uP s h₁ tk) B S.toRs rfl rfl (by walk_at "VK") I hC (by walk_at "MEM") rfl rfl fun tk₁ => ?_))
  cases e with
  | var x =>
    refine absG fun gG hgG => ?_
    obtain ⟨a', t, e', I'⟩ := hT
    refine hgG ?_; clear hgG
    cases e'
    refine xs (wpAny_Return_some (dict_one (s := uP s h₁ tk₁) B S fun D o h₂ S₂ nm => ?_))
    refine ev_attr (s := uP s h₂ tk₁) B S₂.toRs rfl (by walk_at "VK") I' (by walk_at "AT") (by walk_at "MEM") rfl fun tk₃ => wpAny_Constant_bool ?_
    refine ⟨x, t, H, _, [], rfl, S₂, fun o' h₄ tk₄ S₄ od => ?_⟩
    exact hQ _ _ _ _ (S₄.freeze (by simp)).post.grow ⟨D, rfl, nm, o', addH_self, od⟩
  | lit =>
    refine wpAny_execs_nil (xs (xif (t_isi3 (s := uP s h₁ tk₁) B S rfl rfl (by walk_at "VK") I hC (by simp [nodes]) rfl rfl rfl rfl rfl rfl fun h₂ tk₂ up S₂ => ?_)))
    refine xs (wpAny_Return_some (dict_empty (s := uP s h₂ tk₂) B S₂ fun D o h₃ S₃ od nm _ => ?_))
    exact hQ _ _ _ _ (S₃.freeze (by simp)).post.grow ⟨D, rfl, nm, o, addH_self, od⟩
  | con =>
    refine wpAny_execs_nil (xs (xif (t_isi3 (s := uP s h₁ tk₁) B S rfl rfl (by walk_at "VK") I hC (by simp [nodes]) rfl rfl rfl rfl rfl rfl fun h₂ tk₂ up S₂ => ?_)))
    refine xs (wpAny_Return_some (dict_empty (s := uP s h₂ tk₂) B S₂ fun D o h₃ S₃ od nm _ => ?_))
    exact hQ _ _ _ _ (S₃.freeze (by simp)).post.grow ⟨D, rfl, nm, o, addH_self, od⟩
  | prim err args =>
    refine wpAny_execs_nil (xs (xif (t_isi3 (s := uP s h₁ tk₁) B S rfl rfl (by walk_at "VK") I hC (by simp [nodes]) rfl rfl rfl rfl rfl rfl fun h₂ tk₂ up S₂ => ?_)))
    refine wpAny_execs_nil (xs (xif (t_isi (s := uP s h₂ tk₂) B S₂.toRs rfl rfl (by walk_at "VK") I hC (by walk_at "MEM") rfl rfl fun tk₃ => ?_)))
    refine xs (wpAny_Return_some (ev_callK (s := uP s h₂ tk₃) B S₂.toRs rfl rfl rfl (wpAny_items_cons (ev_var (s := uP s h₂ tk₃) S₂.toRs rfl (wpAny_items_cons (ev_var (s := uP s h₂ tk₃) S₂.toRs rfl (wpAny_items_nil ⟨S₂.inK B, ?_⟩) (by walk_at "VK"))) (by walk_at "VK")))))
    refine prim_spec B IH l0 hn5 ((R' _).mo) hT hF hd _ _ _ S₂.kn fun rv H₄ h₄ tk₄ G₄ hr => ?_
    exact hQ _ _ _ _ (S₂.grow G₄).post.grow hr
  | appv f args =>
    refine wpAny_execs_nil (xs (xif (t_isi3 (s := uP s h₁ tk₁) B S rfl rfl (by walk_at "VK") I hC (by simp [nodes]) rfl rfl rfl rfl rfl rfl fun h₂ tk₂ up S₂ => ?_)))
    refine wpAny_execs_nil (xs (xif (t_isi (s := uP s h₂ tk₂) B S₂.toRs rfl rfl (by walk_at "VK") I hC (by walk_at "MEM") rfl rfl fun tk₃ => ?_)))
    refine wpAny_execs_nil (xs (xif (t_isi (s := uP s h₂ tk₃) B S₂.toRs rfl rfl (by walk_at "VK") I hC (by walk_at "MEM") rfl rfl fun tk₄ => ?_)))
    refine xs (wpAny_Return_some (ev_callK (s := uP s h₂ tk₄) B S₂.toRs rfl rfl rfl (wpAny_items_cons (ev_var (s := uP s h₂ tk₄) S₂.toRs rfl (wpAny_items_cons (ev_var (s := uP s h₂ tk₄) S₂.toRs rfl (wpAny_items_nil ⟨S₂.inK B, ?_⟩) (by walk_at "VK"))) (by walk_at "VK")))))
    refine appv_spec B l0 ((R' _).mo) hT hF hd _ _ _ S₂.kn fun rv H₄ h₄ tk₄ G₄ hr => ?_
    exact hQ _ _ _ _ (S₂.grow G₄).post.grow hr
  | appl ps b args =>
    refine wpAny_execs_nil (xs (xif (t_isi3 (s := uP s h₁ tk₁) B S rfl rfl (by walk_at "VK") I hC (by simp [nodes]) rfl rfl rfl rfl rfl rfl fun h₂ tk₂ up S₂ => ?_)))
    refine wpAny_execs_nil (xs (xif (t_isi (s := uP s h₂ tk₂) B S₂.toRs rfl rfl (by walk_at "VK") I hC (by walk_at "MEM") rfl rfl fun tk₃ => ?_)))
    refine wpAny_execs_nil (xs (xif (t_isi (s := uP s h₂ tk₃) B S₂.toRs rfl rfl (by walk_at "VK") I hC (by walk_at "MEM") rfl rfl fun tk₄ => ?_)))
    refine xs (wpAny_Return_some (ev_callK (s := uP s h₂ tk₄) B S₂.toRs rfl rfl rfl (wpAny_items_cons (ev_var (s := uP s h₂ tk₄) S₂.toRs rfl (wpAny_items_cons (ev_var (s := uP s h₂ tk₄) S₂.toRs rfl (wpAny_items_nil ⟨S₂.inK B, ?_⟩) (by walk_at "VK"))) (by walk_at "VK")))))
    refine appl_spec B IH l0 hn5 ((R' _).mo) hT hF hd _ _ _ S₂.kn fun rv H₄ h₄ tk₄ G₄ hr => ?_
    exact hQ _ _ _ _ (S₂.grow G₄).post.grow hr
  | case e cn alts o =>
    refine wpAny_execs_nil (xs (xif (t_isi3 (s := uP s h₁ tk₁) B S rfl rfl (by walk_at "VK") I hC (by simp [nodes]) rfl rfl rfl rfl rfl rfl fun h₂ tk₂ up S₂ => ?_)))
    refine wpAny_execs_nil (xs (xif (t_isi (s := uP s h₂ tk₂) B S₂.toRs rfl rfl (by walk_at "VK") I hC (by walk_at "MEM") rfl rfl fun tk₃ => ?_)))
    refine wpAny_execs_nil (xs (xif (t_isi (s := uP s h₂ tk₃) B S₂.toRs rfl rfl (by walk_at "VK") I hC (by walk_at "MEM") rfl rfl fun tk₄ => ?_)))
    refine wpAny_execs_nil (xs (xif (t_isi (s := uP s h₂ tk₄) B S₂.toRs rfl rfl (by walk_at "VK") I hC (by walk_at "MEM") rfl rfl fun tk₅ => ?_)))
    refine xs (wpAny_Return_some (ev_callK (s := uP s h₂ tk₅) B S₂.toRs rfl rfl rfl (wpAny_items_cons (ev_var (s := uP s h₂ tk₅) S₂.toRs rfl (wpAny_items_cons (ev_var (s := uP s h₂ tk₅) S₂.toRs rfl (wpAny_items_nil ⟨S₂.inK B, ?_⟩) (by walk_at "VK"))) (by walk_at "VK")))))
    refine case_spec B IH l0 hn5 ((R' _).mo) hT hF hd _ _ _ S₂.kn fun rv H₄ h₄ tk₄ G₄ hr => ?_
    exact hQ _ _ _ _ (S₂.grow G₄).post.grow hr
  | let_ binds b r =>
    refine wpAny_execs_nil (xs (xif (t_isi3 (s := uP s h₁ tk₁) B S rfl rfl (by walk_at "VK") I hC (by simp [nodes]) rfl rfl rfl rfl rfl rfl fun h₂ tk₂ up S₂ => ?_)))
    refine wpAny_execs_nil (xs (xif (t_isi (s := uP s h₂ tk₂) B S₂.toRs rfl rfl (by walk_at "VK") I hC (by walk_at "MEM") rfl rfl fun tk₃ => ?_)))
    refine wpAny_execs_nil (xs (xif (t_isi (s := uP s h₂ tk₃) B S₂.toRs rfl rfl (by walk_at "VK") I hC (by walk_at "MEM") rfl rfl fun tk₄ => ?_)))
    refine wpAny_execs_nil (xs (xif (t_isi (s := uP s h₂ tk₄) B S₂.toRs rfl rfl (by walk_at "VK") I hC (by walk_at "MEM") rfl rfl fun tk₅ => ?_)))
    refine wpAny_execs_nil (xs (wpAny_Return_some (ev_callK (s := uP s h₂ tk₅) B S₂.toRs rfl rfl rfl (wpAny_items_cons (ev_var (s := uP s h₂ tk₅) S₂.toRs rfl (wpAny_items_cons (ev_var (s := uP s h₂ tk₅) S₂.toRs rfl (wpAny_items_nil ⟨S₂.inK B, ?_⟩) (by walk_at "VK"))) (by walk_at "VK"))))))
    refine let_spec B IH l0 hn5 ((R' _).mo) hT hF hd _ _ _ S₂.kn fun rv H₄ h₄ tk₄ G₄ hr => ?_
    exact hQ _ _ _ _ (S₂.grow G₄).post.grow hr
theorem needed_at (B : Base (KW w) H0) : ∀ n, n ≤ 5 → NeededAt prog w H0 n
  | 0, _ => fun A H v e d l0 R hT => hT.elim
  | n + 1, h => needed_step B (needed_at B n (by first | decide | lia)) (by first | decide | lia)
end
end Mine
end
section
open PySem PySem.W PyProof.Rows PySem.Calls
set_option maxRecDepth 10000
set_option linter.unusedVariables false
namespace Mine
noncomputable def waysF (alts : List (List Str × Ex)) (o : Option Ex) : List Ex := alts.map (·.2) ++ o.toList
noncomputable def rowF (binds : List (Str × Ex)) (n : Str) : Ex := (binds.lookup n).getD .lit
noncomputable def reachAdd (sr : Str → Ex → Bool) (binds : List (Str × Ex)) (found : List Str) (name : Str) : List Str :=
  found ++ (binds.map fun q : Str × Ex => q.1).filter fun o => !(found.any (· == o)) && sr o (rowF binds name)
noncomputable def reachLoop (sr : Str → Ex → Bool) (binds : List (Str × Ex)) : Nat → Nat → List Str → List Str
  | 0, _, found => found
  | k + 1, i, found => match found[i]? with
    | none => found
    | some name => reachLoop sr binds k (i + 1) (reachAdd sr binds found name)
noncomputable def reachedF (sr : Str → Ex → Bool) (binds : List (Str × Ex)) (b : Ex) : List Str :=
  reachLoop sr binds (binds.length + 1) 0 ((binds.map fun q : Str × Ex => q.1).filter fun n => sr n b)
mutual
noncomputable def deadF : Nat → Ex → Bool
  | 0, _ => false
  | _ + 1, .var _ | _ + 1, .lit | _ + 1, .con => false
  | n + 1, .prim err args => err || args.any (deadF n)
  | n + 1, .case e c alts o => deadF n e || (waysF alts o).all (deadF n)
  | n + 1, .let_ binds b r => deadF n b || (reachedF (sureF n) binds b).any fun m => deadF n (rowF binds m)
  | _ + 1, .appv _ _ => false
  | n + 1, .appl ps b args => if args.length < ps.length then false else deadF n b || (ps.zip args).any fun p => sureF n p.1 b && deadF n p.2
noncomputable def sureF : Nat → Str → Ex → Bool
  | 0, _, _ => false
  | _ + 1, x, .var y => y == x
  | _ + 1, _, .lit | _ + 1, _, .con => false
  | n + 1, x, .prim err args => args.any (sureF n x)
  | n + 1, x, .case e c alts o => sureF n x e || ((waysF alts o).filter fun w => !(deadF n w)).all (sureF n x)
  | n + 1, x, .let_ binds b r => sureF n x b || (reachedF (sureF n) binds b).any fun m => sureF n x (rowF binds m)
  | _ + 1, x, .appv f _ => f == x
  | n + 1, x, .appl ps b args => if args.length < ps.length then false else if sureF n x b then true else (ps.zip args).any fun p => sureF n p.1 b && sureF n x p.2
end
noncomputable def goneStep (cm : Ex → List Str → Bool) (binds : List (Str × Ex)) (r : Bool) (lost gone : List Str) : List Str := lost ++ (binds.filter fun p => !(cm p.2 (if r then gone else lost))).map fun q : Str × Ex => q.1
noncomputable def goneF (cm : Ex → List Str → Bool) (binds : List (Str × Ex)) (r : Bool) (lost : List Str) : Nat → List Str
  | 0 => lost
  | k + 1 => goneStep cm binds r lost (goneF cm binds r lost k)
noncomputable def comesF : Nat → Ex → List Str → Bool
  | 0, _, _ => true
  | _ + 1, .var x, lost => !(lost.any (· == x))
  | _ + 1, .lit, _ | _ + 1, .con, _ => true
  | n + 1, .prim err args, lost => !err && args.all fun a => comesF n a lost
  | n + 1, .case e c alts o, lost => comesF n e lost && (waysF alts o).any fun w => comesF n w lost
  | n + 1, .let_ binds b r, lost => comesF n b (goneF (comesF n) binds r lost (binds.length + 1))
  | _ + 1, .appv f _, lost => !(lost.any (· == f))
  | n + 1, .appl ps b args, lost => if args.length < ps.length then true else comesF n b (lost ++ ((ps.zip args).filter fun p => !(comesF n p.2 lost)).map fun q : Str × Ex => q.1)
section
variable {prog : Program} {w : World} {A : Around} {E : Value → Shared → Prop} {s : Shared} {c : Cx} {H H0 : KH} {env : Env} {V : Str → Option Value} {ms : List (Addr × Obj)}
theorem All2.snoc {α β : Type} {R : α → β → Prop} {as : List α} {bs : List β} {a : α} {b : β} (x : All2 R as bs) (h : R a b) : All2 R (as ++ [a]) (bs ++ [b]) := by
  induction x with
  | nil => exact .cons h .nil
  | cons k _ ih => exact .cons k ih
inductive GrowTo (H' : KH) (s₃ s₄ : Shared) : Prop
  | mk (H'' : KH) (h' : Heap) (tk' : Nat) (e : s₄ = (uP s₃ h' tk')) (g : Grow H' s₃.heap H'' h')
theorem LcTurn.pure {α : Type} {H₁ : KH} {V₁ : Str → Option Value} {scope : Scope} {ifs : List PySem.Expr} {elt : PySem.Expr} {B : Nat → KH → List (Str × Value) → Prop} {s₂ : Shared} {ms₁ : List (Addr × Obj)} (es : List α) (t : α → Bool) (G : α → Value → Prop)
    (h1 : ∀ i e binds cenv H' s₃ (E' : Value → Shared → Prop), es[i]? = some e → B i H' binds → H₁.le H' → Rs c.H0 H' cenv (compVB scope env V₁ binds) s₃.heap → (∀ p ∈ ms₁, s₃.heap.get? p.1 = some p.2) → cenv.scope = relabel scope env →
      wpAny (model prog w) A (testsOf ifs cenv) (fun ok s₄ => ok = t e ∧ GrowTo H' s₃ s₄) E' s₃)
    (h2 : ∀ i e binds cenv H' s₃ (E' : Value → Shared → Prop), es[i]? = some e → t e = true → B i H' binds → H₁.le H' → Rs c.H0 H' cenv (compVB scope env V₁ binds) s₃.heap → (∀ p ∈ ms₁, s₃.heap.get? p.1 = some p.2) → cenv.scope = relabel scope env →
      wpAny (model prog w) A (eval elt cenv) (fun y s₄ => G e y ∧ GrowTo H' s₃ s₄) E' s₃)
    (mono : ∀ i H H' binds, B i H binds → H.le H' → B i H' binds) :
    LcTurn prog w A c H₁ env V₁ scope ifs elt es.length B (fun i H ys ms => ms = ms₁ ∧ All2 G ((es.take i).filter t) ys) s₂ := by
  rintro i binds T cenv H' ys ms' h' tk' E' hi hB le ⟨rfl, hy⟩ S' hsc view
  have he : es[i]? = some es[i] := by simp [hi]
  refine wpAny_mono (h1 i es[i] binds cenv H' (uP s₂ h' tk') E' he hB le (view _ _ _ S') (fun p hp => (S'.mu p (List.mem_append_left _ hp)).1) hsc) (fun ok s₃ q => ?_) fun _ _ q => q
  obtain ⟨rfl, H'', h'', tk'', rfl, G1⟩ := q
  have S'' := S'.grow G1
  refine ⟨H'', ms', h'', tk'', rfl, G1.le, S'', ?_⟩
  have est : (es.take (i + 1)).filter t = (es.take i).filter t ++ (if t es[i] then [es[i]] else []) := by
    rw [List.take_add_one, he, List.filter_append]
    cases ht : t es[i] <;> simp [ht]
  cases ht : t es[i] with
  | false =>
    unfold LcK
    rw [if_neg (by simp)]
    rw [ht] at est
    refine ⟨rfl, ?_⟩
    rw [est]; simpa using hy
  | true =>
    unfold LcK
    rw [if_pos rfl]
    rw [ht] at est
    refine wpAny_mono (h2 i es[i] binds cenv H'' (uP s₂ h'' tk'') E' he ht (mono _ _ _ _ hB G1.le) (le.trans G1.le) (view _ _ _ S'') (fun p hp => (S''.mu p (List.mem_append_left _ hp)).1) hsc) (fun y s₄ q => ?_) fun _ _ q => q
    obtain ⟨hG, H3, h3, tk3, rfl, G3⟩ := q
    refine ⟨H3, ms', h3, tk3, rfl, G3.le, S''.grow G3, rfl, ?_⟩
    rw [est]
    exact hy.snoc hG
theorem grow_refl' {H : KH} {s : Shared} (k : InH H s.heap) : GrowTo H s s := ⟨H, s.heap, s.toks, rfl, .refl k⟩
theorem bool_beq (a b : Bool) : (Value.bool a == Value.bool b) = (a == b) := by cases a <;> cases b <;> rfl
theorem any_bools {α : Type} {f : α → Bool} {x : Bool} : ∀ {es : List α} {ys : List Value}, All2 (fun e y => y = Value.bool (f e)) es ys → (ys.any fun y => y == Value.bool x) = es.any fun e => f e == x
  := by
  intro es ys h
  induction h with
  | nil => rfl
  | cons h _ ih => subst h; rw [List.any_cons, List.any_cons, ih, bool_beq]
theorem in_bools {α : Type} {f : α → Bool} {x : Bool} {l : Addr} {es : List α} {ys : List Value} {Q : Value → Shared → Prop} (hl : s.heap.IsList l ys.toArray) (h2 : All2 (fun e y => y = Value.bool (f e)) es ys) (h : Q (.bool (es.any fun e => f e == x)) s) : wpAny (model prog w) A (compareOp .In (.bool x) (.ref l)) Q E s := by
  refine SeqAt.in_listAt (fun y => y == Value.bool x) hl (fun y hy => ?_) ?_
  · obtain ⟨j, hj⟩ := List.getElem?_of_mem (show y ∈ ys by simpa using hy)
    have : ∃ b, y = Value.bool b := by
      clear hl h hy
      induction h2 generalizing j with
      | nil => simp at hj
      | cons h _ ih =>
        cases j with
        | zero => simp at hj; subst hj; exact ⟨_, h⟩
        | succ j => exact ih j (by simpa using hj)
    obtain ⟨b, rfl⟩ := this
    show SeqAt.EqAt _ _ _ _ (Value.bool b == Value.bool x)
    rw [bool_beq]
    exact SeqAt.EqAt.bool_bool b x
  · rw [← Array.any_toList, show ys.toArray.toList = ys from rfl, any_bools h2]; exact h
theorem notin_bools {α : Type} {f : α → Bool} {x : Bool} {l : Addr} {es : List α} {ys : List Value} {Q : Value → Shared → Prop} (hl : s.heap.IsList l ys.toArray) (h2 : All2 (fun e y => y = Value.bool (f e)) es ys) (h : Q (.bool (!(es.any fun e => f e == x))) s) : wpAny (model prog w) A (compareOp .NotIn (.bool x) (.ref l)) Q E s := by
  refine SeqAt.notIn_listAt (fun y => y == Value.bool x) hl (fun y hy => ?_) ?_
  · obtain ⟨j, hj⟩ := List.getElem?_of_mem (show y ∈ ys by simpa using hy)
    have : ∃ b, y = Value.bool b := by
      clear hl h hy
      induction h2 generalizing j with
      | nil => simp at hj
      | cons h _ ih =>
        cases j with
        | zero => simp at hj; subst hj; exact ⟨_, h⟩
        | succ j => exact ih j (by simpa using hj)
    obtain ⟨b, rfl⟩ := this
    show SeqAt.EqAt _ _ _ _ (Value.bool b == Value.bool x)
    rw [bool_beq]
    exact SeqAt.EqAt.bool_bool b x
  · rw [← Array.any_toList, show ys.toArray.toList = ys from rfl, any_bools h2]; exact h
end
end Mine
end
section
open PySem PySem.W PyProof.Rows PySem.Calls
set_option maxRecDepth 10000
set_option linter.unusedVariables false
namespace Mine
theorem All2.flip {α β : Type} {R : α → β → Prop} {as : List α} {bs : List β} (x : All2 R as bs) : All2 (fun b a => R a b) bs as := by
  induction x with
  | nil => exact .nil
  | cons h _ ih => exact .cons h ih
theorem All2.append {α β : Type} {R : α → β → Prop} {as as' : List α} {bs bs' : List β} (x : All2 R as bs) (y : All2 R as' bs') : All2 R (as ++ as') (bs ++ bs') := by
  induction x with
  | nil => exact y
  | cons h _ ih => exact .cons h ih
theorem All2.mapR {α β γ : Type} {R : α → γ → Prop} {f : β → γ} {as : List α} {bs : List β} (x : All2 (fun a b => R a (f b)) as bs) : All2 R as (bs.map f) := by
  induction x with
  | nil => exact .nil
  | cons h _ ih => exact .cons h ih
section
variable {prog : Program} {w : World} {A : Around} {E : Value → Shared → Prop} {s : Shared} {c : Cx} {H H0 : KH} {env : Env} {V : Str → Option Value} {ms : List (Addr × Obj)}
theorem meth_extend {a : Addr} {o0 : Obj} {pos : Pos} {x : Sem Value} {Q : Value → Shared → Prop} (h0 : s.heap.get? a = some o0) (hc0 : o0.cls = .type "list" ∧ o0.dict = none)
    (h : wpAny (model prog w) A x (fun v s₁ => Ex10 fun c H' env V' ms' vs ep b us ep2 => v = .ref b ∧ St c H' env V' ((a, lsO vs ep) :: ms') s₁.heap ∧ s₁.heap.get? b = some (lsO us ep2) ∧ vs.length + us.length ≤ 10000 ∧ ∀ h' ep', St c H' env V' ((a, lsO (vs ++ us) ep') :: ms') h' → Q .none (uH s₁ h')) E s) :
    MethodOn prog w A "extend" pos (.ref a) [(false, x)] Q E s := by
  refine ⟨"list", "list.extend", F.plainAttrs_list, F.slot_list_extend, F.type_list_extend, ⟨_, h0, hc0.1⟩, fun b e => by cases e; exact ⟨_, h0, hc0.2⟩, PySem.P.extend_list (wpAny_mono h (fun v s₁ q => ?_) fun _ _ q => q)⟩
  obtain ⟨c, H', env, V', ms', vs, ep, b, us, ep2, rfl, S, hb, hl, q⟩ := q
  have e := (S.mu _ (.head _)).1
  refine ⟨b, vs.toArray, us.toArray, ep, ep2, by rw [List.size_toArray]; exact le_line (by lia), by rw [List.size_toArray, List.size_toArray, sizeLine_eq]; lia, by simp [Builtin.List.listTooLong, sizeLine]; lia, rfl, e, hb, ?_⟩
  have e' : (s₁.heap.update a (Obj.mapSeq fun xs => xs ++ us.toArray)).get? a = some _ := IsL.update e _
  rw [List.append_toArray] at e'
  exact q _ _ (S.change (fun b o hb e => (Heap.get?_update_other _ _ (Ne.symm hb)).trans e) e')
theorem asg2u {x y : Str} {px py tp tp' pos : Pos} {k k' : Nat} {e1 e2 : PySem.Expr} {Q : Flow → Shared → Prop} (hh : A.handled = none)
    (h : wpAny (model prog w) A (eval e1 env) (fun v1 s₁ => wpAny (model prog w) A (eval e2 env) (fun v2 s₂ => Ex4 fun c H' V' ms' => St c H' env V' ms' s₂.heap ∧
      ∀ H'' h' tk', H'.le H'' → St c H'' env (setV (setV V' x v1) y v2) ms' h' → Q .next (uP s₂ h' tk')) E s₁) E s)
    (hx : env.kindOf x = some .local ∨ env.kindOf x = some .cell) (hy : env.kindOf y = some .local ∨ env.kindOf y = some .cell)
    (he1 : starEach [e1, e2] env = (false, eval e1 env) :: starEach [e2] env := by rfl) (he2 : starEach [e2] env = (false, eval e2 env) :: starEach [] env := by rfl)
    (hs : swapsWithSole [.Tuple [.Name x px, .Name y py] k tp] (.Tuple [e1, e2] k' tp') pos.line env = pure false := by rfl)
    (hw : swappedStores [.Tuple [.Name x px, .Name y py] k tp] (.Tuple [e1, e2] k' tp') env = pure none := by kernel_rfl) :
    wpAny (model prog w) A (exec (.Assign [.Tuple [.Name x px, .Name y py] k tp] (.Tuple [e1, e2] k' tp') pos) env) Q E s := by
  refine Assign_Tuple ?_ hs hw
  refine Tuple_ ?_
  refine wpAny_items_cons (he := he1) (wpAny_mono h (fun v1 s₁ h₁ => wpAny_items_cons (he := he2) (wpAny_mono h₁ (fun v2 s₂ h₂ => wpAny_items_nil ?_) fun _ _ q => q)) fun _ _ q => q)
  obtain ⟨c, H', V', ms', S, hq⟩ := h₂
  refine newTX S (by simp) fun t h₃ S₃ tX => ?_
  have l := addH_le (o := tupObj [v1, v2]) (S₃.mu _ (.head _)).2.1
  refine St.asg (s := uH s₂ h₃) hh (S₃.freeze tX) (.pair x y px py tp k t v1 v2 ⟨_, addH_self, rfl, _, rfl⟩) (fun p hp => ?_) fun h' tk' S' => hq _ h' tk' l S'
  rcases List.mem_cons.mp hp with rfl | hp
  · exact hx
  · rw [List.mem_singleton.mp hp]; exact hy
theorem sub_dict {d : Addr} {kvs : List (Str × Value)} {k : Str} {t : Tok} {v : Value} {Q : Value → Shared → Prop} (D : DictH prog w H d kvs) (k0 : InH H s.heap) (hv : valueAt kvs k = some v) (h : ∀ tk, Q v (uT s tk)) : SubscriptOn (model prog w) A (.ref d) (.str k t) Q E s :=
  ⟨"dict", _, slot_dict_getitem.lookup, (D.at k0).typeIs, wpAny_getItem_of (knd := PySem.strKind prog w) (strKind_is prog w k t) (D.at k0).mapOf hv (h _)⟩
inductive GrQ (c : Cx) (env : Env) (s₁ : Shared) (H' : KH) (D I : Addr) (oI : Obj) (J : KH → (Str → Option Value) → List Value → Prop) (f : Flow) (s₃ : Shared) : Prop
  | mk (ef : f = .next) (H'' : KH) (V'' : Str → Option Value) (ys'' : List Value) (ep'' : Nat) (h'' : Heap) (tk'' : Nat) (e : s₃ = (uP s₁ h'' tk'')) (l : H'.le H'') (S : St c H'' env V'' [(D, lsO ys'' ep''), (I, oI)] h'') (i : J H'' V'' ys'')
inductive GrIn (prog : Program) (w : World) (A : Around) (c : Cx) (env : Env) (x : Str) (body : List Stmt) (Inv : Nat → KH → (Str → Option Value) → List Value → Prop) (Q : Flow → Shared → Prop) (xv : Value) (s₁ : Shared) : Prop
  | mk (D : Addr) (ys0 : List Value) (ep0 : Nat) (H₁ : KH) (V₁ : Str → Option Value) (e : xv = .ref D) (S : St c H₁ env V₁ [(D, lsO ys0 ep0)] s₁.heap) (i0 : Inv 0 H₁ V₁ ys0)
      (turn : ∀ i v ys ep I oI H' V' h' tk', ys[i]? = some v → H₁.le H' → Inv i H' V' ys → St c H' env (setV V' x v) [(D, lsO ys ep), (I, oI)] h' →
        wpAny (model prog w) A (execs body env) (GrQ c env s₁ H' D I oI (Inv (i + 1))) (fun _ _ => False) (uP s₁ h' tk'))
      (fin : ∀ i H' V' ys ep h' tk', ys.length ≤ i → H₁.le H' → Inv i H' V' ys → St c H' env V' [(D, lsO ys ep)] h' → Q .next (uP s₁ h' tk'))
theorem for_grow {x : Str} {px pos : Pos} {iter : PySem.Expr} {body : List Stmt} {Q : Flow → Shared → Prop} (hh : A.handled = none) (hx : env.kindOf x = some .local ∨ env.kindOf x = some .cell) (N : Nat)
    (Inv : Nat → KH → (Str → Option Value) → List Value → Prop) (hN : ∀ i H V ys, Inv i H V ys → ys.length ≤ N)
    (h : wpAny (model prog w) A (eval iter env) (GrIn prog w A c env x body Inv Q) E s)
    (hs : ∀ x, foldedSetIterable iter env x = pure x := by intro _; rfl) :
    wpAny (model prog w) A (exec (.For (.Name x px) iter body [] pos) env) Q E s := by
  refine wpAny_For (wpAny_mono h (fun xv s₁ h₁ => ?_) fun _ _ q => q) hs
  obtain ⟨D, ys0, ep0, H₁, V₁, rfl, S₁, i0, turn, fin⟩ := h₁
  have eD := (S₁.mu _ (.head _)).1
  refine wpAny_pyIter_list (items := ys0.toArray) ⟨_, eD, rfl, _, rfl⟩ ?_
  have fr : s₁.heap.get? s₁.heap.objs.size = none := fresh_of_size (Nat.le_refl _)
  have hX := S₁.notX fr
  have e0 := Heap.get?_push_size s₁.heap (o := { cls := .type "list_iterator", data := .fields #[.ref D, .int 0 0] }) rfl
  have S₂ := St.newAt (r := [(D, lsO ys0 ep0)]) (os := []) (by rw [List.append_nil]; exact S₁) (Up.push s₁.heap _) fr e0
  generalize s₁.heap.objs.size = I at *
  refine codeAny_forLoop (fun n s' => Ex8 fun i oI H' V' ys ep h' tk' => An7 (s' = (uP s₁ h' tk')) (n = N + 1 - i) (H₁.le H') (St c H' env V' [(D, lsO ys ep), (I, oI)] h') (oI.cls = .type "list_iterator") (oI.data = .fields #[.ref D, .int i 0]) (Inv i H' V' ys)) ?_ (N + 1)
    ⟨0, _, H₁, V₁, ys0, ep0, _, _, rfl, rfl, .refl _, S₂, rfl, rfl, i0⟩
  rintro n s' ⟨i, oI, H', V', ys, ep, h', tk', rfl, rfl, le, S', hc, hd, hI⟩
  have it : h'.IsListIter I D i := ⟨oI, (S'.mu _ (.tail _ (.head _))).1, hc, hd⟩
  have lst : h'.IsList D ys.toArray := ⟨_, (S'.mu _ (.head _)).1, rfl, _, rfl⟩
  have hyN := hN _ _ _ _ hI
  rcases Nat.lt_or_ge i ys.length with lt | ge
  · refine wpAny_pyNext_list_item (s := uP s₁ h' tk') it lst (x := ys[i]) (by simp [lt]) fun h₂ it₂ sb => ?_
    obtain ⟨oI', e', hc', hd'⟩ := it₂
    have S₃ := St.changeAt (r := [(D, lsO ys ep)]) (os := []) S' (fun b x q y => (sb.2 b q).trans y) e'
    refine wpAny_assign_Name (St.store (s := uP s₁ h₂ tk') S₃ hx fun h₃ tk₃ S₄ => ?_)
    refine wpAny_mono (turn i ys[i] ys ep I oI' H' V' h₃ tk₃ (by simp [lt]) le hI S₄) (fun f s₃ q => ?_) fun _ _ q => q.elim
    obtain ⟨rfl, H'', V'', ys'', ep'', h'', tk'', rfl, le', S₅, i'⟩ := q
    exact ⟨_, by lia, i + 1, oI', H'', V'', ys'', ep'', h'', tk'', rfl, rfl, le.trans le', S₅, hc', by simpa using hd', i'⟩
  · refine wpAny_pyNext_list_end (s := uP s₁ h' tk') hh it lst (by simpa using ge) fun h₂ eb => ?_
    refine wpAny_execs_nil (fin i H' V' ys ep h₂ tk' ge le hI ?_)
    exact St.losesR (r := [(D, lsO ys ep)]) (os := [(I, oI)]) S' (by simpa using hX) fun b x q y => eb b x (by simpa using q) y
end
end Mine
end
section
open PySem PySem.W PyProof.Rows PySem.Calls
set_option maxRecDepth 10000
set_option linter.unusedVariables false
namespace Mine
noncomputable def SureAt (prog : Program) (w : World) (H0 : KH) (n : Nat) : Prop := ∀ (A : Around) (H : KH) (v : Value) (e : Ex) (x : Str) (t : Tok), H0.le H → Room A (10 * n + 5) → TreeAt H n v e → Few n e →
  Pure prog w A H 562 [.str x t, v] (fun _ r => r = .bool (sureF n x e))
noncomputable def DeadAt (prog : Program) (w : World) (H0 : KH) (n : Nat) : Prop := ∀ (A : Around) (H : KH) (v : Value) (e : Ex), H0.le H → Room A (10 * n + 5) → TreeAt H n v e → Few n e →
  Pure prog w A H 557 [v] (fun _ r => r = .bool (deadF n e))
noncomputable def OthAt (H : KH) (n : Nat) (vo : Value) : Option Ex → Prop
  | none => vo = .none
  | some e => TreeAt H n vo e
theorem OthAt.le {H H' : KH} {n : Nat} {vo : Value} {o : Option Ex} (l : H.le H') (h : OthAt H n vo o) : OthAt H' n vo o := by
  cases o with
  | none => exact h
  | some e => exact TreeAt.le l _ _ _ h
noncomputable def AltsAt (H : KH) (n : Nat) (vs : List Value) (alts : List (List Str × Ex)) : Prop := All2 (fun v (p : List Str × Ex) => Ex4 fun a l' ns vb => v = .ref a ∧ Inst H 248 a [("names", .ref l'), ("body", vb)] ∧ ListH H l' ns ∧ StrsAre ns p.1 ∧ TreeAt H n vb p.2) vs alts
theorem AltsAt.le {H H' : KH} {n : Nat} {vs : List Value} {alts : List (List Str × Ex)} (k : H.le H') (h : AltsAt H n vs alts) : AltsAt H' n vs alts :=
  All2.imp h fun v p ⟨a, l', ns, vb, e1, i1, l1, s1, t1⟩ => ⟨a, l', ns, vb, e1, i1.le k, l1.le k, s1, TreeAt.le k _ _ _ t1⟩
section
variable {prog : Program} {w : World} {A : Around} {H0 H : KH}
theorem ways_spec {n : Nat} {a l : Addr} {vo : Value} {fs : List (Str × Value)} {vs : List Value} {alts : List (List Str × Ex)} {o : Option Ex} (B : Base (KW w) H0) (l0 : H0.le H) (R : Room A 3) (I : Inst H 290 a fs) (h1 : (("alts" : Str), Value.ref l) ∈ fs) (h2 : (("other" : Str), vo) ∈ fs) (L : ListH H l vs) (hA : AltsAt H n vs alts) (hO : OthAt H n vo o) (hlen : alts.length ≤ 1) :
    Pure prog w A H 547 [.ref a] (fun H' r => ∃ l ws, r = .ref l ∧ ListH H' l ws ∧ All2 (fun v e => TreeAt H' n v e) ws (waysF alts o)) := by
  intro s E Q kn hQ
  refine call_fn (ms := []) (binds := [("expr", .ref a)]) B l0 kn (fun _ h => nomatch h) .nil R.depth rfl rfl rfl rfl rfl rfl rfl ?_
  intro Lc h₁ tk S
  have hvl : vs.length = alts.length := hA.len
  refine xs (lc_assign R.hd S (.of rfl) rfl (by walk_at "VK") (fun i H' ys ms' => ms' = [] ∧ All2 (fun (p : List Str × Ex) (y : Value) => TreeAt H n y p.2) ((alts.take i).filter fun _ => true) ys) (fun _ _ _ _ _ _ h => h) ?_)
  refine ev_attr (s := uP s h₁ tk) B S.toRs rfl (by walk_at "VK") I (by walk_at "AT") h1 rfl fun tk' => ?_
  refine it_list (s := uP s h₁ tk') R.hd S L fun it h₂ hF => ?_
  obtain ⟨J, os, W, j0, S₂, hX⟩ := hF "alt" _
  rw [hvl] at W
  refine ⟨_, J, _, H, _, [], os, W, le_line (by lia), j0, S₂, hX, ⟨rfl, .nil⟩, LcTurn.pure alts (fun _ => true) (fun p y => TreeAt H n y p.2) ?_ ?_ (fun _ _ _ _ h _ => h), ?_⟩
  · intro i p binds cenv H' s₃ E' _ _ _ S₃ _ _
    exact tests_nil ⟨rfl, grow_refl' S₃.kn⟩
  · rintro i p binds cenv H' s₃ E' hp _ ⟨v, rfl, hv⟩ le S₃ _ hsc
    obtain ⟨p', hp', aa, l', nsv, vb, rfl, Ia, La, sa, hTa⟩ := hA.at hv
    rw [hp] at hp'; cases hp'
    obtain ⟨ab, lb, rfl, _⟩ := hTa.inst
    exact ev_attr B S₃ rfl (.inl (lk hsc rfl)) (Ia.le le) (by walk_at "AT") (by walk_at "MEM") rfl fun tk₃ => ⟨hTa, H', s₃.heap, tk₃, rfl, .refl S₃.kn⟩
  · rintro D ep ys H' ms' h₃ tk₃ le ⟨rfl, hy⟩ S₃ DX
    rw [List.take_length, List.filter_eq_self.mpr fun _ _ => rfl] at hy
    have hw : All2 (fun v e => TreeAt H' n v e) ys (alts.map (·.2)) := hy.flip.mapR.imp fun v e t => TreeAt.le le _ _ _ t
    have hyl : ys.length = alts.length := hy.len.symm
    have S₄ := S₃.freeze DX
    have l4 := addH_le (o := lsO ys ep) (S₃.mu _ (.head _)).2.1
    refine xs (wpAny_Return_some (wpAny_IfExp ?_))
    cases o with
    | none =>
      have hO' : vo = .none := hO
      subst hO'
      refine wpAny_isTrue_Compare1 (ev_attr (s := uP s h₃ tk₃) B S₄.toRs rfl (by walk_at "VK") ((I.le le).le l4) (by walk_at "AT") h2 rfl fun tk5 => wpAny_Constant_none (is_none (wpAny_truthy_bool ?_))) rfl
      refine ev_var (s := uP s h₃ tk5) S₄.toRs rfl ?_ (by walk_at "VK")
      refine hQ _ _ _ _ S₄.post.grow ⟨D, ys, rfl, ⟨ep, addH_self⟩, ?_⟩
      unfold waysF
      rw [Option.toList_none, List.append_nil]
      exact hw.imp fun v e t => TreeAt.le l4 _ _ _ t
    | some eo =>
      have hTo : TreeAt H n vo eo := hO
      obtain ⟨ao, lo, rfl, _⟩ := hTo.inst
      refine wpAny_isTrue_Compare1 (ev_attr (s := uP s h₃ tk₃) B S₄.toRs rfl (by walk_at "VK") ((I.le le).le l4) (by walk_at "AT") h2 rfl fun tk5 => wpAny_Constant_none (is_none (wpAny_truthy_bool ?_))) rfl
      refine wpAny_BinOp (ev_var (s := uP s h₃ tk5) S₄.toRs rfl ?_ (by walk_at "VK"))
      refine List_ (wpAny_items_cons (ev_attr (s := uP s h₃ tk5) B S₄.toRs rfl (by walk_at "VK") ((I.le le).le l4) (by walk_at "AT") h2 rfl fun tk6 => wpAny_items_nil ?_))
      refine newLX (s := uP s h₃ tk6) S₄ (by simp) fun c2 h7 S7 X2 => ?_
      refine list_add (s := uP s h7 tk6) S7 (S7.kn _ _ addH_self) (S7.mu _ (.head _)).1 (by simp; lia) fun c3 h8 S8 X3 => ?_
      have S9 := S8.freeze X3
      have l9 := addH_le (o := lsO (ys ++ [.ref ao]) 0) (S8.mu _ (.head _)).2.1
      refine hQ _ _ _ _ (S9.drop X2).post.grow ⟨c3, ys ++ [.ref ao], rfl, ⟨0, addH_self⟩, ?_⟩
      unfold waysF
      rw [Option.toList_some]
      exact (hw.imp fun v e t => TreeAt.le (l4.trans l9) _ _ _ t).snoc (hTo.le ((le.trans l4).trans l9))
end
end Mine
end
section
open PySem PySem.W PyProof.Rows PySem.Calls
set_option maxRecDepth 10000
set_option linter.unusedVariables false
namespace Mine
theorem nodup_len : ∀ (l m : List Str), l.Nodup → (∀ x ∈ l, x ∈ m) → l.length ≤ m.length
  | [], _, _, _ => Nat.zero_le _
  | x :: l, m, nd, h => by
    rw [List.nodup_cons] at nd
    have hx := h x (.head _)
    have ih := nodup_len l (m.erase x) nd.2 fun y hy => (List.mem_erase_of_ne (show y ≠ x from fun q => nd.1 (by rw [← q]; exact hy))).mpr (h y (.tail _ hy))
    rw [List.length_erase_of_mem hx] at ih
    have : 0 < m.length := List.length_pos_of_mem hx
    rw [List.length_cons]
    lia
theorem strs_of_all2 {α : Type} {f : α → Str} : ∀ {es : List α} {ys : List Value}, All2 (fun e y => ∃ t, y = Value.str (f e) t) es ys → StrsAre ys (es.map f)
  := by
  intro es ys h
  induction h with
  | nil => exact .nil
  | cons h _ ih => obtain ⟨t, h⟩ := h; subst h; exact .cons _ t ih
theorem reachAdd_nodup {sr : Str → Ex → Bool} {binds : List (Str × Ex)} {found : List Str} {name : Str} (hnd : (binds.map fun q : Str × Ex => q.1).Nodup) (h : found.Nodup) : (reachAdd sr binds found name).Nodup := by
  unfold reachAdd
  rw [List.nodup_append]
  refine ⟨h, hnd.sublist List.filter_sublist, fun x hx y hy q => ?_⟩
  subst q
  have := (List.mem_filter.mp hy).2
  simp at this
  exact absurd hx (fun m => this.1 x m rfl)
theorem reachAdd_sub {sr : Str → Ex → Bool} {binds : List (Str × Ex)} {found : List Str} {name : Str} (h : ∀ f ∈ found, f ∈ binds.map fun q : Str × Ex => q.1) : ∀ f ∈ reachAdd sr binds found name, f ∈ binds.map fun q : Str × Ex => q.1 := fun f hf => by
  unfold reachAdd at hf
  rcases List.mem_append.mp hf with m | m
  · exact h f m
  · exact (List.mem_filter.mp m).1
theorem lookup_of_mem {binds : List (Str × Ex)} {k : Str} (h : k ∈ binds.map fun q : Str × Ex => q.1) : ∃ e, binds.lookup k = some e := by
  induction binds with
  | nil => simp at h
  | cons b r ih =>
    obtain ⟨b1, b2⟩ := b
    rw [List.lookup_cons]
    by_cases q : k = b1
    · subst q; exact ⟨b2, by simp⟩
    · have : (k == b1) = false := by simpa using q
      rw [this]
      exact ih (by simpa [q] using h)
section
variable {prog : Program} {w : World} {A : Around} {H0 H : KH}
theorem reached_spec {n : Nat} {a l : Addr} {vb : Value} {fs : List (Str × Value)} {vs : List Value} {binds : List (Str × Ex)} {b : Ex} (B : Base (KW w) H0) (SA : SureAt prog w H0 n) (l0 : H0.le H) (R : Room A (10 * n + 7)) (I : Inst H 227 a fs) (h1 : (("binds" : Str), Value.ref l) ∈ fs) (h2 : (("body" : Str), vb) ∈ fs) (hl : ListH H l vs) (hb : BindsAt H n vs binds) (hT : TreeAt H n vb b)
    (hlen2 : binds.length ≤ 2) (hnd : (binds.map fun q : Str × Ex => q.1).Nodup) (hFb : ∀ p ∈ binds, Few n p.2) (hFb0 : Few n b) :
    Pure prog w A H 552 [.ref a] (fun H' r => ∃ l ys, r = .ref l ∧ ListH H' l ys ∧ StrsAre ys (reachedF (sureF n) binds b)) := by
  intro s E Q kn hQ
  refine call_fn (ms := []) (binds := [("expr", .ref a)]) B l0 kn (fun _ h => nomatch h) .nil R.depth rfl rfl rfl rfl rfl rfl rfl ?_
  intro Lc h₁ tk S
  have R' : ∀ env, Room (A.deeper env) (10 * n + 6) := fun _ => R.deeper
  have hvl : vs.length = binds.length := hb.len
  refine absG fun gG hgG => ?_
  obtain ⟨kvs, hw1, hw2, hw3⟩ := BindsAt.wait hb
  refine hgG ?_; clear hgG
  have hkl : kvs.length = binds.length := waitLen hw1
  refine absG fun gG hgG => ?_
  obtain ⟨ab, lb, rfl, _⟩ := hT.inst
  refine hgG ?_; clear hgG
  refine xs ?_
  refine asg2u ?_ ?_ ?_ ?_
  case refine_1 => exact R.hd
  case refine_3 => exact .inr rfl
  case refine_4 => exact .inr rfl
  refine ev_callT (s := uP s h₁ tk) B S.toRs rfl rfl rfl (wpAny_items_cons (ev_attr B S.toRs rfl (by walk_at "VK") I (by walk_at "AT") h1 rfl fun tk' => wpAny_items_nil ?_))
  obtain ⟨epl, hel⟩ := id hl
  refine call_dict_pairs (s := uP s h₁ tk') (by exact R.hd) (S.kn _ _ hel) (hw3 _ S.kn) (by rw [hw2]; exact hnd) (le_line (by first | decide | lia)) fun W oW h₃ tk₃ up₃ frW eW oWd => ?_
  have S₃ := S.new up₃ frW eW
  have WX := S.notX frW
  have Wm := S.toRs.noMod B frW
  have S₄ := S₃.freeze WX
  have l4 := addH_le (o := oW) (S₃.mu _ (.head _)).2.1
  have hW : DictH prog w (addH H W oW) W kvs := ⟨Wm, oW, addH_self, oWd⟩
  generalize addH H W oW = H₄ at *
  refine lc (s := uP s h₃ tk₃) R.hd S₄ (.of rfl) (fun i H' ys ms' => ms' = [] ∧ All2 (fun (p : Str × Ex) (y : Value) => ∃ t, y = .str p.1 t) ((binds.take i).filter fun p => sureF n p.1 b) ys) (fun _ _ _ _ _ _ h => h) ?_
  refine ev_attr (s := uP s h₃ tk₃) B S₄.toRs rfl (by walk_at "VK") (I.le l4) (by walk_at "AT") h1 rfl fun tk₄ => ?_
  refine it_pairs (s := uP s h₃ tk₄) R.hd S₄ (hl.le l4) (BindsAt.pairs (hb.le l4)) fun it h₅ hFr => ?_
  obtain ⟨J, os, Wk, j0, S₅, hX⟩ := hFr "name" "value" _ _ _ 0
  rw [hvl] at Wk
  refine ⟨_, J, _, H₄, _, [], os, Wk, le_line (by first | decide | lia), j0, S₅, hX, ⟨rfl, .nil⟩, LcTurn.pure binds (fun p => sureF n p.1 b) (fun p y => ∃ t, y = .str p.1 t) ?_ ?_ (fun _ _ _ _ h _ => h), ?_⟩
  · intro i p bs cenv H' s₃ E' hp rI8 le S' _ hsc
    refine absG fun gG hgG => ?_
    obtain ⟨u, z, rfl, q, tq, hq, rfl, hTq⟩ := rI8
    refine hgG ?_; clear hgG
    rw [hp] at hq; cases hq
    refine tests_one (wpAny_isTrue_value ?_ rfl)
    refine ev_callK B S' rfl (lk hsc rfl) rfl (wpAny_items_cons (ev_var S' rfl (wpAny_items_cons (ev_attr B S' rfl (.inr (lk hsc rfl)) ((I.le l4).le le) (by walk_at "AT") h2 rfl fun tk' => wpAny_items_nil ⟨S'.inK B, ?_⟩)) (.inl (lk hsc rfl))))
    refine SA _ H' _ b p.1 tq S'.b0 ((R' _).mo) ((hT.le l4).le le) hFb0 _ _ _ S'.kn fun rv H2 h2 tk2 G2 hr => ?_
    subst hr
    exact wpAny_truthy_bool ⟨rfl, H2, h2, tk2, rfl, G2⟩
  · intro i p bs cenv H' s₃ E' hp _ rI9 le S' _ hsc
    refine absG fun gG hgG => ?_
    obtain ⟨u, z, rfl, q, tq, hq, rfl, hTq⟩ := rI9
    refine hgG ?_; clear hgG
    rw [hp] at hq; cases hq
    exact ev_var S' rfl ⟨⟨tq, rfl⟩, grow_refl' S'.kn⟩ (.inl (lk hsc rfl))
  · intro D ep ys H₆ ms' h₆ tk₆ le₆ rI8 S₆ DX
    refine absG fun gG hgG => ?_
    obtain ⟨rfl, hy⟩ := rI8
    refine hgG ?_; clear hgG
    rw [List.take_length] at hy
    refine ⟨_, H₆, _, _, S₆, fun H₇ h₇ tk₇ le₇ S₇ => ?_⟩
    have l47 := le₆.trans le₇
    have hs0 : StrsAre ys ((binds.map fun q : Str × Ex => q.1).filter fun m => sureF n m b) := by
      have := strs_of_all2 (f := fun q : Str × Ex => q.1) hy
      rwa [show (binds.filter fun p => sureF n p.1 b).map (fun q : Str × Ex => q.1) = (binds.map fun q : Str × Ex => q.1).filter (fun m => sureF n m b) from by rw [List.filter_map]; rfl] at this
    generalize hF : reachedF (sureF n) binds b = F at hQ
    refine xs ?_
    refine for_grow (c := ⟨H0, H, s.heap, []⟩) R.hd (by walk_at "VK") binds.length (fun i H' V' ys => V' "rows" = some (.ref W) ∧ V' "found" = some (.ref D) ∧ ∃ fs, An4 (StrsAre ys fs) (fs.Nodup) ((∀ f ∈ fs, f ∈ binds.map fun q : Str × Ex => q.1)) (reachLoop (sureF n) binds (binds.length + 1 - i) i fs = F)) ?_ ?_
    · intro i H' V' ys' rI4
      refine absG fun gG hgG => ?_
      obtain ⟨_, _, fs', e1, e2, e3, _⟩ := rI4
      refine hgG ?_; clear hgG
      have := nodup_len fs' _ e2 e3
      rw [List.length_map] at this
      rw [strsLen e1]; exact this
    refine ev_var (s := uP s h₇ tk₇) S₇.toRs rfl ⟨D, ys, ep, H₇, _, rfl, S₇, ⟨rfl, rfl, _, hs0, hnd.sublist List.filter_sublist, fun f hf => (List.mem_filter.mp hf).1, hF⟩, ?_, ?_⟩ (by walk_at "VK")
    · intro i v ys' ep' Ia oI H' V' h' tk' hv le' rI12 S'
      refine absG fun gG hgG => ?_
      obtain ⟨w1, w2, fs', w3, w4, w5, w6⟩ := rI12
      refine hgG ?_; clear hgG
      refine absG fun gG hgG => ?_
      obtain ⟨name, tn, hname, rfl⟩ := strsAt w3 hv
      refine hgG ?_; clear hgG
      have hmem := w5 name (List.mem_of_getElem? hname)
      obtain ⟨eN, hlk⟩ := lookup_of_mem hmem
      have hrow : rowF binds name = eN := by unfold rowF; rw [hlk]; rfl
      have hFe : Few n eN := hFb _ (mem_of_lookup hlk)
      have lH' := (l4.trans l47).trans le'
      obtain ⟨vN, hvN, hTN⟩ := (hw1.le lH').at_some hlk
      have hlen' : fs'.length ≤ binds.length := by
        have := nodup_len fs' _ w4 w5
        rwa [List.length_map] at this
      have hil : i < fs'.length := by
        rcases Nat.lt_or_ge i fs'.length with h | h
        · exact h
        · rw [List.getElem?_eq_none h] at hname; cases hname
      have w2' : setV V' "name" (.str name tn) "found" = some (.ref D) := w2
      have w1' : setV V' "name" (.str name tn) "rows" = some (.ref W) := w1
      have eD := (S'.mu _ (.head _)).1
      refine xs (wpAny_Expr (wpAny_Call_method1_late rfl rfl rfl (ev_var (s := uP s h' tk') S'.toRs w2' (meth_extend (s := uP s h' tk') eD ⟨rfl, rfl⟩ ?_) (by walk_at "VK"))))
      refine lc (s := uP s h' tk') R.hd S' (.of rfl) (fun i H' zs ms' => ms' = [(D, lsO ys' ep'), (Ia, oI)] ∧ All2 (fun (p : Str × Value) (y : Value) => ∃ t, y = .str p.1 t) ((kvs.take i).filter fun p => !(fs'.any (· == p.1)) && sureF n p.1 (rowF binds name)) zs) (fun _ _ _ _ _ _ h => h) ?_
      refine ev_var (s := uP s h' tk') S'.toRs w1' ?_ (by walk_at "VK")
      refine it_dict (s := uP s h' tk') R.hd S' (hW.le (l47.trans le')) fun it h₈ hFr => ?_
      obtain ⟨J, os, Wk, j0, S₈, hX⟩ := hFr "other" _
      refine ⟨_, J, _, H', _, _, os, Wk, le_line (by first | decide | lia), j0, S₈, hX, ⟨rfl, .nil⟩, LcTurn.pure kvs (fun p => !(fs'.any (· == p.1)) && sureF n p.1 (rowF binds name)) (fun p y => ∃ t, y = .str p.1 t) ?_ ?_ (fun _ _ _ _ h _ => h), ?_⟩
      · intro j p bs cenv H2 s₃ E' hp rI8 le2 S2 hms hsc
        refine absG fun gG hgG => ?_
        obtain ⟨u, rfl, k, y, t, hk, rfl⟩ := rI8
        refine hgG ?_; clear hgG
        rw [hp] at hk; cases hk
        have eD2 := hms (D, lsO ys' ep') (.head _)
        refine tests_one (wpAny_isTrue_BoolOp (wpAny_allTrue_And_cons (wpAny_isTrue_Compare1 (ev_var S2 rfl (ev_var S2 w2' ?_ (.inr (lk hsc rfl))) (.inl (lk hsc rfl))) rfl)))
        refine notin_list_strs (l := D) (vs := ys') ⟨_, eD2, rfl, _, rfl⟩ w3 (wpAny_truthy_bool ?_)
        cases hany : fs'.any (· == k) with
        | true => exact ⟨by simp, grow_refl' S2.kn⟩
        | false =>
          refine wpAny_allTrue_And_cons (wpAny_isTrue_value ?_ rfl)
          refine ev_callK B S2 rfl (lk hsc rfl) rfl (wpAny_items_cons (ev_var S2 rfl (wpAny_items_cons ?_) (.inl (lk hsc rfl))))
          refine wpAny_Subscript_Name_late (ev_var S2 w1' (ev_var S2 rfl (sub_dict ((hW.le (l47.trans le')).le le2) S2.kn hvN fun tk3 => wpAny_items_nil ⟨S2.inK B, ?_⟩) (.inr (lk hsc rfl))) (.inr (lk hsc rfl)))
          refine SA _ H2 vN eN k t S2.b0 ((R' _).mo) (hTN.le le2) hFe _ _ _ S2.kn fun rv H3 h3 tk3 G3 hr => ?_
          subst hr
          refine wpAny_truthy_bool ?_
          rw [hrow]
          cases hsr : sureF n k eN with
          | true => exact wpAny_allTrue_And_nil ⟨rfl, H3, h3, tk3, rfl, G3⟩
          | false => exact ⟨rfl, H3, h3, tk3, rfl, G3⟩
      · intro j p bs cenv H2 s₃ E' hp _ rI9 le2 S2 hms hsc
        refine absG fun gG hgG => ?_
        obtain ⟨u, rfl, k, y, t, hk, rfl⟩ := rI9
        refine hgG ?_; clear hgG
        rw [hp] at hk; cases hk
        exact ev_var S2 rfl ⟨⟨t, rfl⟩, grow_refl' S2.kn⟩ (.inl (lk hsc rfl))
      · intro D2 ep2 zs H2 ms2 h2 tk2 le2 rI8 S2 DX2
        refine absG fun gG hgG => ?_
        obtain ⟨rfl, hz⟩ := rI8
        refine hgG ?_; clear hgG
        rw [List.take_length] at hz
        have hzs : StrsAre zs ((binds.map fun q : Str × Ex => q.1).filter fun o => !(fs'.any (· == o)) && sureF n o (rowF binds name)) := by
          have := strs_of_all2 (f := fun q : Str × Value => q.1) hz
          rwa [show (kvs.filter fun p => !(fs'.any (· == p.1)) && sureF n p.1 (rowF binds name)).map (fun q : Str × Value => q.1) = (binds.map fun q : Str × Ex => q.1).filter (fun o => !(fs'.any (· == o)) && sureF n o (rowF binds name)) from by
            rw [← hw2, List.filter_map]; rfl] at this
        have hzl : zs.length ≤ 2 := by
          rw [strsLen hzs]
          exact Nat.le_trans (List.length_filter_le _ _) (by rw [List.length_map]; exact hlen2)
        have hyl : ys'.length ≤ 2 := by rw [strsLen w3]; lia
        have S3 : St _ H2 _ _ ((D, lsO ys' ep') :: (D2, lsO zs ep2) :: [(Ia, oI)]) h2 := S2.perm (List.Perm.swap _ _ _)
        refine ⟨_, H2, _, _, _, ys', ep', D2, zs, ep2, rfl, S3, (S3.mu _ (.tail _ (.head _))).1, by lia, fun h3 ep3 S4 => wpAny_execs_nil ⟨rfl, H2, _, ys' ++ zs, ep3, h3, _, rfl, le2, (S4.perm (List.Perm.swap _ _ _)).drop DX2, w1', w2', reachAdd (sureF n) binds fs' name, strs_append w3 hzs, reachAdd_nodup hnd w4, reachAdd_sub w5, ?_⟩⟩
        have e1 : binds.length + 1 - i = (binds.length - i) + 1 := by lia
        rw [e1] at w6
        unfold reachLoop at w6
        rw [hname] at w6
        rw [show binds.length + 1 - (i + 1) = binds.length - i from by lia]
        exact w6
    · intro i H' V' ys' ep' h' tk' hi le' rI9 S'
      refine absG fun gG hgG => ?_
      obtain ⟨w1, w2, fs', w3, w4, w5, w6⟩ := rI9
      refine hgG ?_; clear hgG
      have hfs : fs' = F := by
        rw [← w6]
        have : fs'[i]? = none := List.getElem?_eq_none (by rw [← strsLen w3]; exact hi)
        cases hk : binds.length + 1 - i with
        | zero => rfl
        | succ k => unfold reachLoop; rw [this]
      subst hfs
      refine xs (wpAny_Return_some (ev_var (s := uP s h' tk') S'.toRs w2 ?_ (by walk_at "VK")))
      exact hQ _ _ _ _ (S'.freeze DX).post.grow ⟨D, ys', rfl, ⟨ep', addH_self⟩, w3⟩
end
end Mine
end
section
open PySem PySem.W PyProof.Rows PySem.Calls
set_option maxRecDepth 10000
set_option linter.unusedVariables false
namespace Mine
section
variable {prog : Program} {w : World} {A : Around} {E : Value → Shared → Prop} {s : Shared} {c : Cx} {H H0 : KH} {env : Env} {V : Str → Option Value} {ms : List (Addr × Obj)}
noncomputable def Elt (H' : KH) (s₃ : Shared) (P : Value → Prop) (y : Value) (s₄ : Shared) : Prop := P y ∧ GrowTo H' s₃ s₄
inductive TcIn (prog : Program) (w : World) (A : Around) (c : Cx) (env : Env) (scope : Scope) (x : Str) (elt : PySem.Expr) (ifs : List PySem.Expr) (V : Str → Option Value) (ms : List (Addr × Obj)) (n : Nat) (es : List Ex) (t : Ex → Bool) (G : Ex → Value → Prop) (Q : Value → Shared → Prop) (xv : Value) (s₁ : Shared) : Prop
  | mk (H₁ : KH) (l : Addr) (vs : List Value) (e : xv = .ref l) (S : St c H₁ env V ms s₁.heap) (hl : ListH H₁ l vs) (hT : All2 (fun v e => TreeAt H₁ n v e) vs es)
      (ht : ∀ v e cenv H' s₃ (E' : Value → Shared → Prop), e ∈ es → TreeAt H₁ n v e → H₁.le H' → Rs c.H0 H' cenv (compVB scope env V [(x, v)]) s₃.heap → cenv.scope = relabel scope env →
        wpAny (model prog w) A (testsOf ifs cenv) (fun ok s₄ => ok = t e ∧ GrowTo H' s₃ s₄) E' s₃)
      (he : ∀ v e cenv H' s₃ (E' : Value → Shared → Prop), e ∈ es → TreeAt H₁ n v e → H₁.le H' → Rs c.H0 H' cenv (compVB scope env V [(x, v)]) s₃.heap → cenv.scope = relabel scope env →
        wpAny (model prog w) A (eval elt cenv) (Elt H' s₃ (G e)) E' s₃)
      (fin : ∀ D ep ys H' h' tk', H₁.le H' → St c H' env V ((D, lsO ys ep) :: ms) h' → All2 G (es.filter t) ys → D ∉ c.X → Q (.ref D) (uP s₁ h' tk'))
theorem tree_comp {x : Str} {px pos : Pos} {elt iter : PySem.Expr} {ifs : List PySem.Expr} {scope : Scope} {Q : Value → Shared → Prop} {n : Nat} {es : List Ex} (t : Ex → Bool) (G : Ex → Value → Prop) (hh : A.handled = none) (S : St c H env V ms s.heap) (Z : CompScopeB env scope [x]) (hsz : es.length ≤ 10)
    (h : wpAny (model prog w) A (eval iter env) (TcIn prog w A c env scope x elt ifs V ms n es t G Q) E s)
    (hs : ∀ x, foldedSetIterable iter env x = pure x := by intro _; rfl) :
    wpAny (model prog w) A (eval (.ListComp elt [⟨.Name x px, iter, ifs, 0⟩] scope pos) env) Q E s := by
  refine lc hh S Z (fun i H' ys ms' => ms' = ms ∧ All2 G ((es.take i).filter t) ys) (fun _ _ _ _ _ _ h => h) (wpAny_mono h (fun xv s₁ h₁ => ?_) fun _ _ q => q) hs
  obtain ⟨H₁, l, vs, rfl, S₁, hl, hT, ht, he, hfin⟩ := h₁
  refine it_list hh S₁ hl fun it h₂ hF => ?_
  obtain ⟨J, os, W, j0, S₂, hX⟩ := hF x px
  rw [hT.len] at W
  refine ⟨_, J, _, H₁, V, ms, os, W, le_line (by lia), j0, S₂, hX, ⟨rfl, .nil⟩, LcTurn.pure es t G ?_ ?_ (fun _ _ _ _ h _ => h), ?_⟩
  · rintro i e binds cenv H' s₃ E' hi ⟨v, rfl, hv⟩ le S' _ hsc
    obtain ⟨e', he', hTe⟩ := hT.at hv
    rw [hi] at he'; cases he'
    exact ht v e cenv H' s₃ E' (List.mem_of_getElem? hi) hTe le S' hsc
  · rintro i e binds cenv H' s₃ E' hi _ ⟨v, rfl, hv⟩ le S' _ hsc
    obtain ⟨e', he', hTe⟩ := hT.at hv
    rw [hi] at he'; cases he'
    exact he v e cenv H' s₃ E' (List.mem_of_getElem? hi) hTe le S' hsc
  · rintro D ep ys H' ms' h₃ tk₃ le ⟨rfl, hy⟩ S₃ DX
    rw [List.take_length] at hy
    exact hfin D ep ys H' h₃ tk₃ le S₃ hy DX
inductive ScIn (prog : Program) (w : World) (A : Around) (c : Cx) (env : Env) (scope : Scope) (x : Str) (elt : PySem.Expr) (ifs : List PySem.Expr) (V : Str → Option Value) (ms : List (Addr × Obj)) (es : List Str) (t : Str → Bool) (G : Str → Value → Prop) (Q : Value → Shared → Prop) (xv : Value) (s₁ : Shared) : Prop
  | mk (H₁ : KH) (l : Addr) (vs : List Value) (e : xv = .ref l) (S : St c H₁ env V ms s₁.heap) (hl : ListH H₁ l vs) (hT : StrsAre vs es)
      (ht : ∀ k tk cenv H' s₃ (E' : Value → Shared → Prop), k ∈ es → H₁.le H' → Rs c.H0 H' cenv (compVB scope env V [(x, .str k tk)]) s₃.heap → (∀ p ∈ ms, s₃.heap.get? p.1 = some p.2) → cenv.scope = relabel scope env →
        wpAny (model prog w) A (testsOf ifs cenv) (fun ok s₄ => ok = t k ∧ GrowTo H' s₃ s₄) E' s₃)
      (he : ∀ k tk cenv H' s₃ (E' : Value → Shared → Prop), k ∈ es → H₁.le H' → Rs c.H0 H' cenv (compVB scope env V [(x, .str k tk)]) s₃.heap → cenv.scope = relabel scope env →
        wpAny (model prog w) A (eval elt cenv) (Elt H' s₃ (G k)) E' s₃)
      (fin : ∀ D ep ys H' h' tk', H₁.le H' → St c H' env V ((D, lsO ys ep) :: ms) h' → All2 G (es.filter t) ys → D ∉ c.X → Q (.ref D) (uP s₁ h' tk'))
theorem str_comp {x : Str} {px pos : Pos} {elt iter : PySem.Expr} {ifs : List PySem.Expr} {scope : Scope} {Q : Value → Shared → Prop} {es : List Str} (t : Str → Bool) (G : Str → Value → Prop) (hh : A.handled = none) (S : St c H env V ms s.heap) (Z : CompScopeB env scope [x]) (hsz : es.length ≤ 10000)
    (h : wpAny (model prog w) A (eval iter env) (ScIn prog w A c env scope x elt ifs V ms es t G Q) E s)
    (hs : ∀ x, foldedSetIterable iter env x = pure x := by intro _; rfl) :
    wpAny (model prog w) A (eval (.ListComp elt [⟨.Name x px, iter, ifs, 0⟩] scope pos) env) Q E s := by
  refine lc hh S Z (fun i H' ys ms' => ms' = ms ∧ All2 G ((es.take i).filter t) ys) (fun _ _ _ _ _ _ h => h) (wpAny_mono h (fun xv s₁ h₁ => ?_) fun _ _ q => q) hs
  obtain ⟨H₁, l, vs, rfl, S₁, hl, hT, ht, he, hfin⟩ := h₁
  refine it_list hh S₁ hl fun it h₂ hF => ?_
  obtain ⟨J, os, W, j0, S₂, hX⟩ := hF x px
  rw [strsLen hT] at W
  refine ⟨_, J, _, H₁, V, ms, os, W, le_line hsz, j0, S₂, hX, ⟨rfl, .nil⟩, LcTurn.pure es t G ?_ ?_ (fun _ _ _ _ h _ => h), ?_⟩
  · rintro i e binds cenv H' s₃ E' hi ⟨v, rfl, hv⟩ le S' hms hsc
    obtain ⟨e', tk, he', rfl⟩ := strsAt hT hv
    rw [hi] at he'; cases he'
    exact ht e tk cenv H' s₃ E' (List.mem_of_getElem? hi) le S' hms hsc
  · rintro i e binds cenv H' s₃ E' hi _ ⟨v, rfl, hv⟩ le S' _ hsc
    obtain ⟨e', tk, he', rfl⟩ := strsAt hT hv
    rw [hi] at he'; cases he'
    exact he e tk cenv H' s₃ E' (List.mem_of_getElem? hi) le S' hsc
  · rintro D ep ys H' ms' h₃ tk₃ le ⟨rfl, hy⟩ S₃ DX
    rw [List.take_length] at hy
    exact hfin D ep ys H' h₃ tk₃ le S₃ hy DX
inductive ZcIn (prog : Program) (w : World) (A : Around) (c : Cx) (env : Env) (scope : Scope) (x y : Str) (px py pt : Pos) (m : Nat) (elt : PySem.Expr) (ifs : List PySem.Expr) (V : Str → Option Value) (n : Nat) (ps : List Str) (args : List Ex) (t : Str × Ex → Bool) (G : Str × Ex → Value → Prop) (Q : Value → Shared → Prop) (xv : Value) (s₁ : Shared) : Prop
  | mk (H₁ : KH) (us zs : List Value) (ms₁ : List (Addr × Obj)) (hu : StrsAre us ps) (hT : All2 (fun v e => TreeAt H₁ n v e) zs args) (F : Fresh prog w A c H₁ env V ms₁ (.Tuple [.Name x px, .Name y py] m pt) (min us.length zs.length) (fun i _ binds => ∃ u z, binds = [(x, u), (y, z)] ∧ us[i]? = some u ∧ zs[i]? = some z) xv s₁.heap)
      (ht : ∀ k tk v e cenv H' s₃ (E' : Value → Shared → Prop), (k, e) ∈ ps.zip args → TreeAt H₁ n v e → H₁.le H' → Rs c.H0 H' cenv (compVB scope env V [(x, .str k tk), (y, v)]) s₃.heap → cenv.scope = relabel scope env →
        wpAny (model prog w) A (testsOf ifs cenv) (fun ok s₄ => ok = t (k, e) ∧ GrowTo H' s₃ s₄) E' s₃)
      (he : ∀ k tk v e cenv H' s₃ (E' : Value → Shared → Prop), (k, e) ∈ ps.zip args → TreeAt H₁ n v e → H₁.le H' → Rs c.H0 H' cenv (compVB scope env V [(x, .str k tk), (y, v)]) s₃.heap → cenv.scope = relabel scope env →
        wpAny (model prog w) A (eval elt cenv) (Elt H' s₃ (G (k, e))) E' s₃)
      (fin : ∀ D ep ys H' h' tk', H₁.le H' → St c H' env V ((D, lsO ys ep) :: ms₁) h' → All2 G ((ps.zip args).filter t) ys → D ∉ c.X → Q (.ref D) (uP s₁ h' tk'))
theorem zip_comp {x y : Str} {px py pt pos : Pos} {m : Nat} {elt iter : PySem.Expr} {ifs : List PySem.Expr} {scope : Scope} {Q : Value → Shared → Prop} {n : Nat} {ps : List Str} {args : List Ex} (t : Str × Ex → Bool) (G : Str × Ex → Value → Prop) (hh : A.handled = none) (S : St c H env V ms s.heap) (Z : CompScopeB env scope [x, y]) (hsz : args.length ≤ 10)
    (h : wpAny (model prog w) A (eval iter env) (ZcIn prog w A c env scope x y px py pt m elt ifs V n ps args t G Q) E s)
    (hs : ∀ x, foldedSetIterable iter env x = pure x := by intro _; rfl) :
    wpAny (model prog w) A (eval (.ListComp elt [⟨.Tuple [.Name x px, .Name y py] m pt, iter, ifs, 0⟩] scope pos) env) Q E s := by
  refine wpAny_mono (Q := Q) ?_ (fun _ _ q => q) fun _ _ q => q
  rw [eval_ListComp]
  refine wpAny_comprehension_free (use := none) rfl hs (clos_ofB S.toRs Z) Z.kind Z.loc (wpAny_mono h (fun xv s₁ h₁ => ?_) fun _ _ e => e)
  obtain ⟨H₁, us, zs, ms₁, hu, hT, ⟨J, os, W, j0, S₁, hX⟩, ht, he, hfin⟩ := h₁
  have own : ∀ p ∈ os, s₁.heap.get? p.1 = some p.2 ∧ H₁ p.1 = none := fun p hp => let ⟨a, b, _⟩ := S₁.mu p (List.mem_append_right _ hp); ⟨a, b⟩
  refine W.self H₁ os s₁ _ _ j0 S₁.kn own ?_
  have e : min us.length zs.length = (ps.zip args).length := by rw [List.length_zip, strsLen hu, hT.len]
  rw [e] at W
  refine lc_block (RR := fun acc C => compPost (model prog w) A E none Q acc C) (fun i H' ys ms' => ms' = ms₁ ∧ All2 G (((ps.zip args).take i).filter t) ys) (fun _ _ _ _ _ _ h => h) hh Z W (le_line (by rw [List.length_zip]; lia)) j0 S₁ hX ⟨rfl, .nil⟩ (LcTurn.pure (ps.zip args) t G ?_ ?_ (fun _ _ _ _ h _ => h)) fun D C oC m' ep ys H' ms' h' tk' le hI S' nC DX CX => ?_
  · rintro i p binds cenv H' s₃ E' hi ⟨u, z, rfl, h1, h2⟩ le S' _ hsc
    obtain ⟨k, tk, hk, rfl⟩ := strsAt hu h1
    obtain ⟨e', he', hTe⟩ := hT.at h2
    have hp : p = (k, e') := by
      have := (List.getElem?_zip_eq_some (z := (k, e'))).mpr ⟨hk, he'⟩
      rw [hi] at this; cases this; rfl
    subst hp
    exact ht k tk z e' cenv H' s₃ E' (List.mem_of_getElem? hi) hTe le S' hsc
  · rintro i p binds cenv H' s₃ E' hi _ ⟨u, z, rfl, h1, h2⟩ le S' _ hsc
    obtain ⟨k, tk, hk, rfl⟩ := strsAt hu h1
    obtain ⟨e', he', hTe⟩ := hT.at h2
    have hp : p = (k, e') := by
      have := (List.getElem?_zip_eq_some (z := (k, e'))).mpr ⟨hk, he'⟩
      rw [hi] at this; cases this; rfl
    subst hp
    exact he k tk z e' cenv H' s₃ E' (List.mem_of_getElem? hi) hTe le S' hsc
  · obtain ⟨rfl, hy⟩ := hI
    rw [List.take_length] at hy
    have eC := (S'.mu (C, oC) (List.mem_append_right _ (.tail _ (.head _)))).1
    refine ⟨m', nC.ns eC, fun h2 hs2 => ?_⟩
    refine hfin D ep ys H' h2 tk' le ?_ hy DX
    have S3 : St c H' env V ((ms' ++ [(D, lsO ys ep)]) ++ [(C, oC)]) h' := by simpa using S'
    have S4 := S3.losesR (h' := h2) (by simpa using CX) fun b o hb e => hs2.extBut b o (by simpa using hb) e
    exact S4.perm List.perm_append_comm
end
section
variable {prog : Program} {w : World} {A : Around} {E : Value → Shared → Prop} {s : Shared} {env : Env} {V : Str → Option Value} {H : KH}
theorem t_isi4 {C a D1 D2 D3 D4 : Addr} {l : List (Str × Value)} {x n1 n2 n3 n4 : Str} {p p1 p2 p3 p4 p5 p6 pos : Pos} {k : Nat} {Q : Bool → Shared → Prop} {c : Cx} {ms : List (Addr × Obj)} (B : Base (KW w) c.H0) (S : St c H env V ms s.heap) (hf : env.kindOf "isinstance" = some .globalImplicit) (hx : V x = some (.ref a)) (hk : env.kindOf x = some .local ∨ env.kindOf x = some .cell) (I : Inst H C a l)
    (hC : C ∈ nodes) (hD : ∀ D ∈ [D1, D2, D3, D4], D ∈ nodes) (hn1 : nsIn (KW w) mainGlobals n1 = some (some (.ref D1))) (hn2 : nsIn (KW w) mainGlobals n2 = some (some (.ref D2))) (hn3 : nsIn (KW w) mainGlobals n3 = some (some (.ref D3))) (hn4 : nsIn (KW w) mainGlobals n4 = some (some (.ref D4)))
    (k1 : env.kindOf n1 = some .globalImplicit) (k2 : env.kindOf n2 = some .globalImplicit) (k3 : env.kindOf n3 = some .globalImplicit) (k4 : env.kindOf n4 = some .globalImplicit) (h : ∀ h' tk, Up s.heap h' → St c H env V ms h' → Q (C == D1 || (C == D2 || (C == D3 || (C == D4 || false)))) (uP s h' tk))
    (e0 : nsIn (KW w) mainGlobals "isinstance" = some none := by rfl) (e1 : bootBuiltins "isinstance" = some (.builtin "isinstance") := by rfl) (hd : (x == ("__debug__" : Str)) = false := by decide) (d1 : (n1 == ("__debug__" : Str)) = false := by decide) (d2 : (n2 == ("__debug__" : Str)) = false := by decide) (d3 : (n3 == ("__debug__" : Str)) = false := by decide) (d4 : (n4 == ("__debug__" : Str)) = false := by decide) :
    wpAny (model prog w) A (isTrue (.Call (.Name "isinstance" p) [.Name x p1, .Tuple [.Name n1 p2, .Name n2 p3, .Name n3 p4, .Name n4 p6] k p5] [] pos) env (eval (.Call (.Name "isinstance" p) [.Name x p1, .Tuple [.Name n1 p2, .Name n2 p3, .Name n3 p4, .Name n4 p6] k p5] [] pos) env)) Q E s := by
  refine wpAny_isTrue_value (ev_callB B S.toRs e0 e1 hf (wpAny_items_cons (ev_var S.toRs hx (wpAny_items_cons ?_) hk hd))) rfl
  refine Tuple_ (wpAny_items_cons (ev_glob B S.toRs hn1 (wpAny_items_cons (ev_glob B S.toRs hn2 (wpAny_items_cons (ev_glob B S.toRs hn3 (wpAny_items_cons (ev_glob B S.toRs hn4 (wpAny_items_nil ?_) k4 d4)) k3 d3)) k2 d2)) k1 d1))
  refine wpAny_newObj_type (wpAny_items_nil ?_) (by show ([.ref D1, .ref D2, .ref D3, .ref D4] : List Value).toArray.size ≤ sizeLine; rw [List.size_toArray, sizeLine_eq]; simp)
  have up := Up.push s.heap { cls := .type "tuple", dict := none, data := .seq ([.ref D1, .ref D2, .ref D3, .ref D4] : List Value).toArray }
  have S₁ := S.up up
  refine isi_tup (s := { s with heap := s.heap.push _ }) (S₁.inK B) S₁.kn I (own_ok hC) (Heap.get?_push_size _ rfl) (isi_any (Ds := [D1, D2, D3, D4]) hC hD) fun tk => wpAny_truthy_bool (h _ tk up S₁)
end
end Mine
end
section
open PySem PySem.W PyProof.Rows PySem.Calls
set_option maxRecDepth 10000
set_option linter.unusedVariables false
namespace Mine
theorem any_true {α : Type} (es : List α) (f : α → Bool) : (es.any fun e => f e == true) = es.any f := by congr 1; funext e; simp
theorem not_any_false {α : Type} (es : List α) (f : α → Bool) : (!(es.any fun e => f e == false)) = es.all f := by
  induction es with
  | nil => rfl
  | cons e r ih =>
    rw [List.any_cons, List.all_cons, Bool.not_or, ih]
    cases f e <;> rfl
theorem filter_true {α : Type} (es : List α) : (es.filter fun _ => true) = es := List.filter_eq_self.mpr fun _ _ => rfl
theorem reachLoop_inv {sr : Str → Ex → Bool} {binds : List (Str × Ex)} (hnd : (binds.map fun q : Str × Ex => q.1).Nodup) : ∀ (k i : Nat) (found : List Str), found.Nodup → (∀ f ∈ found, f ∈ binds.map fun q : Str × Ex => q.1) →
    (reachLoop sr binds k i found).Nodup ∧ ∀ f ∈ reachLoop sr binds k i found, f ∈ binds.map fun q : Str × Ex => q.1
  | 0, _, _, h1, h2 => ⟨h1, h2⟩
  | k + 1, i, found, h1, h2 => by
    unfold reachLoop
    cases found[i]? with
    | none => exact ⟨h1, h2⟩
    | some name => exact reachLoop_inv hnd k (i + 1) _ (reachAdd_nodup hnd h1) (reachAdd_sub h2)
theorem reachedF_nodup {sr : Str → Ex → Bool} {binds : List (Str × Ex)} {b : Ex} (hnd : (binds.map fun q : Str × Ex => q.1).Nodup) : (reachedF sr binds b).Nodup :=
  (reachLoop_inv hnd _ _ _ (hnd.sublist List.filter_sublist) fun f hf => (List.mem_filter.mp hf).1).1
theorem reachLoop_sub {sr : Str → Ex → Bool} {binds : List (Str × Ex)} : ∀ (k i : Nat) (found : List Str), (∀ f ∈ found, f ∈ binds.map fun q : Str × Ex => q.1) → ∀ f ∈ reachLoop sr binds k i found, f ∈ binds.map fun q : Str × Ex => q.1
  | 0, _, _, h2 => h2
  | k + 1, i, found, h2 => by
    unfold reachLoop
    cases found[i]? with
    | none => exact h2
    | some name => exact reachLoop_sub k (i + 1) _ (reachAdd_sub h2)
theorem reachedF_sub {sr : Str → Ex → Bool} {binds : List (Str × Ex)} {b : Ex} : ∀ m ∈ reachedF sr binds b, m ∈ binds.map fun q : Str × Ex => q.1 :=
  reachLoop_sub _ _ _ fun f hf => (List.mem_filter.mp hf).1
section
variable {prog : Program} {w : World} {A : Around} {H0 H : KH}
set_option maxHeartbeats 4000000 in
theorem dead_step {n : Nat} (B : Base (KW w) H0) (DA : DeadAt prog w H0 n) (SA : SureAt prog w H0 n) (hn5 : n ≤ 4) : DeadAt prog w H0 (n + 1) := by
  intro A H v e l0 R hT hF s E Q kn hQ
  refine absG fun gG hgG => ?_
  obtain ⟨a, fl, rfl, I⟩ := hT.inst
  refine hgG ?_; clear hgG
  refine call_fn (ms := []) (binds := [("expr", .ref a)]) B l0 kn (fun _ h => nomatch h) .nil R.depth rfl rfl rfl rfl rfl rfl rfl ?_
  intro Lc h₁ tk S
  have R' : ∀ env, Room (A.deeper env) (10 * n + 13) := fun _ => (R.mo).deeper
  have hC := clsOf_node e
  have hQ2 : ∀ (b : Bool) (H' : KH) (h' : Heap) (tk : Nat), Grow H s.heap H' h' → b = deadF (n + 1) e → Q (.bool b) (uP s h' tk) := fun b H' h' tk G q => hQ _ H' h' tk G (by rw [q])
  refine xs (xif (t_isi4 (s := uP s h₁ tk) B S rfl rfl (by walk_at "VK") I hC (by simp [nodes]) rfl rfl rfl rfl rfl rfl rfl rfl fun h₂ tk₂ up S₂ => ?_))
  cases e with
  | var x => exact xs (wpAny_Return_some (wpAny_Constant_bool (hQ2 _ _ _ _ S₂.post.grow rfl)))
  | lit => exact xs (wpAny_Return_some (wpAny_Constant_bool (hQ2 _ _ _ _ S₂.post.grow rfl)))
  | con => exact xs (wpAny_Return_some (wpAny_Constant_bool (hQ2 _ _ _ _ S₂.post.grow rfl)))
  | prim err args =>
    refine wpAny_execs_nil (xs (xif (t_isi (s := uP s h₂ tk₂) B S₂.toRs rfl rfl (by walk_at "VK") I hC (by walk_at "MEM") rfl rfl fun tk₃ => ?_)))
    refine absG fun gG hgG => ?_
    obtain ⟨a', l, vs, t, e1, I', L, hargs⟩ := hT
    refine hgG ?_; clear hgG
    cases e1
    refine xs (wpAny_Return_some (BoolOp_or (wpAny_Compare1 (ev_attr (s := uP s h₂ tk₃) B S₂.toRs rfl (by walk_at "VK") I' (by walk_at "AT") (by walk_at "MEM") rfl fun tk4 => wpAny_Constant_str (t_eqStr (wpAny_truthy_bool ?_))) rfl)))
    cases err with
    | true => exact hQ2 _ _ _ _ S₂.post.grow rfl
    | false =>
      refine BoolOp_one (wpAny_Compare1 (wpAny_Constant_bool ?_) rfl)
      refine tree_comp (n := n) (es := args) (fun _ => true) (fun e y => y = .bool (deadF n e)) R.hd S₂ (.of rfl) (by have := hF.1; lia) ?_
      refine ev_attr (s := uP s h₂ _) B S₂.toRs rfl (by walk_at "VK") I' (by walk_at "AT") (by walk_at "MEM") rfl fun tk5 => ⟨H, l, vs, rfl, S₂, L, hargs, ?_, ?_, ?_⟩
      · intro v e cenv H' s₃ E' _ _ _ S' _
        exact tests_nil ⟨rfl, grow_refl' S'.kn⟩
      · intro v e cenv H' s₃ E' he hTe le S' hsc
        refine ev_callK B S' rfl (lk hsc rfl) rfl (wpAny_items_cons (ev_var S' rfl (wpAny_items_nil ⟨S'.inK B, ?_⟩) (.inl (lk hsc rfl))))
        exact DA _ H' v e S'.b0 ((R' _).mo) (hTe.le le) (hF.2 e he) _ _ _ S'.kn fun rv H2 h2 tk2 G2 hr => ⟨hr, H2, h2, tk2, rfl, G2⟩
      · intro D ep ys H' h' tk' le S' hy DX
        rw [filter_true] at hy
        refine in_bools (s := uP s h' tk') ⟨_, (S'.mu _ (.head _)).1, rfl, _, rfl⟩ hy ?_
        refine hQ2 _ _ _ _ (S'.drop DX).post.grow ?_
        rw [any_true]
        show _ = (false || args.any (deadF n))
        simp
  | case e cn alts o =>
    refine wpAny_execs_nil (xs (xif (t_isi (s := uP s h₂ tk₂) B S₂.toRs rfl rfl (by walk_at "VK") I hC (by walk_at "MEM") rfl rfl fun tk₃ => ?_)))
    refine wpAny_execs_nil (xs (xif (t_isi (s := uP s h₂ tk₃) B S₂.toRs rfl rfl (by walk_at "VK") I hC (by walk_at "MEM") rfl rfl fun tk₄ => ?_)))
    refine absG fun gG hgG => ?_
    obtain ⟨a', l, vs, ve, vo, t, e1, I', hTe, L, hA, hO⟩ := hT
    refine hgG ?_; clear hgG
    cases e1
    have hO' : OthAt H n vo o := by cases o <;> exact hO
    refine absG fun gG hgG => ?_
    obtain ⟨hF1, hF2, hF3, hF4, _⟩ := hF
    refine hgG ?_; clear hgG
    have hFw : ∀ x ∈ waysF alts o, Few n x := fun x hx => by
      unfold waysF at hx
      rcases List.mem_append.mp hx with m | m
      · obtain ⟨p, hp, rfl⟩ := List.mem_map.mp m; exact hF3 p hp
      · exact hF4 x (by simpa using m)
    have hwl : (waysF alts o).length ≤ 10 := by
      unfold waysF
      rw [List.length_append, List.length_map]
      have : o.toList.length ≤ 1 := by cases o <;> simp
      lia
    refine absG fun gG hgG => ?_
    obtain ⟨ae, le', rfl, _⟩ := hTe.inst
    refine hgG ?_; clear hgG
    refine xs (wpAny_Return_some (BoolOp_or ?_))
    refine ev_callK (s := uP s h₂ tk₄) B S₂.toRs rfl rfl rfl (wpAny_items_cons (ev_attr (s := uP s h₂ tk₄) B S₂.toRs rfl (by walk_at "VK") I' (by walk_at "AT") (by walk_at "MEM") rfl fun tk5 => wpAny_items_nil ⟨S₂.inK B, ?_⟩))
    refine DA _ H _ e S₂.b0 ((R' _).mo) hTe hF1 _ _ _ S₂.kn fun rv H3 h3 tk3 G3 hr => ?_
    subst hr
    have S₃ := S₂.grow G3
    refine wpAny_truthy_bool ?_
    cases hd1 : deadF n e with
    | true => exact hQ2 _ _ _ _ S₃.post.grow (by show true = (deadF n e || (waysF alts o).all (deadF n)); rw [hd1]; rfl)
    | false =>
      refine BoolOp_one (wpAny_Compare1 (wpAny_Constant_bool ?_) rfl)
      refine tree_comp (n := n) (es := waysF alts o) (fun _ => true) (fun e y => y = .bool (deadF n e)) R.hd S₃ (.of rfl) hwl ?_
      refine ev_callK (s := uP s h3 tk3) B S₃.toRs rfl rfl rfl (wpAny_items_cons (ev_var (s := uP s h3 tk3) S₃.toRs rfl (wpAny_items_nil ⟨S₃.inK B, ?_⟩) (by walk_at "VK")))
      refine ways_spec B S₃.b0 ((R' _).mo) (I'.le G3.le) (by walk_at "MEM") (by walk_at "MEM") (L.le G3.le) (AltsAt.le G3.le hA) (OthAt.le G3.le hO') hF2 _ _ _ S₃.kn fun rv H4 h4 tk4 G4 hr => ?_
      refine absG fun gG hgG => ?_
      obtain ⟨lw, ws, rfl, hlw, hws⟩ := hr
      refine hgG ?_; clear hgG
      refine ⟨H4, lw, ws, rfl, S₃.grow G4, hlw, hws, ?_, ?_, ?_⟩
      · intro v e cenv H' s₃ E' _ _ _ S' _
        exact tests_nil ⟨rfl, grow_refl' S'.kn⟩
      · intro v e cenv H' s₃ E' he hTe le S' hsc
        refine ev_callK B S' rfl (lk hsc rfl) rfl (wpAny_items_cons (ev_var S' rfl (wpAny_items_nil ⟨S'.inK B, ?_⟩) (.inl (lk hsc rfl))))
        exact DA _ H' v e S'.b0 ((R' _).mo) (hTe.le le) (hFw e he) _ _ _ S'.kn fun rv H2 h2 tk2 G2 hr => ⟨hr, H2, h2, tk2, rfl, G2⟩
      · intro D ep ys H' h' tk' le S' hy DX
        rw [filter_true] at hy
        refine notin_bools (s := uP s h' tk') ⟨_, (S'.mu _ (.head _)).1, rfl, _, rfl⟩ hy ?_
        refine hQ2 _ _ _ _ (S'.drop DX).post.grow ?_
        rw [not_any_false]
        show _ = (deadF n e || (waysF alts o).all (deadF n))
        rw [hd1]; rfl
  | let_ binds b r =>
    refine wpAny_execs_nil (xs (xif (t_isi (s := uP s h₂ tk₂) B S₂.toRs rfl rfl (by walk_at "VK") I hC (by walk_at "MEM") rfl rfl fun tk₃ => ?_)))
    refine wpAny_execs_nil (xs (xif (t_isi (s := uP s h₂ tk₃) B S₂.toRs rfl rfl (by walk_at "VK") I hC (by walk_at "MEM") rfl rfl fun tk₄ => ?_)))
    refine wpAny_execs_nil (xs (xif (t_isi (s := uP s h₂ tk₄) B S₂.toRs rfl rfl (by walk_at "VK") I hC (by walk_at "MEM") rfl rfl fun tk₅ => ?_)))
    refine absG fun gG hgG => ?_
    obtain ⟨a', l, vs, vb, e1, I', L, hb, hTb⟩ := hT
    refine hgG ?_; clear hgG
    cases e1
    refine absG fun gG hgG => ?_
    obtain ⟨hF1, hF2, hF3, hF4⟩ := hF
    refine hgG ?_; clear hgG
    have hb' : BindsAt H n vs binds := hb
    have hvl : vs.length = binds.length := hb.len
    refine absG fun gG hgG => ?_
    obtain ⟨kvs, hw1, hw2, hw3⟩ := BindsAt.wait hb'
    refine hgG ?_; clear hgG
    have hkl : kvs.length = binds.length := waitLen hw1
    refine absG fun gG hgG => ?_
    obtain ⟨ab, lb, rfl, _⟩ := hTb.inst
    refine hgG ?_; clear hgG
    have hnd : (binds.map fun q : Str × Ex => q.1).Nodup := hF2
    refine xs (wpAny_Assign_Name (ev_callT (s := uP s h₂ tk₅) B S₂.toRs rfl rfl rfl (wpAny_items_cons (ev_attr (s := uP s h₂ tk₅) B S₂.toRs rfl (by walk_at "VK") I' (by walk_at "AT") (by walk_at "MEM") rfl fun tk' => wpAny_items_nil ?_))))
    obtain ⟨epl, hel⟩ := id L
    refine call_dict_pairs (s := uP s h₂ tk') (by exact R.hd) (S₂.kn _ _ hel) (hw3 _ S₂.kn) (by rw [hw2]; exact hnd) (le_line (by first | decide | lia)) fun W oW h₃ tk₃' up₃ frW eW oWd => ?_
    have S₃ := S₂.new up₃ frW eW
    have WX := S₂.notX frW
    have Wm := S₂.toRs.noMod B frW
    have S₄ := S₃.freeze WX
    have l4 := addH_le (o := oW) (S₃.mu _ (.head _)).2.1
    have hW : DictH prog w (addH H W oW) W kvs := ⟨Wm, oW, addH_self, oWd⟩
    generalize addH H W oW = H₄ at *
    refine St.store (s := uP s h₃ tk₃') S₄ (by walk_at "VK") fun h₅ tk₅' S₅ => ?_
    refine xs (wpAny_Return_some (BoolOp_or ?_))
    refine ev_callK (s := uP s h₅ tk₅') B S₅.toRs rfl rfl rfl (wpAny_items_cons (ev_attr (s := uP s h₅ tk₅') B S₅.toRs rfl (by walk_at "VK") (I'.le l4) (by walk_at "AT") (by walk_at "MEM") rfl fun tk5 => wpAny_items_nil ⟨S₅.inK B, ?_⟩))
    refine DA _ H₄ _ b S₅.b0 ((R' _).mo) (hTb.le l4) hF4 _ _ _ S₅.kn fun rv H6 h6 tk6 G6 hr => ?_
    subst hr
    have S₆ := S₅.grow G6
    refine wpAny_truthy_bool ?_
    have l6 := l4.trans G6.le
    cases hd1 : deadF n b with
    | true => exact hQ2 _ _ _ _ S₆.post.grow (by show true = (deadF n b || (reachedF (sureF n) binds b).any fun m => deadF n (rowF binds m)); rw [hd1]; rfl)
    | false =>
      refine BoolOp_one (wpAny_Compare1 (wpAny_Constant_bool ?_) rfl)
      have hrs : ∀ m ∈ reachedF (sureF n) binds b, m ∈ binds.map fun q : Str × Ex => q.1 := reachedF_sub
      refine str_comp (es := reachedF (sureF n) binds b) (fun _ => true) (fun m y => y = .bool (deadF n (rowF binds m))) R.hd S₆ (.of rfl) (Nat.le_trans (nodup_len _ _ (reachedF_nodup hnd) hrs) (by rw [List.length_map]; lia)) ?_
      refine ev_callK (s := uP s h6 tk6) B S₆.toRs rfl rfl rfl (wpAny_items_cons (ev_var (s := uP s h6 tk6) S₆.toRs rfl (wpAny_items_nil ⟨S₆.inK B, ?_⟩) (by walk_at "VK")))
      refine reached_spec B SA S₆.b0 ((R' _).mo) (I'.le l6) (by walk_at "MEM") (by walk_at "MEM") (L.le l6) (hb'.le l6) (hTb.le l6) hF1 hnd hF3 hF4 _ _ _ S₆.kn fun rv H7 h7 tk7 G7 hr => ?_
      refine absG fun gG hgG => ?_
      obtain ⟨lr, ys, rfl, hlr, hys⟩ := hr
      refine hgG ?_; clear hgG
      have l7 := l6.trans G7.le
      refine ⟨H7, lr, ys, rfl, S₆.grow G7, hlr, hys, ?_, ?_, ?_⟩
      · intro k tk cenv H' s₃ E' _ _ S' _ _
        exact tests_nil ⟨rfl, grow_refl' S'.kn⟩
      · intro k tk cenv H' s₃ E' hk le S' hsc
        obtain ⟨eN, hlk⟩ := lookup_of_mem (hrs k hk)
        have hrow : rowF binds k = eN := by unfold rowF; rw [hlk]; rfl
        have hFe : Few n eN := hF3 _ (mem_of_lookup hlk)
        obtain ⟨vN, hvN, hTN⟩ := (hw1.le (l7.trans le)).at_some hlk
        refine ev_callK B S' rfl (lk hsc rfl) rfl (wpAny_items_cons ?_)
        refine wpAny_Subscript_Name_late (ev_var S' rfl (ev_var S' rfl (sub_dict (((hW.le G6.le).le G7.le).le le) S'.kn hvN fun tk3 => wpAny_items_nil ⟨S'.inK B, ?_⟩) (.inl (lk hsc rfl))) (.inr (lk hsc rfl)))
        refine DA _ H' vN eN S'.b0 ((R' _).mo) hTN hFe _ _ _ S'.kn fun rv H2 h2 tk2 G2 hr => ⟨by rw [hr, hrow], H2, h2, tk2, rfl, G2⟩
      · intro D ep ys' H' h' tk' le S' hy DX
        rw [filter_true] at hy
        refine in_bools (s := uP s h' tk') ⟨_, (S'.mu _ (.head _)).1, rfl, _, rfl⟩ hy ?_
        refine hQ2 _ _ _ _ (S'.drop DX).post.grow ?_
        rw [any_true]
        show _ = (deadF n b || (reachedF (sureF n) binds b).any fun m => deadF n (rowF binds m))
        rw [hd1]; rfl
  | appv f args =>
    refine wpAny_execs_nil (xs (xif (t_isi (s := uP s h₂ tk₂) B S₂.toRs rfl rfl (by walk_at "VK") I hC (by walk_at "MEM") rfl rfl fun tk₃ => ?_)))
    refine wpAny_execs_nil (xs (xif (t_isi (s := uP s h₂ tk₃) B S₂.toRs rfl rfl (by walk_at "VK") I hC (by walk_at "MEM") rfl rfl fun tk₄ => ?_)))
    refine wpAny_execs_nil (xs (xif (t_isi (s := uP s h₂ tk₄) B S₂.toRs rfl rfl (by walk_at "VK") I hC (by walk_at "MEM") rfl rfl fun tk₅ => ?_)))
    refine absG fun gG hgG => ?_
    obtain ⟨a', af, l, vs, t, e1, I1, I2, L, hargs⟩ := hT
    refine hgG ?_; clear hgG
    cases e1
    refine wpAny_execs_nil (xs (if_t (wpAny_isTrue_BoolOp (wpAny_allTrue_Or_cons (t_isi2 (s := uP s h₂ tk₅) B S₂.toRs rfl rfl (by walk_at "VK") I1 (by walk_at "AT") (by walk_at "MEM") I2 (by walk_at "MEM") (by walk_at "MEM") rfl rfl fun tk6 => ⟨rfl, ?_⟩)))))
    exact xs (wpAny_Return_some (wpAny_Constant_bool (hQ2 _ _ _ _ S₂.post.grow rfl)))
  | appl ps b args =>
    refine wpAny_execs_nil (xs (xif (t_isi (s := uP s h₂ tk₂) B S₂.toRs rfl rfl (by walk_at "VK") I hC (by walk_at "MEM") rfl rfl fun tk₃ => ?_)))
    refine wpAny_execs_nil (xs (xif (t_isi (s := uP s h₂ tk₃) B S₂.toRs rfl rfl (by walk_at "VK") I hC (by walk_at "MEM") rfl rfl fun tk₄ => ?_)))
    refine wpAny_execs_nil (xs (xif (t_isi (s := uP s h₂ tk₄) B S₂.toRs rfl rfl (by walk_at "VK") I hC (by walk_at "MEM") rfl rfl fun tk₅ => ?_)))
    refine absG fun gG hgG => ?_
    obtain ⟨a', af, lp, pvs, vb, l, vs, e1, I1, I2, Lp, sps, hTb, L, hargs⟩ := hT
    refine hgG ?_; clear hgG
    cases e1
    refine absG fun gG hgG => ?_
    obtain ⟨hF1, hF2, hF3, hF4⟩ := hF
    refine hgG ?_; clear hgG
    have hlen : vs.length = args.length := hargs.len
    have hplen : pvs.length = ps.length := strsLen sps
    refine absG fun gG hgG => ?_
    obtain ⟨ab, lb, rfl, _⟩ := hTb.inst
    refine hgG ?_; clear hgG
    refine wpAny_execs_nil (xs (xif (wpAny_isTrue_BoolOp (wpAny_allTrue_Or_cons (t_isi2 (s := uP s h₂ tk₅) B S₂.toRs rfl rfl (by walk_at "VK") I1 (by walk_at "AT") (by walk_at "MEM") I2 (by walk_at "MEM") (by walk_at "MEM") rfl rfl fun tk6 => ?_)))))
    refine wpAny_allTrue_Or_cons (wpAny_isTrue_Compare1 ?_ rfl)
    refine ev_callB (s := uP s h₂ tk6) B S₂.toRs rfl rfl rfl (wpAny_items_cons (ev_attr (s := uP s h₂ tk6) B S₂.toRs rfl (by walk_at "VK") I1 (by walk_at "AT") (by walk_at "MEM") rfl fun tk' => wpAny_items_nil ?_))
    refine len_list (s := uP s h₂ tk') (L.at S₂.kn) (by rw [List.size_toArray]; lia) ?_
    refine ev_callB (s := uP s h₂ _) B S₂.toRs rfl rfl rfl (wpAny_items_cons (ev_attr2 (s := uP s h₂ _) B S₂.toRs rfl (by walk_at "VK") I1 (by walk_at "AT") (by walk_at "MEM") I2 (by walk_at "AT") (by walk_at "MEM") rfl fun tk' => wpAny_items_nil ?_))
    refine len_list (s := uP s h₂ tk') (Lp.at S₂.kn) (by rw [List.size_toArray]; lia) ?_
    refine lt_int (wpAny_truthy_bool ?_)
    have e : decide ((vs.toArray.size : Int) < pvs.toArray.size) = decide (args.length < ps.length) := by
      rw [List.size_toArray, List.size_toArray, hlen, hplen]; exact decide_eq_decide.mpr Int.ofNat_lt
    rw [e]
    have eD : deadF (n + 1) (.appl ps b args) = if args.length < ps.length then false else deadF n b || (ps.zip args).any fun p => sureF n p.1 b && deadF n p.2 := rfl
    by_cases hc : args.length < ps.length
    · rw [decide_eq_true hc]
      rw [if_pos hc] at eD
      exact xs (wpAny_Return_some (wpAny_Constant_bool (hQ2 _ _ _ _ S₂.post.grow eD.symm)))
    rw [decide_eq_false hc]
    rw [if_neg hc] at eD
    refine wpAny_allTrue_Or_nil (wpAny_execs_nil ?_)
    refine xs (wpAny_Assign_Name ?_)
    refine ev_callT (s := uP s h₂ _) B S₂.toRs rfl rfl rfl (wpAny_items_cons (ev_attr2 (s := uP s h₂ _) B S₂.toRs rfl (by walk_at "VK") I1 (by walk_at "AT") (by walk_at "MEM") I2 (by walk_at "AT") (by walk_at "MEM") rfl fun tk7 => wpAny_items_cons (ev_attr (s := uP s h₂ tk7) B S₂.toRs rfl (by walk_at "VK") I1 (by walk_at "AT") (by walk_at "MEM") rfl fun tk8 => wpAny_items_nil ?_)))
    refine zip_new (s := uP s h₂ tk8) R.hd S₂ Lp L fun z H₃ h₃ l3 hF => ?_
    obtain ⟨J, os, Wz, j0, S₃, hX⟩ := hF "one" "arg" _ _ _ 0
    refine St.store (s := uP s h₃ tk8) S₃ (by walk_at "VK") fun h₅ tk₅' S₅ => ?_
    refine xs (wpAny_Return_some (BoolOp_or ?_))
    refine ev_callK (s := uP s h₅ tk₅') B S₅.toRs rfl rfl rfl (wpAny_items_cons (ev_attr2 (s := uP s h₅ tk₅') B S₅.toRs rfl (by walk_at "VK") (I1.le l3) (by walk_at "AT") (by walk_at "MEM") (I2.le l3) (by walk_at "AT") (by walk_at "MEM") rfl fun tk5 => wpAny_items_nil ⟨S₅.inK B, ?_⟩))
    refine DA _ H₃ _ b S₅.b0 ((R' _).mo) (hTb.le l3) hF2 _ _ _ S₅.kn fun rv H6 h6 tk6 G6 hr => ?_
    subst hr
    have S₆ := S₅.grow G6
    have l6 := l3.trans G6.le
    refine wpAny_truthy_bool ?_
    cases hd1 : deadF n b with
    | true => exact hQ2 _ _ _ _ (S₆.dropR (r := []) hX).post.grow (by rw [eD, hd1]; rfl)
    | false =>
      refine BoolOp_one (wpAny_Compare1 (wpAny_Constant_bool ?_) rfl)
      refine zip_comp (n := n) (ps := ps) (args := args) (fun _ => true) (fun p y => y = .bool (sureF n p.1 b && deadF n p.2)) R.hd S₆ (.of rfl) (by first | decide | lia) ?_
      refine ev_var (s := uP s h6 tk6) S₆.toRs rfl ?_ (by walk_at "VK")
      refine ⟨H6, pvs, vs, [], sps, hargs.imp fun v e t => TreeAt.le l6 _ _ _ t, ⟨J, os, Wz, Wz.mono _ _ _ _ j0 G6.le, S₆, hX⟩, ?_, ?_, ?_⟩
      · intro k tk v e cenv H' s₃ E' _ _ _ S' _
        exact tests_nil ⟨rfl, grow_refl' S'.kn⟩
      · intro k tk v e cenv H' s₃ E' hke hTe le S' hsc
        have hFe := hF4 e (List.of_mem_zip hke).2
        refine BoolOp_and ?_
        refine ev_callK B S' rfl (lk hsc rfl) rfl (wpAny_items_cons (ev_var S' rfl (wpAny_items_cons (ev_attr2 B S' rfl (.inr (lk hsc rfl)) ((I1.le l6).le le) (by walk_at "AT") (by walk_at "MEM") ((I2.le l6).le le) (by walk_at "AT") (by walk_at "MEM") rfl fun tk5 => wpAny_items_nil ⟨S'.inK B, ?_⟩)) (.inl (lk hsc rfl))))
        refine SA _ H' _ b k tk S'.b0 ((R' _).mo) ((hTb.le l6).le le) hF2 _ _ _ S'.kn fun rv H2 h2 tk2 G2 hr => ?_
        subst hr
        refine wpAny_truthy_bool ?_
        cases hsr : sureF n k b with
        | false => exact ⟨by simp [hsr], H2, h2, tk2, rfl, G2⟩
        | true =>
          have S2 := S'.grow G2
          refine BoolOp_one (ev_callK (s := uP s₃ h2 tk2) B S2 rfl (lk hsc rfl) rfl (wpAny_items_cons (ev_var (s := uP s₃ h2 tk2) S2 rfl (wpAny_items_nil ⟨S2.inK B, ?_⟩) (.inl (lk hsc rfl)))))
          refine DA _ H2 v e S2.b0 ((R' _).mo) ((hTe.le le).le G2.le) hFe _ _ _ S2.kn fun rv H3 h3 tk3 G3 hr => ⟨by rw [hr]; simp [hsr], H3, h3, tk3, rfl, G2.trans G3⟩
      · intro D ep ys' H' h' tk' le S' hy DX
        rw [filter_true] at hy
        refine in_bools (s := uP s h' tk') ⟨_, (S'.mu _ (.head _)).1, rfl, _, rfl⟩ hy ?_
        refine hQ2 _ _ _ _ (S'.drop DX).post.grow ?_
        rw [any_true, eD, hd1]; rfl
end
end Mine
end
section
open PySem PySem.W PyProof.Rows PySem.Calls
set_option maxRecDepth 10000
set_option linter.unusedVariables false
namespace Mine
section
variable {prog : Program} {w : World} {A : Around} {E : Value → Shared → Prop} {s : Shared} {c : Cx} {H H0 : KH} {env : Env} {V : Str → Option Value} {ms : List (Addr × Obj)}
inductive TcInA (prog : Program) (w : World) (A : Around) (c : Cx) (env : Env) (scope : Scope) (x y : Str) (elt : PySem.Expr) (ifs : List PySem.Expr) (V : Str → Option Value) (ms : List (Addr × Obj)) (n : Nat) (es : List Ex) (t : Ex → Bool) (Q : Flow → Shared → Prop) (xv : Value) (s₁ : Shared) : Prop
  | mk (H₁ : KH) (l : Addr) (vs : List Value) (e : xv = .ref l) (S : St c H₁ env V ms s₁.heap) (hl : ListH H₁ l vs) (hT : All2 (fun v e => TreeAt H₁ n v e) vs es)
      (ht : ∀ v e cenv H' s₃ (E' : Value → Shared → Prop), e ∈ es → TreeAt H₁ n v e → H₁.le H' → Rs c.H0 H' cenv (compVB scope env V [(x, v)]) s₃.heap → cenv.scope = relabel scope env →
        wpAny (model prog w) A (testsOf ifs cenv) (fun ok s₄ => ok = t e ∧ GrowTo H' s₃ s₄) E' s₃)
      (he : ∀ v e cenv H' s₃ (E' : Value → Shared → Prop), e ∈ es → TreeAt H₁ n v e → H₁.le H' → Rs c.H0 H' cenv (compVB scope env V [(x, v)]) s₃.heap → cenv.scope = relabel scope env →
        wpAny (model prog w) A (eval elt cenv) (Elt H' s₃ (fun z => TreeAt H₁ n z e)) E' s₃)
      (fin : ∀ D ep ys H' h' tk', H₁.le H' → St c H' env (setV V y (.ref D)) ((D, lsO ys ep) :: ms) h' → All2 (fun e z => TreeAt H₁ n z e) (es.filter t) ys → D ∉ c.X → Q .next (uP s₁ h' tk'))
theorem tree_comp_assign {x y : Str} {px py pos spos : Pos} {elt iter : PySem.Expr} {ifs : List PySem.Expr} {scope : Scope} {Q : Flow → Shared → Prop} {n : Nat} {es : List Ex} (t : Ex → Bool) (hh : A.handled = none) (S : St c H env V ms s.heap) (Z : CompScopeB env scope [x]) (hsz : es.length ≤ 10)
    (hsw : swapsWith (.ListComp elt [⟨.Name x px, iter, ifs, 0⟩] scope pos) (some (.Name y py)) spos.line env = pure true) (hy : env.kindOf y = some .local ∨ env.kindOf y = some .cell)
    (h : wpAny (model prog w) A (eval iter env) (TcInA prog w A c env scope x y elt ifs V ms n es t Q) E s)
    (hs : ∀ x, foldedSetIterable iter env x = pure x := by intro _; rfl) :
    wpAny (model prog w) A (exec (.Assign [.Name y py] (.ListComp elt [⟨.Name x px, iter, ifs, 0⟩] scope pos) spos) env) Q E s := by
  rw [exec_Assign_Name_used _ _ _ _ hsw]
  refine wpAny_bind (wpAny_standAt (wpAny_bind ?_))
  show wpAny _ A (do let _ ← comprehension (.ListComp elt [⟨.Name x px, iter, ifs, 0⟩] scope pos) scope env _ (newList []) false (eval iter env) (some (assign (.Name y py) env))) _ _ s
  refine wpAny_bind (wpAny_mono (wpAny_comprehension_free (use := some (assign (.Name y py) env)) (Q := fun _ s' => Q .next s') rfl hs (clos_ofB S.toRs Z) Z.kind Z.loc
    (wpAny_mono h (fun xv s₁ h₁ => ?_) fun _ _ e => e)) (fun _ s' hq => wpAny_pure (wpAny_pure hq)) fun _ _ e => e)
  refine absG fun gG hgG => ?_
  obtain ⟨H₁, l, vs, rfl, S₁, hl, hT, ht, he, hfin⟩ := h₁
  refine hgG ?_; clear hgG
  refine it_list hh S₁ hl fun it h₂ hF => ?_
  refine absG fun gG hgG => ?_
  obtain ⟨J, os, W, j0, S₂, hX⟩ := hF x px
  refine hgG ?_; clear hgG
  rw [hT.len] at W
  refine lc_block (RR := fun acc C => compPost (model prog w) A E (some (assign (.Name y py) env)) (fun _ s' => Q .next s') acc C) (fun i H' ys ms' => ms' = ms ∧ All2 (fun e z => TreeAt H₁ n z e) ((es.take i).filter t) ys) (fun _ _ _ _ _ _ h => h) hh Z W (le_line (by first | decide | lia)) j0 S₂ hX ⟨rfl, .nil⟩ (LcTurn.pure es t (fun e z => TreeAt H₁ n z e) ?_ ?_ (fun _ _ _ _ h _ => h)) fun D C oC m' ep ys H' ms' h' tk' le hI S' nC DX CX => ?_
  · intro i e binds cenv H' s₃ E' hi rI8 le S' _ hsc
    refine absG fun gG hgG => ?_
    obtain ⟨v, rfl, hv⟩ := rI8
    refine hgG ?_; clear hgG
    obtain ⟨e', he', hTe⟩ := hT.at hv
    rw [hi] at he'; cases he'
    exact ht v e cenv H' s₃ E' (List.mem_of_getElem? hi) hTe le S' hsc
  · intro i e binds cenv H' s₃ E' hi _ rI9 le S' _ hsc
    refine absG fun gG hgG => ?_
    obtain ⟨v, rfl, hv⟩ := rI9
    refine hgG ?_; clear hgG
    obtain ⟨e', he', hTe⟩ := hT.at hv
    rw [hi] at he'; cases he'
    exact he v e cenv H' s₃ E' (List.mem_of_getElem? hi) hTe le S' hsc
  · obtain ⟨rfl, hys⟩ := hI
    rw [List.take_length] at hys
    show wpAny _ A (assign (.Name y py) env (.ref D)) _ _ _
    refine wpAny_assign_Name (St.store S' hy fun h₃ tk₃ S₃ => ?_)
    have eC := (S₃.mu (C, oC) (List.mem_append_right _ (.tail _ (.head _)))).1
    refine ⟨m', nC.ns eC, fun h2 hs2 => ?_⟩
    refine hfin D ep ys H' h2 _ le ?_ hys DX
    have S3 : St c H' env (setV V y (.ref D)) ((ms' ++ [(D, lsO ys ep)]) ++ [(C, oC)]) h₃ := by simpa using S₃
    have S4 := S3.losesR (h' := h2) (by simpa using CX) fun b o hb e => hs2.extBut b o (by simpa using hb) e
    exact S4.perm List.perm_append_comm
end
section
variable {prog : Program} {w : World} {A : Around} {H0 H : KH}
set_option maxHeartbeats 4000000 in
theorem sure_step {n : Nat} (B : Base (KW w) H0) (DA : DeadAt prog w H0 n) (SA : SureAt prog w H0 n) (hn5 : n ≤ 4) : SureAt prog w H0 (n + 1) := by
  intro A H v e x tx l0 R hT hF s E Q kn hQ
  refine absG fun gG hgG => ?_
  obtain ⟨a, fl, rfl, I⟩ := hT.inst
  refine hgG ?_; clear hgG
  refine call_fn (ms := []) (binds := [("name", .str x tx), ("expr", .ref a)]) B l0 kn (fun _ h => nomatch h) .nil R.depth rfl rfl rfl rfl rfl rfl rfl ?_
  intro Lc h₁ tk S
  have R' : ∀ env, Room (A.deeper env) (10 * n + 13) := fun _ => (R.mo).deeper
  have hC := clsOf_node e
  have hQ2 : ∀ (b : Bool) (H' : KH) (h' : Heap) (tk : Nat), Grow H s.heap H' h' → b = sureF (n + 1) x e → Q (.bool b) (uP s h' tk) := fun b H' h' tk G q => hQ _ H' h' tk G (by rw [q])
  refine xs (xif (t_isi (s := uP s h₁ tk) B S.toRs rfl rfl (by walk_at "VK") I hC (by walk_at "MEM") rfl rfl fun tk₁ => ?_))
  cases e with
  | var y =>
    refine absG fun gG hgG => ?_
    obtain ⟨a', t, e1, I'⟩ := hT
    refine hgG ?_; clear hgG
    cases e1
    refine xs (wpAny_Return_some (wpAny_Compare1 (ev_attr (s := uP s h₁ tk₁) B S.toRs rfl (by walk_at "VK") I' (by walk_at "AT") (by walk_at "MEM") rfl fun tk4 => ev_var (s := uP s h₁ tk4) S.toRs rfl (t_eqStr ?_) (by walk_at "VK")) rfl))
    exact hQ2 _ _ _ _ S.post.grow rfl
  | lit =>
    refine wpAny_execs_nil (xs (xif (t_isi3 (s := uP s h₁ tk₁) B S rfl rfl (by walk_at "VK") I hC (by simp [nodes]) rfl rfl rfl rfl rfl rfl fun h₂ tk₂ up S₂ => ?_)))
    exact xs (wpAny_Return_some (wpAny_Constant_bool (hQ2 _ _ _ _ S₂.post.grow rfl)))
  | con =>
    refine wpAny_execs_nil (xs (xif (t_isi3 (s := uP s h₁ tk₁) B S rfl rfl (by walk_at "VK") I hC (by simp [nodes]) rfl rfl rfl rfl rfl rfl fun h₂ tk₂ up S₂ => ?_)))
    exact xs (wpAny_Return_some (wpAny_Constant_bool (hQ2 _ _ _ _ S₂.post.grow rfl)))
  | prim err args =>
    refine wpAny_execs_nil (xs (xif (t_isi3 (s := uP s h₁ tk₁) B S rfl rfl (by walk_at "VK") I hC (by simp [nodes]) rfl rfl rfl rfl rfl rfl fun h₂ tk₂ up S₂ => ?_)))
    refine wpAny_execs_nil (xs (xif (t_isi (s := uP s h₂ tk₂) B S₂.toRs rfl rfl (by walk_at "VK") I hC (by walk_at "MEM") rfl rfl fun tk₃ => ?_)))
    refine absG fun gG hgG => ?_
    obtain ⟨a', l, vs, t, e1, I', L, hargs⟩ := hT
    refine hgG ?_; clear hgG
    cases e1
    refine xs (wpAny_Return_some (wpAny_Compare1 (wpAny_Constant_bool ?_) rfl))
    refine tree_comp (n := n) (es := args) (fun _ => true) (fun e y => y = .bool (sureF n x e)) R.hd S₂ (.of rfl) (by have := hF.1; lia) ?_
    refine ev_attr (s := uP s h₂ _) B S₂.toRs rfl (by walk_at "VK") I' (by walk_at "AT") (by walk_at "MEM") rfl fun tk5 => ⟨H, l, vs, rfl, S₂, L, hargs, ?_, ?_, ?_⟩
    · intro v e cenv H' s₃ E' _ _ _ S' _
      exact tests_nil ⟨rfl, grow_refl' S'.kn⟩
    · intro v e cenv H' s₃ E' he hTe le S' hsc
      refine ev_callK B S' rfl (lk hsc rfl) rfl (wpAny_items_cons (ev_var S' rfl (wpAny_items_cons (ev_var S' rfl (wpAny_items_nil ⟨S'.inK B, ?_⟩) (.inl (lk hsc rfl)))) (.inr (lk hsc rfl))))
      exact SA _ H' v e x tx S'.b0 ((R' _).mo) (hTe.le le) (hF.2 e he) _ _ _ S'.kn fun rv H2 h2 tk2 G2 hr => ⟨hr, H2, h2, tk2, rfl, G2⟩
    · intro D ep ys H' h' tk' le S' hy DX
      rw [filter_true] at hy
      refine in_bools (s := uP s h' tk') ⟨_, (S'.mu _ (.head _)).1, rfl, _, rfl⟩ hy ?_
      refine hQ2 _ _ _ _ (S'.drop DX).post.grow ?_
      rw [any_true]; rfl
  | case e cn alts o =>
    refine wpAny_execs_nil (xs (xif (t_isi3 (s := uP s h₁ tk₁) B S rfl rfl (by walk_at "VK") I hC (by simp [nodes]) rfl rfl rfl rfl rfl rfl fun h₂ tk₂ up S₂ => ?_)))
    refine wpAny_execs_nil (xs (xif (t_isi (s := uP s h₂ tk₂) B S₂.toRs rfl rfl (by walk_at "VK") I hC (by walk_at "MEM") rfl rfl fun tk₃ => ?_)))
    refine wpAny_execs_nil (xs (xif (t_isi (s := uP s h₂ tk₃) B S₂.toRs rfl rfl (by walk_at "VK") I hC (by walk_at "MEM") rfl rfl fun tk₄ => ?_)))
    refine absG fun gG hgG => ?_
    obtain ⟨a', l, vs, ve, vo, t, e1, I', hTe, L, hA, hO⟩ := hT
    refine hgG ?_; clear hgG
    cases e1
    have hO' : OthAt H n vo o := by cases o <;> exact hO
    refine absG fun gG hgG => ?_
    obtain ⟨hF1, hF2, hF3, hF4, _⟩ := hF
    refine hgG ?_; clear hgG
    have hFw : ∀ x ∈ waysF alts o, Few n x := fun x hx => by
      unfold waysF at hx
      rcases List.mem_append.mp hx with m | m
      · obtain ⟨p, hp, rfl⟩ := List.mem_map.mp m; exact hF3 p hp
      · exact hF4 x (by simpa using m)
    have hwl : (waysF alts o).length ≤ 10 := by
      unfold waysF
      rw [List.length_append, List.length_map]
      have : o.toList.length ≤ 1 := by cases o <;> simp
      lia
    refine absG fun gG hgG => ?_
    obtain ⟨ae, le', rfl, _⟩ := hTe.inst
    refine hgG ?_; clear hgG
    refine xs ?_
    refine tree_comp_assign (n := n) (es := waysF alts o) (fun e => !(deadF n e)) R.hd S₂ (.of rfl) hwl rfl (by walk_at "VK") ?_
    refine ev_callK (s := uP s h₂ tk₄) B S₂.toRs rfl rfl rfl (wpAny_items_cons (ev_var (s := uP s h₂ tk₄) S₂.toRs rfl (wpAny_items_nil ⟨S₂.inK B, ?_⟩) (by walk_at "VK")))
    refine ways_spec B S₂.b0 ((R' _).mo) I' (by walk_at "MEM") (by walk_at "MEM") L hA hO' hF2 _ _ _ S₂.kn fun rv H4 h4 tk4 G4 hr => ?_
    refine absG fun gG hgG => ?_
    obtain ⟨lw, ws, rfl, hlw, hws⟩ := hr
    refine hgG ?_; clear hgG
    refine ⟨H4, lw, ws, rfl, S₂.grow G4, hlw, hws, ?_, ?_, ?_⟩
    · intro v e cenv H' s₃ E' he hTe le S' hsc
      refine tests_one (wpAny_isTrue_Not (wpAny_isTrue_value ?_ rfl))
      refine ev_callK B S' rfl (lk hsc rfl) rfl (wpAny_items_cons (ev_var S' rfl (wpAny_items_nil ⟨S'.inK B, ?_⟩) (.inl (lk hsc rfl))))
      refine DA _ H' v e S'.b0 ((R' _).mo) (hTe.le le) (hFw e he) _ _ _ S'.kn fun rv H2 h2 tk2 G2 hr => ?_
      subst hr
      exact wpAny_truthy_bool ⟨rfl, H2, h2, tk2, rfl, G2⟩
    · intro v e cenv H' s₃ E' he hTe le S' hsc
      exact ev_var S' rfl ⟨hTe, grow_refl' S'.kn⟩ (.inl (lk hsc rfl))
    · intro D ep ys H5 h5 tk5 le5 S5 hy DX
      have S6 := S5.freeze DX
      have l56 := addH_le (o := lsO ys ep) (S5.mu _ (.head _)).2.1
      have hal : ListH (addH H5 D (lsO ys ep)) D ys := ⟨ep, addH_self⟩
      have l6 := (G4.le.trans le5).trans l56
      have l46 := le5.trans l56
      generalize addH H5 D (lsO ys ep) = H6 at *
      refine xs (wpAny_Return_some (BoolOp_or ?_))
      refine ev_callK (s := uP s h5 tk5) B S6.toRs rfl rfl rfl (wpAny_items_cons (ev_var (s := uP s h5 tk5) S6.toRs rfl (wpAny_items_cons (ev_attr (s := uP s h5 tk5) B S6.toRs rfl (by walk_at "VK") (I'.le l6) (by walk_at "AT") (by walk_at "MEM") rfl fun tk5 => wpAny_items_nil ⟨S6.inK B, ?_⟩)) (by walk_at "VK")))
      refine SA _ H6 _ e x tx S6.b0 ((R' _).mo) (hTe.le l6) hF1 _ _ _ S6.kn fun rv H7 h7 tk7 G7 hr => ?_
      subst hr
      have S7 := S6.grow G7
      refine wpAny_truthy_bool ?_
      have eS : sureF (n + 1) x (.case e cn alts o) = (sureF n x e || ((waysF alts o).filter fun w => !(deadF n w)).all (sureF n x)) := rfl
      cases hd1 : sureF n x e with
      | true => exact hQ2 _ _ _ _ S7.post.grow (by rw [eS, hd1]; rfl)
      | false =>
        refine BoolOp_one (wpAny_Compare1 (wpAny_Constant_bool ?_) rfl)
        refine tree_comp (n := n) (es := (waysF alts o).filter fun w => !(deadF n w)) (fun _ => true) (fun e y => y = .bool (sureF n x e)) R.hd S7 (.of rfl) (Nat.le_trans (List.length_filter_le _ _) hwl) ?_
        refine ev_var (s := uP s h7 tk7) S7.toRs rfl ?_ (by walk_at "VK")
        refine ⟨H7, D, ys, rfl, S7, hal.le G7.le, hy.flip.imp fun v e t => TreeAt.le (l46.trans G7.le) _ _ _ t, ?_, ?_, ?_⟩
        · intro v e cenv H' s₃ E' _ _ _ S' _
          exact tests_nil ⟨rfl, grow_refl' S'.kn⟩
        · intro v e cenv H' s₃ E' he hTe le S' hsc
          refine ev_callK B S' rfl (lk hsc rfl) rfl (wpAny_items_cons (ev_var S' rfl (wpAny_items_cons (ev_var S' rfl (wpAny_items_nil ⟨S'.inK B, ?_⟩) (.inl (lk hsc rfl)))) (.inr (lk hsc rfl))))
          exact SA _ H' v e x tx S'.b0 ((R' _).mo) (hTe.le le) (hFw e (List.mem_filter.mp he).1) _ _ _ S'.kn fun rv H2 h2 tk2 G2 hr => ⟨hr, H2, h2, tk2, rfl, G2⟩
        · intro D' ep' ys' H' h' tk' le S' hy' DX'
          rw [filter_true] at hy'
          refine notin_bools (s := uP s h' tk') ⟨_, (S'.mu _ (.head _)).1, rfl, _, rfl⟩ hy' ?_
          refine hQ2 _ _ _ _ (S'.drop DX').post.grow ?_
          rw [not_any_false, eS, hd1]; rfl
  | let_ binds b r =>
    refine wpAny_execs_nil (xs (xif (t_isi3 (s := uP s h₁ tk₁) B S rfl rfl (by walk_at "VK") I hC (by simp [nodes]) rfl rfl rfl rfl rfl rfl fun h₂ tk₂ up S₂ => ?_)))
    refine wpAny_execs_nil (xs (xif (t_isi (s := uP s h₂ tk₂) B S₂.toRs rfl rfl (by walk_at "VK") I hC (by walk_at "MEM") rfl rfl fun tk₃ => ?_)))
    refine wpAny_execs_nil (xs (xif (t_isi (s := uP s h₂ tk₃) B S₂.toRs rfl rfl (by walk_at "VK") I hC (by walk_at "MEM") rfl rfl fun tk₄ => ?_)))
    refine wpAny_execs_nil (xs (xif (t_isi (s := uP s h₂ tk₄) B S₂.toRs rfl rfl (by walk_at "VK") I hC (by walk_at "MEM") rfl rfl fun tk₆ => ?_)))
    refine absG fun gG hgG => ?_
    obtain ⟨a', l, vs, vb, e1, I', L, hb, hTb⟩ := hT
    refine hgG ?_; clear hgG
    cases e1
    refine absG fun gG hgG => ?_
    obtain ⟨hF1, hF2, hF3, hF4⟩ := hF
    refine hgG ?_; clear hgG
    have hb' : BindsAt H n vs binds := hb
    have hvl : vs.length = binds.length := hb.len
    refine absG fun gG hgG => ?_
    obtain ⟨kvs, hw1, hw2, hw3⟩ := BindsAt.wait hb'
    refine hgG ?_; clear hgG
    have hkl : kvs.length = binds.length := waitLen hw1
    refine absG fun gG hgG => ?_
    obtain ⟨ab, lb, rfl, _⟩ := hTb.inst
    refine hgG ?_; clear hgG
    have hnd : (binds.map fun q : Str × Ex => q.1).Nodup := hF2
    refine xs (wpAny_Assign_Name (ev_callT (s := uP s h₂ tk₆) B S₂.toRs rfl rfl rfl (wpAny_items_cons (ev_attr (s := uP s h₂ tk₆) B S₂.toRs rfl (by walk_at "VK") I' (by walk_at "AT") (by walk_at "MEM") rfl fun tk' => wpAny_items_nil ?_))))
    obtain ⟨epl, hel⟩ := id L
    refine call_dict_pairs (s := uP s h₂ tk') (by exact R.hd) (S₂.kn _ _ hel) (hw3 _ S₂.kn) (by rw [hw2]; exact hnd) (le_line (by first | decide | lia)) fun W oW h₃ tk₃' up₃ frW eW oWd => ?_
    have S₃ := S₂.new up₃ frW eW
    have WX := S₂.notX frW
    have Wm := S₂.toRs.noMod B frW
    have S₄ := S₃.freeze WX
    have l4 := addH_le (o := oW) (S₃.mu _ (.head _)).2.1
    have hW : DictH prog w (addH H W oW) W kvs := ⟨Wm, oW, addH_self, oWd⟩
    generalize addH H W oW = H₄ at *
    refine St.store (s := uP s h₃ tk₃') S₄ (by walk_at "VK") fun h₅ tk₆' S₅ => ?_
    refine xs (wpAny_Return_some (BoolOp_or ?_))
    refine ev_callK (s := uP s h₅ tk₆') B S₅.toRs rfl rfl rfl (wpAny_items_cons (ev_var (s := uP s h₅ tk₆') S₅.toRs rfl (wpAny_items_cons (ev_attr (s := uP s h₅ tk₆') B S₅.toRs rfl (by walk_at "VK") (I'.le l4) (by walk_at "AT") (by walk_at "MEM") rfl fun tk5 => wpAny_items_nil ⟨S₅.inK B, ?_⟩)) (by walk_at "VK")))
    refine SA _ H₄ _ b x tx S₅.b0 ((R' _).mo) (hTb.le l4) hF4 _ _ _ S₅.kn fun rv H6 h6 tk6 G6 hr => ?_
    subst hr
    have S₆ := S₅.grow G6
    refine wpAny_truthy_bool ?_
    have l6 := l4.trans G6.le
    cases hd1 : sureF n x b with
    | true => exact hQ2 _ _ _ _ S₆.post.grow (by show true = (sureF n x b || (reachedF (sureF n) binds b).any fun m => sureF n x (rowF binds m)); rw [hd1]; rfl)
    | false =>
      refine BoolOp_one (wpAny_Compare1 (wpAny_Constant_bool ?_) rfl)
      have hrs : ∀ m ∈ reachedF (sureF n) binds b, m ∈ binds.map fun q : Str × Ex => q.1 := reachedF_sub
      refine str_comp (es := reachedF (sureF n) binds b) (fun _ => true) (fun m y => y = .bool (sureF n x (rowF binds m))) R.hd S₆ (.of rfl) (Nat.le_trans (nodup_len _ _ (reachedF_nodup hnd) hrs) (by rw [List.length_map]; lia)) ?_
      refine ev_callK (s := uP s h6 tk6) B S₆.toRs rfl rfl rfl (wpAny_items_cons (ev_var (s := uP s h6 tk6) S₆.toRs rfl (wpAny_items_nil ⟨S₆.inK B, ?_⟩) (by walk_at "VK")))
      refine reached_spec B SA S₆.b0 ((R' _).mo) (I'.le l6) (by walk_at "MEM") (by walk_at "MEM") (L.le l6) (hb'.le l6) (hTb.le l6) hF1 hnd hF3 hF4 _ _ _ S₆.kn fun rv H7 h7 tk7 G7 hr => ?_
      refine absG fun gG hgG => ?_
      obtain ⟨lr, ys, rfl, hlr, hys⟩ := hr
      refine hgG ?_; clear hgG
      have l7 := l6.trans G7.le
      refine ⟨H7, lr, ys, rfl, S₆.grow G7, hlr, hys, ?_, ?_, ?_⟩
      · intro k tk cenv H' s₃ E' _ _ S' _ _
        exact tests_nil ⟨rfl, grow_refl' S'.kn⟩
      · intro k tk cenv H' s₃ E' hk le S' hsc
        obtain ⟨eN, hlk⟩ := lookup_of_mem (hrs k hk)
        have hrow : rowF binds k = eN := by unfold rowF; rw [hlk]; rfl
        have hFe : Few n eN := hF3 _ (mem_of_lookup hlk)
        obtain ⟨vN, hvN, hTN⟩ := (hw1.le (l7.trans le)).at_some hlk
        refine ev_callK B S' rfl (lk hsc rfl) rfl (wpAny_items_cons (ev_var S' rfl (wpAny_items_cons ?_) (.inr (lk hsc rfl))))
        refine wpAny_Subscript_Name_late (ev_var S' rfl (ev_var S' rfl (sub_dict (((hW.le G6.le).le G7.le).le le) S'.kn hvN fun tk3 => wpAny_items_nil ⟨S'.inK B, ?_⟩) (.inl (lk hsc rfl))) (.inr (lk hsc rfl)))
        refine SA _ H' vN eN x tx S'.b0 ((R' _).mo) hTN hFe _ _ _ S'.kn fun rv H2 h2 tk2 G2 hr => ⟨by rw [hr, hrow], H2, h2, tk2, rfl, G2⟩
      · intro D ep ys' H' h' tk' le S' hy DX
        rw [filter_true] at hy
        refine in_bools (s := uP s h' tk') ⟨_, (S'.mu _ (.head _)).1, rfl, _, rfl⟩ hy ?_
        refine hQ2 _ _ _ _ (S'.drop DX).post.grow ?_
        rw [any_true]
        show _ = (sureF n x b || (reachedF (sureF n) binds b).any fun m => sureF n x (rowF binds m))
        rw [hd1]; rfl
  | appv f args =>
    refine wpAny_execs_nil (xs (xif (t_isi3 (s := uP s h₁ tk₁) B S rfl rfl (by walk_at "VK") I hC (by simp [nodes]) rfl rfl rfl rfl rfl rfl fun h₂ tk₂ up S₂ => ?_)))
    refine wpAny_execs_nil (xs (xif (t_isi (s := uP s h₂ tk₂) B S₂.toRs rfl rfl (by walk_at "VK") I hC (by walk_at "MEM") rfl rfl fun tk₃ => ?_)))
    refine wpAny_execs_nil (xs (xif (t_isi (s := uP s h₂ tk₃) B S₂.toRs rfl rfl (by walk_at "VK") I hC (by walk_at "MEM") rfl rfl fun tk₄ => ?_)))
    refine wpAny_execs_nil (xs (xif (t_isi (s := uP s h₂ tk₄) B S₂.toRs rfl rfl (by walk_at "VK") I hC (by walk_at "MEM") rfl rfl fun tk₅ => ?_)))
    refine absG fun gG hgG => ?_
    obtain ⟨a', af, l, vs, t, e1, I1, I2, L, hargs⟩ := hT
    refine hgG ?_; clear hgG
    cases e1
    refine wpAny_execs_nil (xs (if_t (t_isi2 (s := uP s h₂ tk₅) B S₂.toRs rfl rfl (by walk_at "VK") I1 (by walk_at "AT") (by walk_at "MEM") I2 (by walk_at "MEM") (by walk_at "MEM") rfl rfl fun tk6 => ⟨rfl, ?_⟩)))
    refine xs (wpAny_Return_some (wpAny_Compare1 (ev_attr2 (s := uP s h₂ tk6) B S₂.toRs rfl (by walk_at "VK") I1 (by walk_at "AT") (by walk_at "MEM") I2 (by walk_at "AT") (by walk_at "MEM") rfl fun tk7 => ev_var (s := uP s h₂ tk7) S₂.toRs rfl (t_eqStr ?_) (by walk_at "VK")) rfl))
    exact hQ2 _ _ _ _ S₂.post.grow rfl
  | appl ps b args =>
    refine wpAny_execs_nil (xs (xif (t_isi3 (s := uP s h₁ tk₁) B S rfl rfl (by walk_at "VK") I hC (by simp [nodes]) rfl rfl rfl rfl rfl rfl fun h₂ tk₂ up S₂ => ?_)))
    refine wpAny_execs_nil (xs (xif (t_isi (s := uP s h₂ tk₂) B S₂.toRs rfl rfl (by walk_at "VK") I hC (by walk_at "MEM") rfl rfl fun tk₃ => ?_)))
    refine wpAny_execs_nil (xs (xif (t_isi (s := uP s h₂ tk₃) B S₂.toRs rfl rfl (by walk_at "VK") I hC (by walk_at "MEM") rfl rfl fun tk₄ => ?_)))
    refine wpAny_execs_nil (xs (xif (t_isi (s := uP s h₂ tk₄) B S₂.toRs rfl rfl (by walk_at "VK") I hC (by walk_at "MEM") rfl rfl fun tk₅ => ?_)))
    refine absG fun gG hgG => ?_
    obtain ⟨a', af, lp, pvs, vb, l, vs, e1, I1, I2, Lp, sps, hTb, L, hargs⟩ := hT
    refine hgG ?_; clear hgG
    cases e1
    refine absG fun gG hgG => ?_
    obtain ⟨hF1, hF2, hF3, hF4⟩ := hF
    refine hgG ?_; clear hgG
    have hlen : vs.length = args.length := hargs.len
    have hplen : pvs.length = ps.length := strsLen sps
    refine absG fun gG hgG => ?_
    obtain ⟨ab, lb, rfl, _⟩ := hTb.inst
    refine hgG ?_; clear hgG
    refine wpAny_execs_nil (xs (if_f (t_isi2 (s := uP s h₂ tk₅) B S₂.toRs rfl rfl (by walk_at "VK") I1 (by walk_at "AT") (by walk_at "MEM") I2 (by walk_at "MEM") (by walk_at "MEM") rfl rfl fun tk6 => ⟨rfl, wpAny_execs_nil ?_⟩)))
    refine xs (xif (wpAny_isTrue_Compare1 ?_ rfl))
    refine ev_callB (s := uP s h₂ tk6) B S₂.toRs rfl rfl rfl (wpAny_items_cons (ev_attr (s := uP s h₂ tk6) B S₂.toRs rfl (by walk_at "VK") I1 (by walk_at "AT") (by walk_at "MEM") rfl fun tk' => wpAny_items_nil ?_))
    refine len_list (s := uP s h₂ tk') (L.at S₂.kn) (by rw [List.size_toArray]; lia) ?_
    refine ev_callB (s := uP s h₂ _) B S₂.toRs rfl rfl rfl (wpAny_items_cons (ev_attr2 (s := uP s h₂ _) B S₂.toRs rfl (by walk_at "VK") I1 (by walk_at "AT") (by walk_at "MEM") I2 (by walk_at "AT") (by walk_at "MEM") rfl fun tk' => wpAny_items_nil ?_))
    refine len_list (s := uP s h₂ tk') (Lp.at S₂.kn) (by rw [List.size_toArray]; lia) ?_
    refine lt_int (wpAny_truthy_bool ?_)
    have e : decide ((vs.toArray.size : Int) < pvs.toArray.size) = decide (args.length < ps.length) := by
      rw [List.size_toArray, List.size_toArray, hlen, hplen]; exact decide_eq_decide.mpr Int.ofNat_lt
    rw [e]
    have eD : sureF (n + 1) x (.appl ps b args) = if args.length < ps.length then false else if sureF n x b then true else (ps.zip args).any fun p => sureF n p.1 b && sureF n x p.2 := rfl
    by_cases hc : args.length < ps.length
    · rw [decide_eq_true hc]
      rw [if_pos hc] at eD
      exact xs (wpAny_Return_some (wpAny_Constant_bool (hQ2 _ _ _ _ S₂.post.grow eD.symm)))
    rw [decide_eq_false hc]
    rw [if_neg hc] at eD
    refine wpAny_execs_nil ?_
    refine xs (xif (wpAny_isTrue_value ?_ rfl))
    refine ev_callK (s := uP s h₂ _) B S₂.toRs rfl rfl rfl (wpAny_items_cons (ev_var (s := uP s h₂ _) S₂.toRs rfl (wpAny_items_cons (ev_attr2 (s := uP s h₂ _) B S₂.toRs rfl (by walk_at "VK") I1 (by walk_at "AT") (by walk_at "MEM") I2 (by walk_at "AT") (by walk_at "MEM") rfl fun tk5 => wpAny_items_nil ⟨S₂.inK B, ?_⟩)) (by walk_at "VK")))
    refine SA _ H _ b x tx S₂.b0 ((R' _).mo) hTb hF2 _ _ _ S₂.kn fun rv H6 h6 tk6 G6 hr => ?_
    subst hr
    have S₆ := S₂.grow G6
    have l6 := G6.le
    refine wpAny_truthy_bool ?_
    cases hd1 : sureF n x b with
    | true =>
      rw [hd1] at eD
      exact xs (wpAny_Return_some (wpAny_Constant_bool (hQ2 _ _ _ _ S₆.post.grow eD.symm)))
    | false =>
      rw [hd1] at eD
      refine wpAny_execs_nil ?_
      refine xs (wpAny_Assign_Name ?_)
      refine ev_callT (s := uP s h6 tk6) B S₆.toRs rfl rfl rfl (wpAny_items_cons (ev_attr2 (s := uP s h6 tk6) B S₆.toRs rfl (by walk_at "VK") (I1.le l6) (by walk_at "AT") (by walk_at "MEM") (I2.le l6) (by walk_at "AT") (by walk_at "MEM") rfl fun tk7 => wpAny_items_cons (ev_attr (s := uP s h6 tk7) B S₆.toRs rfl (by walk_at "VK") (I1.le l6) (by walk_at "AT") (by walk_at "MEM") rfl fun tk8 => wpAny_items_nil ?_)))
      refine zip_new (s := uP s h6 tk8) R.hd S₆ (Lp.le l6) (L.le l6) fun z H₃ h₃ l3 hF => ?_
      obtain ⟨J, os, Wz, j0, S₃, hX⟩ := hF "one" "arg" _ _ _ 0
      have l63 := l6.trans l3
      refine St.store (s := uP s h₃ tk8) S₃ (by walk_at "VK") fun h₅ tk₅' S₅ => ?_
      refine xs (wpAny_Return_some (wpAny_Compare1 (wpAny_Constant_bool ?_) rfl))
      refine zip_comp (n := n) (ps := ps) (args := args) (fun _ => true) (fun p y => y = .bool (sureF n p.1 b && sureF n x p.2)) R.hd S₅ (.of rfl) (by first | decide | lia) ?_
      refine ev_var (s := uP s h₅ tk₅') S₅.toRs rfl ?_ (by walk_at "VK")
      refine ⟨H₃, pvs, vs, [], sps, hargs.imp fun v e t => TreeAt.le l63 _ _ _ t, ⟨J, os, Wz, j0, S₅, hX⟩, ?_, ?_, ?_⟩
      · intro k tk v e cenv H' s₃ E' _ _ _ S' _
        exact tests_nil ⟨rfl, grow_refl' S'.kn⟩
      · intro k tk v e cenv H' s₃ E' hke hTe le S' hsc
        have hFe := hF4 e (List.of_mem_zip hke).2
        refine BoolOp_and ?_
        refine ev_callK B S' rfl (lk hsc rfl) rfl (wpAny_items_cons (ev_var S' rfl (wpAny_items_cons (ev_attr2 B S' rfl (.inr (lk hsc rfl)) ((I1.le l63).le le) (by walk_at "AT") (by walk_at "MEM") ((I2.le l63).le le) (by walk_at "AT") (by walk_at "MEM") rfl fun tk5 => wpAny_items_nil ⟨S'.inK B, ?_⟩)) (.inl (lk hsc rfl))))
        refine SA _ H' _ b k tk S'.b0 ((R' _).mo) ((hTb.le l63).le le) hF2 _ _ _ S'.kn fun rv H2 h2 tk2 G2 hr => ?_
        subst hr
        refine wpAny_truthy_bool ?_
        cases hsr : sureF n k b with
        | false => exact ⟨by simp [hsr], H2, h2, tk2, rfl, G2⟩
        | true =>
          have S2 := S'.grow G2
          refine BoolOp_one (ev_callK (s := uP s₃ h2 tk2) B S2 rfl (lk hsc rfl) rfl (wpAny_items_cons (ev_var (s := uP s₃ h2 tk2) S2 rfl (wpAny_items_cons (ev_var (s := uP s₃ h2 tk2) S2 rfl (wpAny_items_nil ⟨S2.inK B, ?_⟩) (.inl (lk hsc rfl)))) (.inr (lk hsc rfl)))))
          refine SA _ H2 v e x tx S2.b0 ((R' _).mo) ((hTe.le le).le G2.le) hFe _ _ _ S2.kn fun rv H3 h3 tk3 G3 hr => ⟨by rw [hr]; simp [hsr], H3, h3, tk3, rfl, G2.trans G3⟩
      · intro D ep ys' H' h' tk' le S' hy DX
        rw [filter_true] at hy
        refine in_bools (s := uP s h' tk') ⟨_, (S'.mu _ (.head _)).1, rfl, _, rfl⟩ hy ?_
        refine hQ2 _ _ _ _ (S'.drop DX).post.grow ?_
        rw [any_true, eD]; rfl
theorem walks_at (B : Base (KW w) H0) : ∀ n, n ≤ 5 → DeadAt prog w H0 n ∧ SureAt prog w H0 n
  | 0, _ => ⟨fun A H v e l0 R hT => hT.elim, fun A H v e x t l0 R hT => hT.elim⟩
  | n + 1, h =>
    have ⟨d, s⟩ := walks_at B n (by first | decide | lia)
    ⟨dead_step B d s (by first | decide | lia), sure_step B d s (by first | decide | lia)⟩
end
end Mine
end
section
open PySem PySem.W PyProof.Rows PySem.Calls
set_option maxRecDepth 10000
set_option linter.unusedVariables false
namespace Mine
noncomputable def ComesAt (prog : Program) (w : World) (H0 : KH) (n : Nat) : Prop := ∀ (A : Around) (H : KH) (v : Value) (e : Ex) (ll : Addr) (lvs : List Value) (lost : List Str), H0.le H → Room A (10 * n + 5) → TreeAt H n v e → Few n e → ListH H ll lvs → StrsAre lvs lost → lost.length + 2 * n ≤ 1000 →
  Pure prog w A H 567 [v, .ref ll] (fun _ r => r = .bool (comesF n e lost))
theorem goneF_len {cm : Ex → List Str → Bool} {binds : List (Str × Ex)} {r : Bool} {lost : List Str} : ∀ k, (goneF cm binds r lost k).length ≤ lost.length + binds.length
  | 0 => Nat.le_add_right _ _
  | k + 1 => by
    show (goneStep cm binds r lost (goneF cm binds r lost k)).length ≤ _
    unfold goneStep
    rw [List.length_append, List.length_map]
    exact Nat.add_le_add_left (List.length_filter_le _ _) _
section
variable {prog : Program} {w : World} {A : Around} {H0 H : KH}
set_option maxHeartbeats 4000000 in
theorem comes_step {n : Nat} (B : Base (KW w) H0) (CA : ComesAt prog w H0 n) (hn5 : n ≤ 4) : ComesAt prog w H0 (n + 1) := by
  intro A H v e ll lvs lost l0 R hT hF hll hlost hsz s E Q kn hQ
  refine absG fun gG hgG => ?_
  obtain ⟨a, fl, rfl, I⟩ := hT.inst
  refine hgG ?_; clear hgG
  refine call_fn (ms := []) (binds := [("expr", .ref a), ("lost", .ref ll)]) B l0 kn (fun _ h => nomatch h) .nil R.depth rfl rfl rfl rfl rfl rfl rfl ?_
  intro Lc h₁ tk S
  have R' : ∀ env, Room (A.deeper env) (10 * n + 13) := fun _ => (R.mo).deeper
  have hC := clsOf_node e
  have hll' := strsLen hlost
  have hQ2 : ∀ (b : Bool) (H' : KH) (h' : Heap) (tk : Nat), Grow H s.heap H' h' → b = comesF (n + 1) e lost → Q (.bool b) (uP s h' tk) := fun b H' h' tk G q => hQ _ H' h' tk G (by rw [q])
  refine xs (xif (t_isi (s := uP s h₁ tk) B S.toRs rfl rfl (by walk_at "VK") I hC (by walk_at "MEM") rfl rfl fun tk₁ => ?_))
  cases e with
  | var y =>
    refine absG fun gG hgG => ?_
    obtain ⟨a', t, e1, I'⟩ := hT
    refine hgG ?_; clear hgG
    cases e1
    refine xs (wpAny_Return_some (wpAny_Compare1 (ev_attr (s := uP s h₁ tk₁) B S.toRs rfl (by walk_at "VK") I' (by walk_at "AT") (by walk_at "MEM") rfl fun tk4 => ev_var (s := uP s h₁ tk4) S.toRs rfl (notin_list_strs (s := uP s h₁ tk4) (hll.at S.kn) hlost ?_) (by walk_at "VK")) rfl))
    exact hQ2 _ _ _ _ S.post.grow rfl
  | prim err args =>
    refine wpAny_execs_nil (xs (xif (t_isi (s := uP s h₁ tk₁) B S.toRs rfl rfl (by walk_at "VK") I hC (by walk_at "MEM") rfl rfl fun tk₃ => ?_)))
    refine absG fun gG hgG => ?_
    obtain ⟨a', l, vs, t, e1, I', L, hargs⟩ := hT
    refine hgG ?_; clear hgG
    cases e1
    refine xs (wpAny_Return_some (BoolOp_and (wpAny_Compare1 (ev_attr (s := uP s h₁ tk₃) B S.toRs rfl (by walk_at "VK") I' (by walk_at "AT") (by walk_at "MEM") rfl fun tk4 => wpAny_Constant_str (ne_str ?_)) rfl)))
    cases err with
    | true => exact wpAny_truthy_bool (hQ2 _ _ _ _ S.post.grow rfl)
    | false =>
      refine wpAny_truthy_bool ?_
      refine BoolOp_one (wpAny_Compare1 (wpAny_Constant_bool ?_) rfl)
      refine tree_comp (n := n) (es := args) (fun _ => true) (fun e y => y = .bool (comesF n e lost)) R.hd S (.of rfl) (by have := hF.1; lia) ?_
      refine ev_attr (s := uP s h₁ _) B S.toRs rfl (by walk_at "VK") I' (by walk_at "AT") (by walk_at "MEM") rfl fun tk5 => ⟨H, l, vs, rfl, S, L, hargs, ?_, ?_, ?_⟩
      · intro v e cenv H' s₃ E' _ _ _ S' _
        exact tests_nil ⟨rfl, grow_refl' S'.kn⟩
      · intro v e cenv H' s₃ E' he hTe le S' hsc
        refine ev_callK B S' rfl (lk hsc rfl) rfl (wpAny_items_cons (ev_var S' rfl (wpAny_items_cons (ev_var S' rfl (wpAny_items_nil ⟨S'.inK B, ?_⟩) (.inr (lk hsc rfl)))) (.inl (lk hsc rfl))))
        exact CA _ H' v e ll lvs lost S'.b0 ((R' _).mo) (hTe.le le) (hF.2 e he) (hll.le le) hlost (by first | decide | lia) _ _ _ S'.kn fun rv H2 h2 tk2 G2 hr => ⟨hr, H2, h2, tk2, rfl, G2⟩
      · intro D ep ys H' h' tk' le S' hy DX
        rw [filter_true] at hy
        refine notin_bools (s := uP s h' tk') ⟨_, (S'.mu _ (.head _)).1, rfl, _, rfl⟩ hy ?_
        refine hQ2 _ _ _ _ (S'.drop DX).post.grow ?_
        rw [not_any_false]
        show _ = (!false && args.all fun a => comesF n a lost)
        rfl
  | case e cn alts o =>
    refine wpAny_execs_nil (xs (xif (t_isi (s := uP s h₁ tk₁) B S.toRs rfl rfl (by walk_at "VK") I hC (by walk_at "MEM") rfl rfl fun tk₃ => ?_)))
    refine wpAny_execs_nil (xs (xif (t_isi (s := uP s h₁ tk₃) B S.toRs rfl rfl (by walk_at "VK") I hC (by walk_at "MEM") rfl rfl fun tk₄ => ?_)))
    refine absG fun gG hgG => ?_
    obtain ⟨a', l, vs, ve, vo, t, e1, I', hTe, L, hA, hO⟩ := hT
    refine hgG ?_; clear hgG
    cases e1
    have hO' : OthAt H n vo o := by cases o <;> exact hO
    refine absG fun gG hgG => ?_
    obtain ⟨hF1, hF2, hF3, hF4, _⟩ := hF
    refine hgG ?_; clear hgG
    have hFw : ∀ x ∈ waysF alts o, Few n x := fun x hx => by
      unfold waysF at hx
      rcases List.mem_append.mp hx with m | m
      · obtain ⟨p, hp, rfl⟩ := List.mem_map.mp m; exact hF3 p hp
      · exact hF4 x (by simpa using m)
    have hwl : (waysF alts o).length ≤ 10 := by
      unfold waysF
      rw [List.length_append, List.length_map]
      have : o.toList.length ≤ 1 := by cases o <;> simp
      lia
    refine absG fun gG hgG => ?_
    obtain ⟨ae, le', rfl, _⟩ := hTe.inst
    refine hgG ?_; clear hgG
    refine xs (wpAny_Return_some (BoolOp_and ?_))
    refine ev_callK (s := uP s h₁ tk₄) B S.toRs rfl rfl rfl (wpAny_items_cons (ev_attr (s := uP s h₁ tk₄) B S.toRs rfl (by walk_at "VK") I' (by walk_at "AT") (by walk_at "MEM") rfl fun tk5 => wpAny_items_cons (ev_var (s := uP s h₁ tk5) S.toRs rfl (wpAny_items_nil ⟨S.inK B, ?_⟩) (by walk_at "VK"))))
    refine CA _ H _ e ll lvs lost S.b0 ((R' _).mo) hTe hF1 hll hlost (by first | decide | lia) _ _ _ S.kn fun rv H3 h3 tk3 G3 hr => ?_
    subst hr
    have S₃ := S.grow G3
    refine wpAny_truthy_bool ?_
    have eC : comesF (n + 1) (.case e cn alts o) lost = (comesF n e lost && (waysF alts o).any fun w => comesF n w lost) := rfl
    cases hd1 : comesF n e lost with
    | false => exact hQ2 _ _ _ _ S₃.post.grow (by rw [eC, hd1]; rfl)
    | true =>
      refine BoolOp_one (wpAny_Compare1 (wpAny_Constant_bool ?_) rfl)
      refine tree_comp (n := n) (es := waysF alts o) (fun _ => true) (fun e y => y = .bool (comesF n e lost)) R.hd S₃ (.of rfl) hwl ?_
      refine ev_callK (s := uP s h3 tk3) B S₃.toRs rfl rfl rfl (wpAny_items_cons (ev_var (s := uP s h3 tk3) S₃.toRs rfl (wpAny_items_nil ⟨S₃.inK B, ?_⟩) (by walk_at "VK")))
      refine ways_spec B S₃.b0 ((R' _).mo) (I'.le G3.le) (by walk_at "MEM") (by walk_at "MEM") (L.le G3.le) (AltsAt.le G3.le hA) (OthAt.le G3.le hO') hF2 _ _ _ S₃.kn fun rv H4 h4 tk4 G4 hr => ?_
      refine absG fun gG hgG => ?_
      obtain ⟨lw, ws, rfl, hlw, hws⟩ := hr
      refine hgG ?_; clear hgG
      refine ⟨H4, lw, ws, rfl, S₃.grow G4, hlw, hws, ?_, ?_, ?_⟩
      · intro v e cenv H' s₃ E' _ _ _ S' _
        exact tests_nil ⟨rfl, grow_refl' S'.kn⟩
      · intro v e cenv H' s₃ E' he hTe le S' hsc
        refine ev_callK B S' rfl (lk hsc rfl) rfl (wpAny_items_cons (ev_var S' rfl (wpAny_items_cons (ev_var S' rfl (wpAny_items_nil ⟨S'.inK B, ?_⟩) (.inr (lk hsc rfl)))) (.inl (lk hsc rfl))))
        exact CA _ H' v e ll lvs lost S'.b0 ((R' _).mo) (hTe.le le) (hFw e he) (((hll.le G3.le).le G4.le).le le) hlost (by first | decide | lia) _ _ _ S'.kn fun rv H2 h2 tk2 G2 hr => ⟨hr, H2, h2, tk2, rfl, G2⟩
      · intro D ep ys H' h' tk' le S' hy DX
        rw [filter_true] at hy
        refine in_bools (s := uP s h' tk') ⟨_, (S'.mu _ (.head _)).1, rfl, _, rfl⟩ hy ?_
        refine hQ2 _ _ _ _ (S'.drop DX).post.grow ?_
        rw [any_true, eC, hd1]; rfl
  | let_ binds b r =>
    refine wpAny_execs_nil (xs (xif (t_isi (s := uP s h₁ tk₁) B S.toRs rfl rfl (by walk_at "VK") I hC (by walk_at "MEM") rfl rfl fun tk₃ => ?_)))
    refine wpAny_execs_nil (xs (xif (t_isi (s := uP s h₁ tk₃) B S.toRs rfl rfl (by walk_at "VK") I hC (by walk_at "MEM") rfl rfl fun tk₄ => ?_)))
    refine wpAny_execs_nil (xs (xif (t_isi (s := uP s h₁ tk₄) B S.toRs rfl rfl (by walk_at "VK") I hC (by walk_at "MEM") rfl rfl fun tk₅ => ?_)))
    refine absG fun gG hgG => ?_
    obtain ⟨a', l, vs, vb, e1, I', L, hb, hTb⟩ := hT
    refine hgG ?_; clear hgG
    cases e1
    refine absG fun gG hgG => ?_
    obtain ⟨hF1, hF2, hF3, hF4⟩ := hF
    refine hgG ?_; clear hgG
    have hb' : BindsAt H n vs binds := hb
    have hvl : vs.length = binds.length := hb.len
    refine absG fun gG hgG => ?_
    obtain ⟨ab, lb, rfl, _⟩ := hTb.inst
    refine hgG ?_; clear hgG
    refine xs (lc_assign R.hd S (.of rfl) rfl (by walk_at "VK") (fun i H' ys ms' => ms' = [] ∧ All2 (fun (p : Str × Ex) (y : Value) => ∃ t, y = .str p.1 t) ((binds.take i).filter fun _ => true) ys) (fun _ _ _ _ _ _ h => h) ?_)
    refine ev_attr (s := uP s h₁ tk₅) B S.toRs rfl (by walk_at "VK") I' (by walk_at "AT") (by walk_at "MEM") rfl fun tk6 => ?_
    refine it_pairs (s := uP s h₁ tk6) R.hd S L (BindsAt.pairs hb') fun it h₂ hFr => ?_
    obtain ⟨J, os, Wk, j0, S₂, hX⟩ := hFr "name" "value" _ _ _ 0
    rw [hvl] at Wk
    refine ⟨_, J, _, H, _, [], os, Wk, le_line (by first | decide | lia), j0, S₂, hX, ⟨rfl, .nil⟩, LcTurn.pure binds (fun _ => true) (fun p y => ∃ t, y = .str p.1 t) ?_ ?_ (fun _ _ _ _ h _ => h), ?_⟩
    · intro i p bs cenv H' s₃ E' _ _ _ S' _ _
      exact tests_nil ⟨rfl, grow_refl' S'.kn⟩
    · intro i p bs cenv H' s₃ E' hp _ rI9 le S' _ hsc
      refine absG fun gG hgG => ?_
      obtain ⟨u, z, rfl, q, tq, hq, rfl, hTq⟩ := rI9
      refine hgG ?_; clear hgG
      rw [hp] at hq; cases hq
      exact ev_var S' rfl ⟨⟨tq, rfl⟩, grow_refl' S'.kn⟩ (.inl (lk hsc rfl))
    intro D ep ys H₃ ms' h₃ tk₃' le₃ rI8 S₃ DX
    refine absG fun gG hgG => ?_
    obtain ⟨rfl, hy⟩ := rI8
    refine hgG ?_; clear hgG
    rw [List.take_length, filter_true] at hy
    have hyl : ys.length = binds.length := hy.len.symm
    have S₄ := S₃.freeze DX
    have l34 := addH_le (o := lsO ys ep) (S₃.mu _ (.head _)).2.1
    have hmore : ListH (addH H₃ D (lsO ys ep)) D ys := ⟨ep, addH_self⟩
    have l4 := le₃.trans l34
    generalize addH H₃ D (lsO ys ep) = H₄ at *
    refine xs (wpAny_Assign_Name (ev_var (s := uP s h₃ tk₃') S₄.toRs rfl ?_ (by walk_at "VK")))
    refine St.store (s := uP s h₃ tk₃') S₄ (by walk_at "VK") fun h₅ tk₅' S₅ => ?_
    refine xs ?_
    refine for_it (c := ⟨H0, H, s.heap, []⟩) R.hd (fun i H' V' ms' => An4 (V' "expr" = some (.ref a)) (V' "lost" = some (.ref ll)) (ms' = []) (∃ gl gvs, V' "gone" = some (.ref gl) ∧ ListH H' gl gvs ∧ StrsAre gvs (goneF (comesF n) binds r lost i))) ?_ (fun H1 H2 i V' ms' l ⟨a1, a2, a3, gl, gvs, a4, a5, a6⟩ => ⟨a1, a2, a3, gl, gvs, a4, a5.le l, a6⟩)
    refine ev_callT (s := uP s h₅ tk₅') B S₅.toRs rfl rfl rfl (wpAny_items_cons (wpAny_BinOp ?_))
    refine ev_callB (s := uP s h₅ tk₅') B S₅.toRs rfl rfl rfl (wpAny_items_cons (ev_var (s := uP s h₅ tk₅') S₅.toRs rfl (wpAny_items_nil ?_) (by walk_at "VK")))
    refine len_list (s := uP s h₅ tk₅') (hmore.at S₅.kn) (by rw [List.size_toArray]; lia) ?_
    refine wpAny_Constant_int (wpAny_add_int (wpAny_items_nil ?_))
    have ecast : ((ys.toArray.size : Int) + 1) = ((binds.length + 1 : Nat) : Int) := by rw [List.size_toArray, hyl]; rfl
    rw [ecast]
    refine call_rng (s := uP s h₅ _) fun rv h₆ tk₆ up₆ hr => ?_
    have S₆ := S₅.up up₆
    refine it_rng (s := uP s h₆ tk₆) R.hd (by first | decide | lia) S₆ hr fun it h₇ hFr => ?_
    obtain ⟨J, os, Wr, j0, S₇, hX⟩ := hFr "turn" _
    refine ⟨_, J, _, H₄, _, [], os, Wr, j0, S₇, hX, ⟨rfl, rfl, rfl, ll, lvs, rfl, hll.le l4, hlost⟩, ?_, ?_⟩
    · intro i bs os' H' V' ms' h' tk' hi rI9 le hX' rI12 S'
      refine absG fun gG hgG => ?_
      obtain ⟨t', rfl⟩ := rI9
      obtain ⟨w1, w2, rfl, gl, gvs, w4, w5, w6⟩ := rI12
      refine hgG ?_; clear hgG
      have lH' := l4.trans le
      have hgl := goneF_len (cm := comesF n) (binds := binds) (r := r) (lost := lost) i
      have w1' : (bindV [("turn", Value.int i t')] V') "expr" = some (.ref a) := w1
      have w2' : (bindV [("turn", Value.int i t')] V') "lost" = some (.ref ll) := w2
      have w4' : (bindV [("turn", Value.int i t')] V') "gone" = some (.ref gl) := w4
      obtain ⟨ql, qvs, qs, hq1, hq2, hq3, hq4, hq5⟩ : Ex3 fun ql qvs qs => (if r then gl else ll) = ql ∧ ListH H' ql qvs ∧ StrsAre qvs qs ∧ qs = (if r then goneF (comesF n) binds r lost i else lost) ∧ qs.length ≤ lost.length + binds.length := by
        cases r
        · exact ⟨ll, lvs, lost, rfl, hll.le lH', hlost, rfl, Nat.le_add_right _ _⟩
        · exact ⟨gl, gvs, _, rfl, w5, w6, rfl, hgl⟩
      refine xs (wpAny_Assign_Name (wpAny_BinOp (ev_var (s := uP s h' tk') S'.toRs w2' ?_ (by walk_at "VK"))))
      refine lc (s := uP s h' tk') R.hd S' (.of rfl) (fun i H' ys ms' => ms' = [] ++ os' ∧ All2 (fun (p : Str × Ex) (y : Value) => ∃ t, y = .str p.1 t) ((binds.take i).filter fun p => !(comesF n p.2 qs)) ys) (fun _ _ _ _ _ _ h => h) ?_
      refine ev_attr (s := uP s h' tk') B S'.toRs w1' (by walk_at "VK") (I'.le lH') (by walk_at "AT") (by walk_at "MEM") rfl fun tk8 => ?_
      refine it_pairs (s := uP s h' tk8) R.hd S' (L.le lH') (BindsAt.pairs (hb'.le lH')) fun it h₈ hFr => ?_
      obtain ⟨J2, os2, Wk2, j2, S₈, hX2⟩ := hFr "name" "value" _ _ _ 0
      rw [hvl] at Wk2
      refine ⟨_, J2, _, H', _, [] ++ os', os2, Wk2, le_line (by first | decide | lia), j2, S₈, hX2, ⟨rfl, .nil⟩, LcTurn.pure binds (fun p => !(comesF n p.2 qs)) (fun p y => ∃ t, y = .str p.1 t) ?_ ?_ (fun _ _ _ _ h _ => h), ?_⟩
      · intro j p bs cenv H2 s₃ E' hp rI8 le2 S2 _ hsc
        refine absG fun gG hgG => ?_
        obtain ⟨u, z, rfl, q, tq, hq, rfl, hTq⟩ := rI8
        refine hgG ?_; clear hgG
        rw [hp] at hq; cases hq
        have hFp := hF3 p (List.mem_of_getElem? hp)
        refine tests_one (wpAny_isTrue_Not (wpAny_isTrue_value ?_ rfl))
        refine ev_callK B S2 rfl (lk hsc rfl) rfl (wpAny_items_cons (ev_var S2 rfl (wpAny_items_cons (wpAny_IfExp (wpAny_isTrue_value (ev_attr B S2 w1' (.inr (lk hsc rfl)) (I'.le (lH'.trans le2)) (by walk_at "AT") (by walk_at "MEM") rfl fun tk9 => wpAny_truthy_bool ?_) rfl))) (.inl (lk hsc rfl))))
        cases r with
        | true =>
          subst hq1
          refine ev_var (s := uT s₃ tk9) S2 w4' (wpAny_items_nil ⟨S2.inK B, ?_⟩) (.inr (lk hsc rfl))
          refine CA _ H2 z p.2 _ qvs qs S2.b0 ((R' _).mo) (hTq.le le2) hFp (hq2.le le2) hq3 (by first | decide | lia) _ _ _ S2.kn fun rv H3 h3 tk3 G3 hr => ?_
          subst hr
          exact wpAny_truthy_bool ⟨rfl, H3, h3, tk3, rfl, G3⟩
        | false =>
          subst hq1
          refine ev_var (s := uT s₃ tk9) S2 w2' (wpAny_items_nil ⟨S2.inK B, ?_⟩) (.inr (lk hsc rfl))
          refine CA _ H2 z p.2 _ qvs qs S2.b0 ((R' _).mo) (hTq.le le2) hFp (hq2.le le2) hq3 (by first | decide | lia) _ _ _ S2.kn fun rv H3 h3 tk3 G3 hr => ?_
          subst hr
          exact wpAny_truthy_bool ⟨rfl, H3, h3, tk3, rfl, G3⟩
      · intro j p bs cenv H2 s₃ E' hp _ rI9 le2 S2 _ hsc
        refine absG fun gG hgG => ?_
        obtain ⟨u, z, rfl, q, tq, hq, rfl, hTq⟩ := rI9
        refine hgG ?_; clear hgG
        rw [hp] at hq; cases hq
        exact ev_var S2 rfl ⟨⟨tq, rfl⟩, grow_refl' S2.kn⟩ (.inl (lk hsc rfl))
      · intro D2 ep2 zs H2 ms2 h2 tk2 le2 rI8 S2 DX2
        refine absG fun gG hgG => ?_
        obtain ⟨rfl, hz⟩ := rI8
        refine hgG ?_; clear hgG
        rw [List.take_length] at hz
        have hzs : StrsAre zs ((binds.filter fun p => !(comesF n p.2 qs)).map fun q : Str × Ex => q.1) := strs_of_all2 (f := fun q : Str × Ex => q.1) hz
        have hzl : zs.length ≤ binds.length := by
          rw [strsLen hzs, List.length_map]; exact List.length_filter_le _ _
        obtain ⟨epl, hel⟩ := hll.le (lH'.trans le2)
        refine list_add (s := uP s h2 tk2) S2 (S2.kn _ _ hel) (S2.mu _ (.head _)).1 (by first | decide | lia) fun c3 h3 S3 X3 => ?_
        have S4 := S3.freeze X3
        have l24 := addH_le (o := lsO (lvs ++ zs) 0) (S3.mu _ (.head _)).2.1
        have S5 := S4.drop DX2
        refine St.store (s := uP s h3 tk2) S5 (by walk_at "VK") fun h6 tk6 S6 => ?_
        refine wpAny_execs_nil ⟨_, _, [], h6, tk6, rfl, le2.trans l24, S6, w1', w2', rfl, c3, _, rfl, ⟨0, addH_self⟩, ?_⟩
        show StrsAre _ (goneStep (comesF n) binds r lost (goneF (comesF n) binds r lost i))
        unfold goneStep
        rw [← hq4]
        exact strs_append hlost hzs
    · intro H' V' ms' h' tk' le rI6 S'
      refine absG fun gG hgG => ?_
      obtain ⟨w1, w2, rfl, gl, gvs, w4, w5, w6⟩ := rI6
      refine hgG ?_; clear hgG
      have lH' := l4.trans le
      have hgl := goneF_len (cm := comesF n) (binds := binds) (r := r) (lost := lost) (binds.length + 1)
      refine xs (wpAny_Return_some ?_)
      refine ev_callK (s := uP s h' tk') B S'.toRs rfl rfl rfl (wpAny_items_cons (ev_attr (s := uP s h' tk') B S'.toRs w1 (by walk_at "VK") (I'.le lH') (by walk_at "AT") (by walk_at "MEM") rfl fun tk5 => wpAny_items_cons (ev_var (s := uP s h' tk5) S'.toRs w4 (wpAny_items_nil ⟨S'.inK B, ?_⟩) (by walk_at "VK"))))
      refine CA _ H' _ b gl gvs _ S'.b0 ((R' _).mo) (hTb.le lH') hF4 w5 w6 (by first | decide | lia) _ _ _ S'.kn fun rv H3 h3 tk3 G3 hr => ?_
      subst hr
      exact hQ2 _ _ _ _ (S'.grow G3).post.grow rfl
  | lit =>
    refine wpAny_execs_nil (xs (xif (t_isi (s := uP s h₁ tk₁) B S.toRs rfl rfl (by walk_at "VK") I hC (by walk_at "MEM") rfl rfl fun tk₃ => ?_)))
    refine wpAny_execs_nil (xs (xif (t_isi (s := uP s h₁ tk₃) B S.toRs rfl rfl (by walk_at "VK") I hC (by walk_at "MEM") rfl rfl fun tk₄ => ?_)))
    refine wpAny_execs_nil (xs (xif (t_isi (s := uP s h₁ tk₄) B S.toRs rfl rfl (by walk_at "VK") I hC (by walk_at "MEM") rfl rfl fun tk₅ => ?_)))
    refine wpAny_execs_nil (xs (xif (wpAny_isTrue_Not (t_isi (s := uP s h₁ tk₅) B S.toRs rfl rfl (by walk_at "VK") I hC (by walk_at "MEM") rfl rfl fun tk₆ => ?_))))
    exact xs (wpAny_Return_some (wpAny_Constant_bool (hQ2 _ _ _ _ S.post.grow rfl)))
  | con =>
    refine wpAny_execs_nil (xs (xif (t_isi (s := uP s h₁ tk₁) B S.toRs rfl rfl (by walk_at "VK") I hC (by walk_at "MEM") rfl rfl fun tk₃ => ?_)))
    refine wpAny_execs_nil (xs (xif (t_isi (s := uP s h₁ tk₃) B S.toRs rfl rfl (by walk_at "VK") I hC (by walk_at "MEM") rfl rfl fun tk₄ => ?_)))
    refine wpAny_execs_nil (xs (xif (t_isi (s := uP s h₁ tk₄) B S.toRs rfl rfl (by walk_at "VK") I hC (by walk_at "MEM") rfl rfl fun tk₅ => ?_)))
    refine wpAny_execs_nil (xs (xif (wpAny_isTrue_Not (t_isi (s := uP s h₁ tk₅) B S.toRs rfl rfl (by walk_at "VK") I hC (by walk_at "MEM") rfl rfl fun tk₆ => ?_))))
    exact xs (wpAny_Return_some (wpAny_Constant_bool (hQ2 _ _ _ _ S.post.grow rfl)))
  | appv f args =>
    refine wpAny_execs_nil (xs (xif (t_isi (s := uP s h₁ tk₁) B S.toRs rfl rfl (by walk_at "VK") I hC (by walk_at "MEM") rfl rfl fun tk₃ => ?_)))
    refine wpAny_execs_nil (xs (xif (t_isi (s := uP s h₁ tk₃) B S.toRs rfl rfl (by walk_at "VK") I hC (by walk_at "MEM") rfl rfl fun tk₄ => ?_)))
    refine wpAny_execs_nil (xs (xif (t_isi (s := uP s h₁ tk₄) B S.toRs rfl rfl (by walk_at "VK") I hC (by walk_at "MEM") rfl rfl fun tk₅ => ?_)))
    refine wpAny_execs_nil (xs (xif (wpAny_isTrue_Not (t_isi (s := uP s h₁ tk₅) B S.toRs rfl rfl (by walk_at "VK") I hC (by walk_at "MEM") rfl rfl fun tk₆ => ?_))))
    refine absG fun gG hgG => ?_
    obtain ⟨a', af, l, vs, t, e1, I1, I2, L, hargs⟩ := hT
    refine hgG ?_; clear hgG
    cases e1
    refine wpAny_execs_nil (xs (if_t (t_isi2 (s := uP s h₁ tk₆) B S.toRs rfl rfl (by walk_at "VK") I1 (by walk_at "AT") (by walk_at "MEM") I2 (by walk_at "MEM") (by walk_at "MEM") rfl rfl fun tk6 => ⟨rfl, ?_⟩)))
    refine xs (wpAny_Return_some (wpAny_Compare1 (ev_attr2 (s := uP s h₁ tk6) B S.toRs rfl (by walk_at "VK") I1 (by walk_at "AT") (by walk_at "MEM") I2 (by walk_at "AT") (by walk_at "MEM") rfl fun tk7 => ev_var (s := uP s h₁ tk7) S.toRs rfl (notin_list_strs (s := uP s h₁ tk7) (hll.at S.kn) hlost ?_) (by walk_at "VK")) rfl))
    exact hQ2 _ _ _ _ S.post.grow rfl
  | appl ps b args =>
    refine wpAny_execs_nil (xs (xif (t_isi (s := uP s h₁ tk₁) B S.toRs rfl rfl (by walk_at "VK") I hC (by walk_at "MEM") rfl rfl fun tk₃ => ?_)))
    refine wpAny_execs_nil (xs (xif (t_isi (s := uP s h₁ tk₃) B S.toRs rfl rfl (by walk_at "VK") I hC (by walk_at "MEM") rfl rfl fun tk₄ => ?_)))
    refine wpAny_execs_nil (xs (xif (t_isi (s := uP s h₁ tk₄) B S.toRs rfl rfl (by walk_at "VK") I hC (by walk_at "MEM") rfl rfl fun tk₅ => ?_)))
    refine wpAny_execs_nil (xs (xif (wpAny_isTrue_Not (t_isi (s := uP s h₁ tk₅) B S.toRs rfl rfl (by walk_at "VK") I hC (by walk_at "MEM") rfl rfl fun tk₆ => ?_))))
    refine absG fun gG hgG => ?_
    obtain ⟨a', af, lp, pvs, vb, l, vs, e1, I1, I2, Lp, sps, hTb, L, hargs⟩ := hT
    refine hgG ?_; clear hgG
    cases e1
    refine absG fun gG hgG => ?_
    obtain ⟨hF1, hF2, hF3, hF4⟩ := hF
    refine hgG ?_; clear hgG
    have hlen : vs.length = args.length := hargs.len
    have hplen : pvs.length = ps.length := strsLen sps
    refine absG fun gG hgG => ?_
    obtain ⟨ab, lb, rfl, _⟩ := hTb.inst
    refine hgG ?_; clear hgG
    refine wpAny_execs_nil (xs (if_f (t_isi2 (s := uP s h₁ tk₆) B S.toRs rfl rfl (by walk_at "VK") I1 (by walk_at "AT") (by walk_at "MEM") I2 (by walk_at "MEM") (by walk_at "MEM") rfl rfl fun tk6 => ⟨rfl, wpAny_execs_nil ?_⟩)))
    refine xs (xif (wpAny_isTrue_Compare1 ?_ rfl))
    refine ev_callB (s := uP s h₁ tk6) B S.toRs rfl rfl rfl (wpAny_items_cons (ev_attr (s := uP s h₁ tk6) B S.toRs rfl (by walk_at "VK") I1 (by walk_at "AT") (by walk_at "MEM") rfl fun tk' => wpAny_items_nil ?_))
    refine len_list (s := uP s h₁ tk') (L.at S.kn) (by rw [List.size_toArray]; lia) ?_
    refine ev_callB (s := uP s h₁ _) B S.toRs rfl rfl rfl (wpAny_items_cons (ev_attr2 (s := uP s h₁ _) B S.toRs rfl (by walk_at "VK") I1 (by walk_at "AT") (by walk_at "MEM") I2 (by walk_at "AT") (by walk_at "MEM") rfl fun tk' => wpAny_items_nil ?_))
    refine len_list (s := uP s h₁ tk') (Lp.at S.kn) (by rw [List.size_toArray]; lia) ?_
    refine lt_int (wpAny_truthy_bool ?_)
    have e : decide ((vs.toArray.size : Int) < pvs.toArray.size) = decide (args.length < ps.length) := by
      rw [List.size_toArray, List.size_toArray, hlen, hplen]; exact decide_eq_decide.mpr Int.ofNat_lt
    rw [e]
    have eD : comesF (n + 1) (.appl ps b args) lost = if args.length < ps.length then true else comesF n b (lost ++ ((ps.zip args).filter fun p => !(comesF n p.2 lost)).map fun q : Str × Ex => q.1) := rfl
    by_cases hc : args.length < ps.length
    · rw [decide_eq_true hc]
      rw [if_pos hc] at eD
      exact xs (wpAny_Return_some (wpAny_Constant_bool (hQ2 _ _ _ _ S.post.grow eD.symm)))
    rw [decide_eq_false hc]
    rw [if_neg hc] at eD
    refine wpAny_execs_nil ?_
    refine xs (wpAny_Return_some ?_)
    refine ev_callK (s := uP s h₁ _) B S.toRs rfl rfl rfl (wpAny_items_cons (ev_attr2 (s := uP s h₁ _) B S.toRs rfl (by walk_at "VK") I1 (by walk_at "AT") (by walk_at "MEM") I2 (by walk_at "AT") (by walk_at "MEM") rfl fun tk5 => wpAny_items_cons (wpAny_BinOp (ev_var (s := uP s h₁ tk5) S.toRs rfl ?_ (by walk_at "VK")))))
    refine zip_comp (n := n) (ps := ps) (args := args) (fun p => !(comesF n p.2 lost)) (fun p y => ∃ t, y = .str p.1 t) R.hd S (.of rfl) (by first | decide | lia) ?_
    refine ev_callT (s := uP s h₁ tk5) B S.toRs rfl rfl rfl (wpAny_items_cons (ev_attr2 (s := uP s h₁ tk5) B S.toRs rfl (by walk_at "VK") I1 (by walk_at "AT") (by walk_at "MEM") I2 (by walk_at "AT") (by walk_at "MEM") rfl fun tk7 => wpAny_items_cons (ev_attr (s := uP s h₁ tk7) B S.toRs rfl (by walk_at "VK") I1 (by walk_at "AT") (by walk_at "MEM") rfl fun tk8 => wpAny_items_nil ?_)))
    refine zip_new (s := uP s h₁ tk8) R.hd S Lp L fun z H₃ h₃ l3 hF => ?_
    refine ⟨H₃, pvs, vs, [], sps, hargs.imp fun v e t => TreeAt.le l3 _ _ _ t, hF _ _ _ _ _ _, ?_, ?_, ?_⟩
    · intro k tk v e cenv H' s₃ E' hke hTe le S' hsc
      have hFe := hF4 e (List.of_mem_zip hke).2
      refine tests_one (wpAny_isTrue_Not (wpAny_isTrue_value ?_ rfl))
      refine ev_callK B S' rfl (lk hsc rfl) rfl (wpAny_items_cons (ev_var S' rfl (wpAny_items_cons (ev_var S' rfl (wpAny_items_nil ⟨S'.inK B, ?_⟩) (.inr (lk hsc rfl)))) (.inl (lk hsc rfl))))
      refine CA _ H' v e ll lvs lost S'.b0 ((R' _).mo) (hTe.le le) hFe (hll.le (l3.trans le)) hlost (by first | decide | lia) _ _ _ S'.kn fun rv H2 h2 tk2 G2 hr => ?_
      subst hr
      exact wpAny_truthy_bool ⟨rfl, H2, h2, tk2, rfl, G2⟩
    · intro k tk v e cenv H' s₃ E' hke hTe le S' hsc
      exact ev_var S' rfl ⟨⟨tk, rfl⟩, grow_refl' S'.kn⟩ (.inl (lk hsc rfl))
    · intro D ep zs H' h' tk' le S' hz DX
      have l13 := l3.trans le
      have hzs : StrsAre zs (((ps.zip args).filter fun p => !(comesF n p.2 lost)).map fun q : Str × Ex => q.1) := strs_of_all2 (f := fun q : Str × Ex => q.1) hz
      have hzl : zs.length ≤ 2 := by
        rw [strsLen hzs, List.length_map]
        exact Nat.le_trans (List.length_filter_le _ _) (by rw [List.length_zip]; lia)
      obtain ⟨epl, hel⟩ := hll.le l13
      refine list_add (s := uP s h' tk') S' (S'.kn _ _ hel) (S'.mu _ (.head _)).1 (by first | decide | lia) fun c3 h3 S3 X3 => wpAny_items_nil ⟨S3.inK B, ?_⟩
      have S4 := (S3.freeze X3).drop DX
      have l24 := addH_le (o := lsO (lvs ++ zs) 0) (S3.mu _ (.head _)).2.1
      have hsl := strsLen hzs
      refine CA _ _ _ b c3 _ _ S4.b0 ((R' _).mo) ((hTb.le l13).le l24) hF2 ⟨0, addH_self⟩ (strs_append hlost hzs) (by rw [List.length_append]; lia) _ _ _ S4.kn fun rv H6 h6 tk6 G6 hr => ?_
      subst hr
      exact hQ2 _ _ _ _ (S4.grow G6).post.grow eD.symm
theorem comes_at (B : Base (KW w) H0) : ∀ n, n ≤ 5 → ComesAt prog w H0 n
  | 0, _ => fun A H v e ll lvs lost l0 R hT => hT.elim
  | n + 1, h => comes_step B (comes_at B n (by first | decide | lia)) (by first | decide | lia)
end
end Mine
end
section
open PySem PySem.W PyProof.Rows PySem.Calls
set_option maxRecDepth 10000
set_option linter.unusedVariables false
namespace Mine
noncomputable def SrcO (o : Obj) (x y : Int) : Prop := o.cls = .type "list" ∧ Ex3 fun t u n => o.data = .seq #[.int x t, .int y u] n
noncomputable def SrcOk (o : Obj) : Prop := ∃ x y, SrcO o x y ∧ 0 ≤ y ∧ y < 2147483647
theorem SrcO.list {o : Obj} {x y : Int} {h : Heap} {a : Addr} (s : SrcO o x y) (e : h.get? a = some o) : ∃ t u, h.IsList a #[.int x t, .int y u] := let ⟨c, t, u, n, d⟩ := s; ⟨t, u, o, e, c, n, d⟩
theorem src_of {x y : Int} {t u : Tok} {h : Heap} {a : Addr} (l : h.IsList a #[.int x t, .int y u]) : ∃ o, h.get? a = some o ∧ SrcO o x y := let ⟨o, e, c, n, d⟩ := l; ⟨o, e, c, t, u, n, d⟩
theorem src_set0 {x y z : Int} {t u v : Tok} {h : Heap} {a : Addr} (l : h.IsList a ((#[Value.int x t, Value.int y u] : Array Value).setIfInBounds (0 : Int).toNat (.int z v))) : ∃ o, h.get? a = some o ∧ SrcO o z y := src_of (t := v) (u := u) l
theorem src_set1 {x y z : Int} {t u v : Tok} {h : Heap} {a : Addr} (l : h.IsList a ((#[Value.int x t, Value.int y u] : Array Value).setIfInBounds (1 : Int).toNat (.int z v))) : ∃ o, h.get? a = some o ∧ SrcO o x z := src_of (t := t) (u := v) l
section
variable {prog : Program} {w : World} {A : Around} {E : Value → Shared → Prop} {s : Shared} {c : Cx} {H H0 : KH} {env : Env} {V : Str → Option Value} {ms : List (Addr × Obj)}
theorem sub_list {l : Addr} {items : Array Value} {k : Int} {t : Tok} {x : Value} {Q : Value → Shared → Prop} (hl : s.heap.IsList l items) (h0 : 0 ≤ k) (hfit : k < 2 ^ 63) (hx : items[k.toNat]? = some x) (h : Q x s) : SubscriptOn (model prog w) A (.ref l) (.int k t) Q E s :=
  ⟨"list", _, F.slot_list_getitem.lookup, hl.typeIs, wpAny_getItem_list hl h0 hfit hx h⟩
theorem ev_src {x : Str} {l : Addr} {items : Array Value} {k : Int} {kd : Nat} {p p1 pos : Pos} {v : Value} {Q : Value → Shared → Prop} (R : Rs H0 H env V s.heap) (hx : V x = some (.ref l)) (hk : env.kindOf x = some .local ∨ env.kindOf x = some .cell) (hl : s.heap.IsList l items) (h0 : 0 ≤ k) (hfit : k < 2 ^ 63) (hv : items[k.toNat]? = some v) (h : ∀ tk, Q v (uT s tk))
    (hd : (x == ("__debug__" : Str)) = false := by decide) (ht : ∀ o r, letTemporaryGo (.Name x p) o r = pure () := by intro _ _; rfl) : wpAny (model prog w) A (eval (.Subscript (.Name x p) (.Constant (.int k) kd p1) pos) env) Q E s :=
  wpAny_Subscript_Constant_late (ev_var R hx (wpAny_Constant_int (sub_list hl h0 hfit hv (h _))) hk hd) ht
set_option maxHeartbeats 1000000 in
theorem take_spec {SL : Addr} {oS : Obj} {top : Nat} {tt : Tok} (B : Base (KW w) H0) (l0 : H0.le H) (R : Room A 3) (hS : SrcOk oS) (h1 : 1 ≤ top) (h2 : top ≤ 1000) :
    Changes prog w A H 511 [.ref SL, .int top tt] [(SL, oS)] (fun _ os' v => (∃ oS', os' = [(SL, oS')] ∧ SrcOk oS') ∧ ∃ (r : Nat) (t : Tok), v = .int r t ∧ r < top) := by
  intro s E Q kn hms nd hQ
  refine absG fun gG hgG => ?_
  obtain ⟨x, y, hxy, hy0, hy1⟩ := hS
  refine hgG ?_; clear hgG
  have tpos : (0 : Int) < top := by lia
  refine call_fn (ms := [(SL, oS)]) (binds := [("source", .ref SL), ("top", .int top tt)]) B l0 kn hms nd R.depth rfl rfl rfl rfl rfl rfl rfl ?_
  intro Lc h₁ tk S
  have R' : ∀ env, Room (A.deeper env) 2 := fun _ => R.deeper
  obtain ⟨t1, u1, hl⟩ := hxy.list (S.mu _ (.head _)).1
  have fin : ∀ {h' : Heap} {tk' : Nat} {V' : Str → Option Value} {oS' : Obj} {r : Int} {t : Tok} {env : Env}, St ⟨H0, H, s.heap, [SL]⟩ H env V' [(SL, oS')] h' → SrcOk oS' → 0 ≤ r → r < top → Q (.int r t) (uP s h' tk') := by
    intro h' tk' V' oS' r t env S' hS' r0 r1
    refine hQ _ H h' tk' [(SL, oS')] (Post.move (os := [(SL, oS)]) S'.post rfl fun p hp => (S'.mu p hp).1) ⟨⟨oS', rfl, hS'⟩, r.toNat, t, by rw [Int.toNat_of_nonneg r0], by lia⟩
  refine xs (xif (wpAny_isTrue_Compare1 (ev_src (s := uP s h₁ tk) S.toRs rfl (by walk_at "VK") hl (by decide) (by decide) rfl fun tk1 => wpAny_Constant_int (gt_int (wpAny_truthy_bool ?_))) rfl))
  by_cases hx : 0 < x
  · rw [decide_eq_true hx]
    refine xs (wpAny_Assign_Name (wpAny_BinOp ?_))
    refine ev_callT (s := uP s h₁ _) B S.toRs rfl rfl rfl (wpAny_items_cons (ev_src (s := uP s h₁ _) S.toRs rfl (by walk_at "VK") hl (by decide) (by decide) rfl fun tk2 => wpAny_items_nil (call_int_int ?_)))
    refine ev_var (s := uP s h₁ _) S.toRs rfl (mod_int (by first | decide | lia) ?_) (by walk_at "VK")
    refine St.store (s := uP s h₁ _) S (by walk_at "VK") fun h₂ tk3 S₂ => ?_
    obtain ⟨t3, u3, hl2⟩ := hxy.list (S₂.mu _ (.head _)).1
    refine xs (wpAny_Assign_Subscript (wpAny_BinOp (ev_src (s := uP s h₂ _) S₂.toRs rfl (by walk_at "VK") hl2 (by decide) (by decide) rfl fun tk4 => ev_var (s := uP s h₂ _) S₂.toRs rfl (floordiv_int (by first | decide | lia) ?_ (Or.inl (PyProof.noPylong_small (by first | decide | lia)))) (by walk_at "VK"))))
    refine ev_var (s := uP s h₂ _) S₂.toRs rfl (wpAny_Constant_int (wpAny_setItem_list hl2 (by decide) (by decide) (by show (0 : Int) < ((2 : Nat) : Int); decide) fun h₃ hl3 sb => ?_)) (by walk_at "VK")
    obtain ⟨oS3, e3, s3⟩ := src_set0 hl3
    have S₃ := S₂.change (fun b o hb e => sb.extBut b o hb e) e3
    refine xs (wpAny_Return_some (ev_var (s := uP s h₃ _) S₃.toRs rfl ?_ (by walk_at "VK")))
    exact fin S₃ ⟨_, _, s3, hy0, hy1⟩ (Int.fmod_nonneg_of_pos _ tpos) (Int.fmod_lt_of_pos _ tpos)
  · rw [decide_eq_false hx]
    refine wpAny_execs_nil ?_
    refine xs (wpAny_Assign_Subscript (wpAny_BinOp ?_))
    refine ev_callT (s := uP s h₁ _) B S.toRs rfl rfl rfl (wpAny_items_cons (wpAny_BinOp (wpAny_BinOp (ev_src (s := uP s h₁ _) S.toRs rfl (by walk_at "VK") hl (by decide) (by decide) rfl fun tk2 => wpAny_Constant_int (mul_int (wpAny_Constant_int (wpAny_add_int (wpAny_items_nil (call_int_int (wpAny_Constant_int (mod_int (by decide) ?_)))))) (IntMulOk.of_right (by decide)))))))
    refine ev_var (s := uP s h₁ _) S.toRs rfl (wpAny_Constant_int (wpAny_setItem_list hl (by decide) (by decide) (by show (1 : Int) < ((2 : Nat) : Int); decide) fun h₃ hl3 sb => ?_)) (by walk_at "VK")
    obtain ⟨oS3, e3, s3⟩ := src_set1 hl3
    have S₃ := S.change (fun b o hb e => sb.extBut b o hb e) e3
    have m0 : 0 ≤ (y * 39373 + 7).fmod 2147483647 := Int.fmod_nonneg_of_pos _ (by decide)
    have m1 : (y * 39373 + 7).fmod 2147483647 < 2147483647 := Int.fmod_lt_of_pos _ (by decide)
    generalize (y * 39373 + 7).fmod 2147483647 = z at *
    obtain ⟨t5, u5, hl5⟩ := s3.list (S₃.mu _ (.head _)).1
    refine xs (wpAny_Return_some (wpAny_BinOp ?_))
    refine ev_callT (s := uP s h₃ _) B S₃.toRs rfl rfl rfl (wpAny_items_cons (wpAny_BinOp (wpAny_BinOp ?_)))
    refine ev_callT (s := uP s h₃ _) B S₃.toRs rfl rfl rfl (wpAny_items_cons (wpAny_BinOp (ev_src (s := uP s h₃ _) S₃.toRs rfl (by walk_at "VK") hl5 (by decide) (by decide) rfl fun tk6 => ev_src (s := uP s h₃ _) S₃.toRs rfl (by walk_at "VK") hl5 (by decide) (by decide) rfl fun tk7 => mul_int (wpAny_items_nil (call_int_int ?_)) (IntMulOk.of_right (PySem.intBits_le_64 (by first | decide | lia) (by first | decide | lia))))))
    refine wpAny_Constant_int (mod_int (by decide) (wpAny_Constant_int (floordiv_int (by decide) (wpAny_items_nil (call_int_int ?_)) (Or.inl (PyProof.noPylong_small (by decide))))))
    refine ev_var (s := uP s h₃ _) S₃.toRs rfl (mod_int (by first | decide | lia) ?_) (by walk_at "VK")
    exact fin S₃ ⟨_, _, s3, m0, m1⟩ (Int.fmod_nonneg_of_pos _ tpos) (Int.fmod_lt_of_pos _ tpos)
end
end Mine
end
section
open PySem PySem.W PyProof.Rows PySem.Calls
set_option maxRecDepth 10000
set_option linter.unusedVariables false
namespace Mine
noncomputable def nm (base : Str) (k : Nat) : Str := (base ++ (".": Str)) ++ Str.ofString (toString (k : Int))
noncomputable def BoxO (prog : Program) (w : World) (o : Obj) (k : Nat) : Prop := ∃ t, OwnD prog w o [(("many" : Str), .int (k : Int) t)]
theorem num_len : ∀ k : Nat, k ≤ 21 → (Str.ofString (toString (k : Int))).length ≤ 10 := by
  have : ∀ k : Fin 22, (Str.ofString (toString ((k.val : Nat) : Int))).length ≤ 10 := by decide +kernel
  intro k hk
  exact this ⟨k, by lia⟩
theorem len_app (a b : Str) : (a ++ b).length = a.length + b.length := PySem.Str.length_append a b
theorem dot_len : ((".": Str)).length = 1 := by decide +kernel
section
variable {prog : Program} {w : World} {A : Around} {E : Value → Shared → Prop} {s : Shared} {c : Cx} {H H0 : KH} {env : Env} {V : Str → Option Value} {ms : List (Addr × Obj)}
theorem one_spec {SL nl : Addr} {oS : Obj} {names : List Str} (B : Base (KW w) H0) (l0 : H0.le H) (R : Room A 5) (hS : SrcOk oS) (hn : NamesH H (.ref nl) names) (h1 : 1 ≤ names.length) (h2 : names.length ≤ 1000) :
    Changes prog w A H 518 [.ref SL, .ref nl] [(SL, oS)] (fun _ os' v => (∃ oS', os' = [(SL, oS')] ∧ SrcOk oS') ∧ ∃ (x : Str) (t : Tok), v = .str x t ∧ x ∈ names) := by
  intro s E Q kn hms nd hQ
  refine call_fn (ms := [(SL, oS)]) (binds := [("source", .ref SL), ("things", .ref nl)]) B l0 kn hms nd R.depth rfl rfl rfl rfl rfl rfl rfl ?_
  intro Lc h₁ tk S
  have R' : ∀ env, Room (A.deeper env) 4 := fun _ => R.deeper
  refine absG fun gG hgG => ?_
  obtain ⟨nl', vs, e, hl, hs⟩ := hn
  refine hgG ?_; clear hgG
  cases e
  have hvl := strsLen hs
  refine xs (wpAny_Return_some (Subscript_ (ev_var (s := uP s h₁ _) S.toRs rfl ?_ (by walk_at "VK"))))
  refine ev_callK (s := uP s h₁ _) B S.toRs rfl rfl rfl (wpAny_items_cons (ev_var (s := uP s h₁ _) S.toRs rfl (wpAny_items_cons ?_) (by walk_at "VK")))
  refine ev_callB (s := uP s h₁ _) B S.toRs rfl rfl rfl (wpAny_items_cons (ev_var (s := uP s h₁ _) S.toRs rfl (wpAny_items_nil ?_) (by walk_at "VK")))
  refine len_list (s := uP s h₁ _) (hl.at S.kn) (by rw [List.size_toArray]; lia) (wpAny_items_nil ⟨S.inK B, ?_⟩)
  rw [List.size_toArray, hvl]
  refine take_spec B S.b0 ((R' _).mo) hS h1 h2 _ _ _ S.kn (fun p hp => ⟨(S.mu p hp).1, (S.mu p hp).2.1⟩) nd fun v H' h' tk' os' M ⟨⟨oS', e1, hS'⟩, r, t, e2, hr⟩ => ?_
  subst e1; subst e2
  have S' := St.moveL (os := [(SL, oS)]) (r := []) S M
  have hx : vs[r]? = some vs[r] := by simp
  refine absG fun gG hgG => ?_
  obtain ⟨x, t', hx', e⟩ := strsAt hs hx
  refine hgG ?_; clear hgG
  refine item_list (s := uP s h' _) ((hl.le M.le).at S'.kn) (by first | decide | lia) (by first | decide | lia) (x := vs[r]) (by simp) ?_
  rw [e]
  exact hQ _ H' h' _ [(SL, oS')] (Post.move (os := [(SL, oS)]) S'.post rfl fun p hp => (S'.mu p hp).1) ⟨⟨oS', rfl, hS'⟩, x, t', rfl, List.mem_of_getElem? hx'⟩
theorem sub_dictO {d : Addr} {kvs : List (Str × Value)} {k : Str} {t : Tok} {v : Value} {Q : Value → Shared → Prop} (D : s.heap.DictOf (strKind prog w) d kvs) (hv : valueAt kvs k = some v) (h : ∀ tk, Q v (uT s tk)) : SubscriptOn (model prog w) A (.ref d) (.str k t) Q E s :=
  ⟨"dict", _, slot_dict_getitem.lookup, D.typeIs, wpAny_getItem_of (knd := PySem.strKind prog w) (strKind_is prog w k t) D.mapOf hv (h _)⟩
theorem new_spec {BX : Addr} {oB : Obj} {k : Nat} {base : Str} {tb : Tok} (B : Base (KW w) H0) (l0 : H0.le H) (R : Room A 3) (hB : BoxO prog w oB k) (hk : k ≤ 20) (hb : base.length ≤ 10) :
    Changes prog w A H 525 [.ref BX, .str base tb] [(BX, oB)] (fun _ os' v => (∃ oB', os' = [(BX, oB')] ∧ BoxO prog w oB' (k + 1)) ∧ ∃ t : Tok, v = .str (nm base (k + 1)) t) := by
  intro s E Q kn hms nd hQ
  obtain ⟨t0, oB0⟩ := hB
  refine call_fn (ms := [(BX, oB)]) (binds := [("box", .ref BX), ("base", .str base tb)]) B l0 kn hms nd R.depth rfl rfl rfl rfl rfl rfl rfl ?_
  intro Lc h₁ tk S
  have R' : ∀ env, Room (A.deeper env) 2 := fun _ => R.deeper
  have hD : h₁.DictOf (strKind prog w) BX [(("many" : Str), .int (k : Int) t0)] := Heap.dictOf_iff.mpr ⟨oB, (S.mu _ (.head _)).1, oB0⟩
  refine xs (wpAny_Assign_Subscript (wpAny_BinOp (wpAny_Subscript_Constant_late (ev_var (s := uP s h₁ _) S.toRs rfl (wpAny_Constant_str (sub_dictO hD rfl fun tk1 => wpAny_Constant_int (wpAny_add_int ?_))) (by walk_at "VK")))))
  refine ev_var (s := uP s h₁ _) S.toRs rfl (wpAny_Constant_str ?_) (by walk_at "VK")
  refine wpAny_setItem_pairs (knd := PySem.strKind prog w) (s := uP s h₁ _) (strKind_is prog w _ _) hD (fun h₂ hd2 sb => ?_) (le_line (by simp))
  obtain ⟨o2, e2, r2⟩ := Heap.dictOf_iff.mp hd2
  have S₂ := S.change (fun b o hb e => sb.extBut b o hb e) e2
  have est : ∀ (u : Tok), stored [(("many" : Str), Value.int (k : Int) t0)] "many" (.int ((k : Int) + 1) u) = [(("many" : Str), Value.int ((k + 1 : Nat) : Int) u)] := fun u => rfl
  rw [est] at r2
  refine xs (wpAny_Return_some (wpAny_BinOp (wpAny_BinOp (ev_var (s := uP s h₂ _) S₂.toRs rfl (wpAny_Constant_str (add_str (fun t' tk' => ?_) ?_)) (by walk_at "VK")))))
  · have hD2 : h₂.DictOf (strKind prog w) BX [(("many" : Str), Value.int ((k + 1 : Nat) : Int) _)] := Heap.dictOf_iff.mpr ⟨o2, e2, r2⟩
    refine ev_callT (s := uP s h₂ _) B S₂.toRs rfl rfl rfl (wpAny_items_cons (wpAny_Subscript_Constant_late (ev_var (s := uP s h₂ _) S₂.toRs rfl (wpAny_Constant_str (sub_dictO hD2 rfl fun tk1 => wpAny_items_nil ?_)) (by walk_at "VK"))))
    have hlog : ((k + 1 : Nat) : Int).natAbs.log2 < 1920 := by
      rw [Int.natAbs_natCast]
      exact Nat.lt_of_le_of_lt (Nat.log2_le_self _) (by first | decide | lia)
    refine PySem.P.str_of_int hlog (add_str (fun t2 tk2 => ?_) ?_)
    · exact hQ _ H h₂ tk2 [(BX, o2)] (Post.move (os := [(BX, oB)]) S₂.post rfl fun p hp => (S₂.mu p hp).1) ⟨⟨o2, rfl, _, r2⟩, t2, rfl⟩
    · have e1 := num_len (k + 1) (by first | decide | lia)
      rw [len_app, dot_len]
      exact le_line (by first | decide | lia)
  · rw [dot_len]; exact le_line (by first | decide | lia)
end
end Mine
end
section
open PySem PySem.W PyProof.Rows PySem.Calls
set_option maxRecDepth 10000
set_option linter.unusedVariables false
namespace Mine
noncomputable def bases : List Str := ["p", "c", "u", "l"]
noncomputable def Off (a b : Nat) (y : Str) : Prop := ∀ base ∈ bases, ∀ j, a < j → j ≤ b → y ≠ nm base j
theorem Off.mono {a b a' b' : Nat} {y : Str} (h : Off a b y) (ha : a ≤ a') (hb : b' ≤ b) : Off a' b' y := fun base m j h1 h2 => h base m j (Nat.lt_of_le_of_lt ha h1) (Nat.le_trans h2 hb)
theorem nm_ne : ∀ (b1 : Str), b1 ∈ bases → ∀ (b2 : Str), b2 ∈ bases → ∀ i j : Nat, i ≤ 20 → j ≤ 20 → i ≠ j → nm b1 i ≠ nm b2 j := by
  have : ∀ b1 ∈ bases, ∀ b2 ∈ bases, ∀ i j : Fin 21, i ≠ j → nm b1 i.val ≠ nm b2 j.val := by decide +kernel
  intro b1 h1 b2 h2 i j hi hj ne
  exact this b1 h1 b2 h2 ⟨i, by lia⟩ ⟨j, by lia⟩ (fun q => ne (by simpa using q))
theorem nm_off {base : Str} {i a b : Nat} (hb : base ∈ bases) (h1 : i ≤ a ∨ b < i) (h2 : i ≤ 20) (h3 : b ≤ 20) : Off a b (nm base i) := fun b2 m j l u => nm_ne _ hb _ m _ _ h2 (by first | decide | lia) (by first | decide | lia)
noncomputable def cnt : Nat → Nat
  | 0 => 0
  | d + 1 => 2 + 4 * cnt d
noncomputable def Sc : Nat → List Str → Ex → Prop
  | 0, _, _ => True
  | _ + 1, Γ, .var x => x ∈ Γ
  | _ + 1, _, .lit | _ + 1, _, .con => True
  | n + 1, Γ, .prim _ args => ∀ a ∈ args, Sc n Γ a
  | n + 1, Γ, .case e c alts o => Sc n Γ e ∧ (∀ p ∈ alts, Sc n (Γ ++ c :: p.1) p.2) ∧ ∀ e ∈ o, Sc n (Γ ++ [c]) e
  | n + 1, Γ, .let_ binds b r => (∀ p ∈ binds, p.1 ∉ Γ) ∧ (∀ p ∈ binds, Sc n (if r then Γ ++ (binds.map fun q : Str × Ex => q.1) else Γ) p.2) ∧ Sc n (Γ ++ (binds.map fun q : Str × Ex => q.1)) b
  | _ + 1, Γ, .appv f _ => f ∈ Γ
  | n + 1, Γ, .appl ps b args => Sc n (Γ ++ ps) b ∧ ∀ a ∈ args, Sc n Γ a
noncomputable def NB : Nat → Str → Ex → Prop
  | 0, _, _ => True
  | _ + 1, _, .var _ | _ + 1, _, .lit | _ + 1, _, .con | _ + 1, _, .appv _ _ => True
  | n + 1, x, .prim _ args => ∀ a ∈ args, NB n x a
  | n + 1, x, .case e c alts o => NB n x e ∧ x ≠ c ∧ (∀ p ∈ alts, x ∉ p.1 ∧ NB n x p.2) ∧ ∀ e ∈ o, NB n x e
  | n + 1, x, .let_ binds b r => (∀ p ∈ binds, x ≠ p.1 ∧ NB n x p.2) ∧ NB n x b
  | n + 1, x, .appl ps b args => x ∉ ps ∧ NB n x b ∧ ∀ a ∈ args, NB n x a
noncomputable def UB : Nat → Ex → Prop
  | 0, _ => True
  | _ + 1, .var _ | _ + 1, .lit | _ + 1, .con | _ + 1, .appv _ _ => True
  | n + 1, .prim _ args => ∀ a ∈ args, UB n a
  | n + 1, .case e c alts o => UB n e ∧ (∀ p ∈ alts, UB n p.2) ∧ ∀ e ∈ o, UB n e
  | n + 1, .let_ binds b r => (∀ p ∈ binds, ∀ q ∈ binds, NB n p.1 q.2) ∧ (∀ p ∈ binds, NB n p.1 b) ∧ (∀ p ∈ binds, UB n p.2) ∧ UB n b
  | n + 1, .appl ps b args => (∀ p ∈ ps, NB n p b) ∧ UB n b ∧ ∀ a ∈ args, UB n a
structure Drawn (H : KH) (n : Nat) (Γ : List Str) (a b : Nat) (v : Value) (e : Ex) : Prop where
  tree : TreeAt H n v e
  few : Few n e
  sc : Sc n Γ e
  ub : UB n e
  nb : ∀ y, Off a b y → NB n y e
theorem Drawn.le {H H' : KH} {n : Nat} {Γ : List Str} {a b : Nat} {v : Value} {e : Ex} (x : Drawn H n Γ a b v e) (l : H.le H') : Drawn H' n Γ a b v e := ⟨TreeAt.le l _ _ _ x.tree, x.few, x.sc, x.ub, x.nb⟩
noncomputable def ExprAt (prog : Program) (w : World) (H0 : KH) (d : Nat) : Prop := ∀ (A : Around) (H : KH) (SL BX nl : Addr) (oS oB : Obj) (Γ : List Str) (k : Nat) (t : Tok), H0.le H → Room A (10 * d + 12) → SrcOk oS → BoxO prog w oB k → k + cnt d ≤ 20 → NamesH H (.ref nl) Γ → 1 ≤ Γ.length → Γ.length + 4 * d ≤ 100 → (∀ y ∈ Γ, Off k 20 y) →
  Changes prog w A H 530 [.ref SL, .ref BX, .ref nl, .int d t] [(SL, oS), (BX, oB)] (fun H' os' v => Ex4 fun oS' oB' k' e => An6 (os' = [(SL, oS'), (BX, oB')]) (SrcOk oS') (BoxO prog w oB' k') (k ≤ k') (k' ≤ k + cnt d) (Drawn H' (d + 2) Γ k k' v e))
theorem Grow.thenMove {H H1 H' : KH} {h h1 h' : Heap} {os os' : List (Addr × Obj)} (G : Grow H h H1 h1) (M : Move H1 h1 os H' h' os') : Move H h os H' h' os' :=
  ⟨G.le.trans M.le, M.inn, fun b o hb e => M.keep b o hb (G.up _ _ e), fun a e => (M.fresh a e).elim (G.fresh a) fun q => .inr (G.up.none q), M.own, M.addr⟩
theorem Inst.sub {H : KH} {C a : Addr} {l l' : List (Str × Value)} (x : Inst H C a l) (h : ∀ p ∈ l', p ∈ l) : Inst H C a l' := let ⟨dx, m, e, n, r⟩ := x; ⟨dx, m, e, n, fun p hp => r p (h p hp)⟩
section
variable {prog : Program} {w : World} {A : Around} {E : Value → Shared → Prop} {s : Shared} {H H0 : KH} {env : Env} {V : Str → Option Value}
noncomputable def NamesEv (prog : Program) (w : World) (A : Around) (H : KH) (env : Env) (ne : PySem.Expr) (Γ : List Str) (s : Shared) : Prop :=
  ∀ (Q : Value → Shared → Prop) (E : Value → Shared → Prop), (∀ nl H₁ h₁ tk₁, Grow H s.heap H₁ h₁ → NamesH H₁ (.ref nl) Γ → Q (.ref nl) (uP s h₁ tk₁)) → wpAny (model prog w) A (eval ne env) Q E s
theorem ev_expr {d : Nat} {SL BX : Addr} {oS oB : Obj} {Γ : List Str} {k : Nat} {td : Tok} {ne : PySem.Expr} {p p1 p2 p3 p4 p5 pos : Pos} {kd : Nat} {Q : Value → Shared → Prop} (B : Base (KW w) H0) (IH : ExprAt prog w H0 d) (R0 : Room A (10 * d + 12)) (R : Rs H0 H env V s.heap)
    (kf : env.kindOf "_law_expr" = some .globalImplicit) (ks : env.kindOf "source" = some .local ∨ env.kindOf "source" = some .cell) (kb : env.kindOf "box" = some .local ∨ env.kindOf "box" = some .cell) (kd' : env.kindOf "deep" = some .local ∨ env.kindOf "deep" = some .cell)
    (vs : V "source" = some (.ref SL)) (vb : V "box" = some (.ref BX)) (vd : V "deep" = some (.int ((d + 1 : Nat) : Int) td)) (hne : NamesEv prog w A H env ne Γ s)
    (own : ∀ p ∈ [(SL, oS), (BX, oB)], s.heap.get? p.1 = some p.2 ∧ H p.1 = none) (nd : ([(SL, oS), (BX, oB)].map (·.1)).Nodup) (hS : SrcOk oS) (hB : BoxO prog w oB k) (hk : k + cnt d ≤ 20) (h1 : 1 ≤ Γ.length) (h2 : Γ.length + 4 * d ≤ 100) (ho : ∀ y ∈ Γ, Off k 20 y)
    (hQ : ∀ v H' h' tk' oS' oB' k' e, Move H s.heap [(SL, oS), (BX, oB)] H' h' [(SL, oS'), (BX, oB')] → SrcOk oS' → BoxO prog w oB' k' → k ≤ k' → k' ≤ k + cnt d → Drawn H' (d + 2) Γ k k' v e → Q v (uP s h' tk'))
    (he1 : starEach [.Name "source" p1, .Name "box" p2, ne, .BinOp (.Name "deep" p3) .Sub (.Constant (.int 1) kd p4) p5] env = (false, eval (.Name "source" p1) env) :: starEach [.Name "box" p2, ne, .BinOp (.Name "deep" p3) .Sub (.Constant (.int 1) kd p4) p5] env := by rfl)
    (he3 : starEach [ne, .BinOp (.Name "deep" p3) .Sub (.Constant (.int 1) kd p4) p5] env = (false, eval ne env) :: starEach [.BinOp (.Name "deep" p3) .Sub (.Constant (.int 1) kd p4) p5] env := by rfl)
    (hpl : (backTo pos (starEach [.Name "box" p2, ne, .BinOp (.Name "deep" p3) .Sub (.Constant (.int 1) kd p4) p5] env)).any (·.1) = false := by rfl) :
    wpAny (model prog w) A (eval (.Call (.Name "_law_expr" p) [.Name "source" p1, .Name "box" p2, ne, .BinOp (.Name "deep" p3) .Sub (.Constant (.int 1) kd p4) p5] [] pos) env) Q E s := by
  refine ev_callK B R rfl kf rfl (wpAny_items_cons (ev_var R vs (wpAny_items_cons (ev_var R vb (wpAny_items_cons (he := he3) (hne _ _ fun nl H₁ h₁ tk₁ G hn => ?_)) kb)) ks)) he1 hpl
  have R₁ := R.grow G
  refine wpAny_items_cons (wpAny_BinOp (ev_var (s := uP s h₁ tk₁) R₁ vd (wpAny_Constant_int (sub_int (wpAny_items_nil ⟨R₁.inK B, ?_⟩))) kd'))
  have e1 : ((d + 1 : Nat) : Int) - 1 = (d : Int) := by lia
  rw [e1]
  refine IH A H₁ SL BX nl oS oB Γ k _ R₁.b0 R0 hS hB hk hn h1 h2 ho _ _ _ R₁.kn (fun p hp => ⟨G.up _ _ (own p hp).1, ?_⟩) nd fun v H' h' tk' os' M ⟨oS', oB', k', e, q1, q2, q3, q4, q5, q6⟩ => ?_
  · exact G.off (own p hp).1 (own p hp).2
  · subst q1
    exact hQ v H' h' tk' oS' oB' k' e (G.thenMove M) q2 q3 q4 q5 q6
end
end Mine
end
section
open PySem PySem.W PyProof.Rows PySem.Calls
set_option maxRecDepth 10000
set_option linter.unusedVariables false
namespace Mine
section
variable {prog : Program} {w : World} {A : Around} {E : Value → Shared → Prop} {s : Shared} {c : Cx} {H H0 : KH} {env : Env} {V : Str → Option Value} {r : List (Addr × Obj)}
theorem names_var {x : Str} {p : Pos} {nl : Addr} {Γ : List Str} (R : Rs H0 H env V s.heap) (hx : V x = some (.ref nl)) (hk : env.kindOf x = some .local ∨ env.kindOf x = some .cell) (hn : NamesH H (.ref nl) Γ) (hd : (x == ("__debug__" : Str)) = false := by decide) : NamesEv prog w A H env (.Name x p) Γ s :=
  fun Q E h => ev_var R hx (h nl H s.heap s.toks (.refl R.kn) hn) hk hd
theorem names_cat {H1 : KH} {s1 : Shared} {l b : Addr} {Γ Δ : List Str} {us : List Value} {ep : Nat} {Q : Value → Shared → Prop} (k : InH H1 s1.heap) (hn : NamesH H1 (.ref l) Γ) (hb : s1.heap.get? b = some (lsO us ep)) (hu : StrsAre us Δ) (hsz : Γ.length + Δ.length ≤ 1000)
    (h : ∀ a H2 h2, Grow H1 s1.heap H2 h2 → NamesH H2 (.ref a) (Γ ++ Δ) → Q (.ref a) (uH s1 h2)) : wpAny (model prog w) A (binaryOp .Add (.ref l) (.ref b)) Q E s1 := by
  obtain ⟨l', vs, e, ⟨epl, hl⟩, hs⟩ := hn
  cases e
  have e1 := strsLen hs
  have e2 := strsLen hu
  refine PySem.P.add_list (k _ _ hl) hb ?_ (by rw [List.size_toArray, List.size_toArray]; exact le_line (by lia))
  rw [List.append_toArray]
  have fr : s1.heap.get? s1.heap.objs.size = none := fresh_of_size (Nat.le_refl _)
  exact h _ _ _ (Grow.add (o := lsO (vs ++ us) 0) k (Up.push _ _) fr (Heap.get?_push_size _ rfl)) ⟨_, _, rfl, ⟨0, addH_self⟩, strs_append hs hu⟩
theorem names_plus1 {x y : Str} {p p1 p2 pos : Pos} {nl : Addr} {z : Str} {tz : Tok} {Γ : List Str} (R : Rs H0 H env V s.heap) (hx : V x = some (.ref nl)) (hk : env.kindOf x = some .local ∨ env.kindOf x = some .cell) (hn : NamesH H (.ref nl) Γ) (hy : V y = some (.str z tz)) (hky : env.kindOf y = some .local ∨ env.kindOf y = some .cell) (hsz : Γ.length ≤ 900) (hd : (x == ("__debug__" : Str)) = false := by decide) (hd' : (y == ("__debug__" : Str)) = false := by decide) :
    NamesEv prog w A H env (.BinOp (.Name x p) .Add (.List [.Name y p1] p2) pos) (Γ ++ [z]) s := fun Q E h => by
  refine wpAny_BinOp (ev_var R hx (List_ (wpAny_items_cons (ev_var R hy (wpAny_items_nil ?_) hky hd'))) hk hd)
  refine wpAny_newObj_type ?_ (by show ([.str z tz] : List Value).toArray.size ≤ sizeLine; rw [List.size_toArray, sizeLine_eq]; simp)
  have up := Up.push s.heap { cls := .type "list", dict := none, data := .seq ([.str z tz] : List Value).toArray }
  refine names_cat (s1 := { s with heap := s.heap.push _ }) (us := [.str z tz]) (ep := 0) (R.kn.up up) hn (Heap.get?_push_size _ rfl) (.cons z tz .nil) (by simp; lia) fun a H2 h2 G hn2 => ?_
  exact h a H2 h2 _ ((Grow.up' R.kn up).trans G) hn2
theorem names_plus2 {x y y' : Str} {p p1 p1' p2 pos : Pos} {nl : Addr} {z z' : Str} {tz tz' : Tok} {Γ : List Str} (R : Rs H0 H env V s.heap) (hx : V x = some (.ref nl)) (hk : env.kindOf x = some .local ∨ env.kindOf x = some .cell) (hn : NamesH H (.ref nl) Γ) (hy : V y = some (.str z tz)) (hky : env.kindOf y = some .local ∨ env.kindOf y = some .cell) (hy' : V y' = some (.str z' tz')) (hky' : env.kindOf y' = some .local ∨ env.kindOf y' = some .cell) (hsz : Γ.length ≤ 900) (hd : (x == ("__debug__" : Str)) = false := by decide) (hd' : (y == ("__debug__" : Str)) = false := by decide) (hd'' : (y' == ("__debug__" : Str)) = false := by decide) :
    NamesEv prog w A H env (.BinOp (.Name x p) .Add (.List [.Name y p1, .Name y' p1'] p2) pos) (Γ ++ [z, z']) s := fun Q E h => by
  refine wpAny_BinOp (ev_var R hx (List_ (wpAny_items_cons (ev_var R hy (wpAny_items_cons (ev_var R hy' (wpAny_items_nil ?_) hky' hd'')) hky hd'))) hk hd)
  refine wpAny_newObj_type ?_ (by show ([.str z tz, .str z' tz'] : List Value).toArray.size ≤ sizeLine; rw [List.size_toArray, sizeLine_eq]; simp)
  have up := Up.push s.heap { cls := .type "list", dict := none, data := .seq ([.str z tz, .str z' tz'] : List Value).toArray }
  refine names_cat (s1 := { s with heap := s.heap.push _ }) (us := [.str z tz, .str z' tz']) (ep := 0) (R.kn.up up) hn (Heap.get?_push_size _ rfl) (.cons z tz (.cons z' tz' .nil)) (by simp; lia) fun a H2 h2 G hn2 => ?_
  exact h a H2 h2 _ ((Grow.up' R.kn up).trans G) hn2
theorem names_plusV {x y : Str} {p p1 pos : Pos} {nl ml : Addr} {Γ Δ : List Str} (R : Rs H0 H env V s.heap) (hx : V x = some (.ref nl)) (hk : env.kindOf x = some .local ∨ env.kindOf x = some .cell) (hn : NamesH H (.ref nl) Γ) (hy : V y = some (.ref ml)) (hky : env.kindOf y = some .local ∨ env.kindOf y = some .cell) (hm : NamesH H (.ref ml) Δ) (hsz : Γ.length + Δ.length ≤ 1000) (hd : (x == ("__debug__" : Str)) = false := by decide) (hd' : (y == ("__debug__" : Str)) = false := by decide) :
    NamesEv prog w A H env (.BinOp (.Name x p) .Add (.Name y p1) pos) (Γ ++ Δ) s := fun Q E h => by
  obtain ⟨m', vs, e, ⟨epm, hm'⟩, hs⟩ := hm
  cases e
  refine wpAny_BinOp (ev_var R hx (ev_var R hy ?_ hky hd') hk hd)
  exact names_cat R.kn hn (R.kn _ _ hm') hs hsz fun a H2 h2 G hn2 => h a H2 h2 s.toks G hn2
variable {SL BX : Addr} {oS oB : Obj}
theorem ev_take {top : Nat} {p p1 p2 pos : Pos} {kd : Nat} {Q : Value → Shared → Prop} (B : Base (KW w) c.H0) (S : St c H env V ((SL, oS) :: r) s.heap) (R0 : Room A 3) (hS : SrcOk oS) (h1 : 1 ≤ top) (h2 : top ≤ 1000) (vs : V "source" = some (.ref SL)) (ks : env.kindOf "source" = some .local ∨ env.kindOf "source" = some .cell) (kf : env.kindOf "_law_take" = some .globalImplicit)
    (h : ∀ rr t oS' H' h' tk', H.le H' → St c H' env V ((SL, oS') :: r) h' → SrcOk oS' → rr < top → Q (.int ((rr : Nat) : Int) t) (uP s h' tk')) :
    wpAny (model prog w) A (eval (.Call (.Name "_law_take" p) [.Name "source" p1, .Constant (.int ((top : Nat) : Int)) kd p2] [] pos) env) Q E s := by
  refine ev_callK B S.toRs rfl kf rfl (wpAny_items_cons (ev_var S.toRs vs (wpAny_items_cons (wpAny_Constant_int (wpAny_items_nil ⟨S.inK B, ?_⟩))) ks))
  refine take_spec B S.b0 R0 hS h1 h2 _ _ _ S.kn (fun p hp => ?_) (by simp) fun v H' h' tk' os' M ⟨⟨oS', e1, hS'⟩, rr, t, e2, hr⟩ => ?_
  · rw [List.mem_singleton.mp hp]; exact ⟨(S.mu _ (.head _)).1, (S.mu _ (.head _)).2.1⟩
  · subst e1; subst e2
    exact h rr t oS' H' h' tk' M.le (St.moveL (os := [(SL, oS)]) S M) hS' hr
theorem ev_new {k : Nat} {base : Str} {p p1 p2 pos : Pos} {kd : Nat} {Q : Value → Shared → Prop} (B : Base (KW w) c.H0) (S : St c H env V ((SL, oS) :: (BX, oB) :: r) s.heap) (R0 : Room A 3) (hB : BoxO prog w oB k) (hk : k ≤ 20) (hb : base.length ≤ 10) (vb : V "box" = some (.ref BX)) (kb : env.kindOf "box" = some .local ∨ env.kindOf "box" = some .cell) (kf : env.kindOf "_law_new" = some .globalImplicit)
    (h : ∀ t oB' H' h' tk', H.le H' → St c H' env V ((SL, oS) :: (BX, oB') :: r) h' → BoxO prog w oB' (k + 1) → Q (.str (nm base (k + 1)) t) (uP s h' tk')) :
    wpAny (model prog w) A (eval (.Call (.Name "_law_new" p) [.Name "box" p1, .Constant (.str base) kd p2] [] pos) env) Q E s := by
  refine ev_callK B S.toRs rfl kf rfl (wpAny_items_cons (ev_var S.toRs vb (wpAny_items_cons (wpAny_Constant_str (wpAny_items_nil ⟨S.inK B, ?_⟩))) kb))
  have S1 : St c H env V ((BX, oB) :: (SL, oS) :: r) s.heap := S.perm (List.Perm.swap _ _ _)
  refine new_spec B S.b0 R0 hB hk hb _ _ _ S.kn (fun p hp => ?_) (by simp) fun v H' h' tk' os' M ⟨⟨oB', e1, hB'⟩, t, e2⟩ => ?_
  · rw [List.mem_singleton.mp hp]; exact ⟨(S1.mu _ (.head _)).1, (S1.mu _ (.head _)).2.1⟩
  · subst e1; subst e2
    exact h t oB' H' h' tk' M.le ((St.moveL (os := [(BX, oB)]) S1 M).perm (List.Perm.swap _ _ _)) hB'
theorem ev_draw {d : Nat} {Γ : List Str} {k : Nat} {td : Tok} {ne : PySem.Expr} {p p1 p2 p3 p4 p5 pos : Pos} {kd : Nat} {Q : Value → Shared → Prop} (B : Base (KW w) c.H0) (IH : ExprAt prog w c.H0 d) (S : St c H env V ((SL, oS) :: (BX, oB) :: r) s.heap) (R0 : Room A (10 * d + 12))
    (kf : env.kindOf "_law_expr" = some .globalImplicit) (ks : env.kindOf "source" = some .local ∨ env.kindOf "source" = some .cell) (kb : env.kindOf "box" = some .local ∨ env.kindOf "box" = some .cell) (kd' : env.kindOf "deep" = some .local ∨ env.kindOf "deep" = some .cell)
    (vs : V "source" = some (.ref SL)) (vb : V "box" = some (.ref BX)) (vd : V "deep" = some (.int ((d + 1 : Nat) : Int) td)) (hne : NamesEv prog w A H env ne Γ s)
    (hS : SrcOk oS) (hB : BoxO prog w oB k) (hk : k + cnt d ≤ 20) (h1 : 1 ≤ Γ.length) (h2 : Γ.length + 4 * d ≤ 100) (ho : ∀ y ∈ Γ, Off k 20 y)
    (hQ : ∀ v H' h' tk' oS' oB' k' e, H.le H' → St c H' env V ((SL, oS') :: (BX, oB') :: r) h' → SrcOk oS' → BoxO prog w oB' k' → k ≤ k' → k' ≤ k + cnt d → Drawn H' (d + 2) Γ k k' v e → Q v (uP s h' tk'))
    (he3 : starEach [ne, .BinOp (.Name "deep" p3) .Sub (.Constant (.int 1) kd p4) p5] env = (false, eval ne env) :: starEach [.BinOp (.Name "deep" p3) .Sub (.Constant (.int 1) kd p4) p5] env := by rfl)
    (hpl : (backTo pos (starEach [.Name "box" p2, ne, .BinOp (.Name "deep" p3) .Sub (.Constant (.int 1) kd p4) p5] env)).any (·.1) = false := by rfl) :
    wpAny (model prog w) A (eval (.Call (.Name "_law_expr" p) [.Name "source" p1, .Name "box" p2, ne, .BinOp (.Name "deep" p3) .Sub (.Constant (.int 1) kd p4) p5] [] pos) env) Q E s := by
  refine ev_expr B IH R0 S.toRs kf ks kb kd' vs vb vd hne (fun p hp => ?_) ?_ hS hB hk h1 h2 ho (fun v H' h' tk' oS' oB' k' e M q1 q2 q3 q4 q5 => hQ v H' h' tk' oS' oB' k' e M.le (St.moveL (os := [(SL, oS), (BX, oB)]) S M) q1 q2 q3 q4 q5) (he3 := he3) (hpl := hpl)
  · have : p ∈ (SL, oS) :: (BX, oB) :: r := by
      rcases List.mem_cons.mp hp with rfl | hp
      · exact .head _
      · rw [List.mem_singleton.mp hp]; exact .tail _ (.head _)
    exact ⟨(S.mu _ this).1, (S.mu _ this).2.1⟩
  · have := S.nd
    rw [List.map_cons, List.map_cons] at this
    exact this.sublist (List.Sublist.cons_cons _ (List.Sublist.cons_cons _ (List.nil_sublist _)))
end
end Mine
end
section
open PySem PySem.W PyProof.Rows PySem.Calls
set_option maxRecDepth 10000
set_option linter.unusedVariables false
namespace Mine
noncomputable def PartAt (prog : Program) (w : World) (H0 : KH) (f : Addr) (room d : Nat) : Prop := ∀ (A : Around) (H : KH) (SL BX nl : Addr) (oS oB : Obj) (Γ : List Str) (k : Nat) (t : Tok), H0.le H → Room A (10 * d + room) → SrcOk oS → BoxO prog w oB k → k + cnt d ≤ 20 → NamesH H (.ref nl) Γ → 1 ≤ Γ.length → Γ.length + 4 * d ≤ 100 → (∀ y ∈ Γ, Off k 20 y) →
  Changes prog w A H f [.ref SL, .ref BX, .ref nl, .int d t] [(SL, oS), (BX, oB)] (fun H' os' v => Ex4 fun oS' oB' k' e => An6 (os' = [(SL, oS'), (BX, oB')]) (SrcOk oS') (BoxO prog w oB' k') (k ≤ k') (k' ≤ k + cnt d) (Drawn H' (d + 2) Γ k k' v e))
theorem off_append {k k' : Nat} {Γ : List Str} {xs : List Str} (h : ∀ y ∈ Γ, Off k 20 y) (hk : k ≤ k') (hx : ∀ y ∈ xs, Off k' 20 y) : ∀ y ∈ Γ ++ xs, Off k' 20 y := fun y hy => (List.mem_append.mp hy).elim (fun m => (h y m).mono hk (Nat.le_refl _)) (hx y)
structure AltsD (H : KH) (n : Nat) (Γ : List Str) (c : Str) (a b : Nat) (la : Addr) (alts : List (List Str × Ex)) : Prop where
  at_ : ∃ vs, ListH H la vs ∧ AltsAt H n vs alts
  len : alts.length ≤ 1
  few : ∀ p ∈ alts, Few n p.2 ∧ p.1.length ≤ 100
  sc : ∀ p ∈ alts, Sc n (Γ ++ c :: p.1) p.2
  ub : ∀ p ∈ alts, UB n p.2
  nb : ∀ y, Off a b y → ∀ p ∈ alts, y ∉ p.1 ∧ NB n y p.2
theorem AltsD.le {H H' : KH} {n : Nat} {Γ : List Str} {c : Str} {a b b' : Nat} {la : Addr} {alts : List (List Str × Ex)} (x : AltsD H n Γ c a b la alts) (l : H.le H') (hb : b ≤ b') : AltsD H' n Γ c a b' la alts :=
  ⟨let ⟨vs, q1, q2⟩ := x.at_; ⟨vs, q1.le l, AltsAt.le l q2⟩, x.len, x.few, x.sc, x.ub, fun y hy => x.nb y (hy.mono (Nat.le_refl _) hb)⟩
theorem AltsD.one {H : KH} {n : Nat} {Γ : List Str} {c : Str} {a b : Nat} {la al l' : Addr} {ns : List Value} {xs : List Str} {vb : Value} {e : Ex} {k1 k2 : Nat} (L : ListH H la [.ref al]) (I : Inst H 248 al [("names", .ref l'), ("body", vb)]) (L' : ListH H l' ns) (hs : StrsAre ns xs) (hx : xs.length ≤ 100) (D : Drawn H n (Γ ++ c :: xs) k1 k2 vb e) (h1 : a ≤ k1) (h2 : k2 ≤ b) (ho : ∀ y, Off a b y → y ∉ xs) :
    AltsD H n Γ c a b la [(xs, e)] where
  at_ := ⟨_, L, .cons ⟨al, l', ns, vb, rfl, I, L', hs, D.tree⟩ .nil⟩
  len := Nat.le_refl _
  few := fun p hp => by rw [List.mem_singleton.mp hp]; exact ⟨D.few, hx⟩
  sc := fun p hp => by rw [List.mem_singleton.mp hp]; exact D.sc
  ub := fun p hp => by rw [List.mem_singleton.mp hp]; exact D.ub
  nb := fun y hy p hp => by rw [List.mem_singleton.mp hp]; exact ⟨ho y hy, D.nb y (hy.mono h1 h2)⟩
section
variable {prog : Program} {w : World} {H0 : KH}
set_option maxHeartbeats 4000000 in
theorem case_draw {d : Nat} (B : Base (KW w) H0) (IH : ExprAt prog w H0 d) : PartAt prog w H0 537 11 (d + 1) := by
  intro A H SL BX nl oS oB Γ k t l0 R hS hB hk hn h1 h2 ho s E Q kn hms nd hQ
  have hcnt : cnt (d + 1) = 2 + 4 * cnt d := rfl
  rw [hcnt] at hk
  refine call_fn (ms := [(SL, oS), (BX, oB)]) (binds := [("source", .ref SL), ("box", .ref BX), ("names", .ref nl), ("deep", .int ((d + 1 : Nat) : Int) t)]) B l0 kn hms nd R.depth rfl rfl rfl rfl rfl rfl rfl ?_
  intro Lc h₁ tk S
  have R' : ∀ env, Room (A.deeper env) (10 * d + 20) := fun _ => (R.mo).deeper
  have bc : ("c" : Str) ∈ bases := by simp [bases]
  have bu : ("u" : Str) ∈ bases := by simp [bases]
  have fin : ∀ {H' : KH} {h' : Heap} {tk' : Nat} {V' : Str → Option Value} {env : Env} {oS' oB' : Obj} {k' : Nat} {v : Value} {e : Ex}, St ⟨H0, H, s.heap, [SL, BX]⟩ H' env V' [(SL, oS'), (BX, oB')] h' → SrcOk oS' → BoxO prog w oB' k' → k ≤ k' → k' ≤ k + (2 + 4 * cnt d) → Drawn H' (d + 1 + 2) Γ k k' v e → Q v (uP s h' tk') := by
    intro H' h' tk' V' env oS' oB' k' v e S' hS' hB' q1 q2 q3
    exact hQ v H' h' tk' [(SL, oS'), (BX, oB')] (Post.move (os := [(SL, oS), (BX, oB)]) S'.post rfl fun p hp => (S'.mu p hp).1) ⟨oS', oB', k', e, rfl, hS', hB', q1, by rw [hcnt]; exact q2, q3⟩
  refine xs ?_
  refine asg2 ?_ ?_ ?_ ?_
  case refine_1 => exact R.hd
  case refine_3 => exact .inl rfl
  case refine_4 => exact .inl rfl
  refine ev_draw (s := uP s h₁ tk) (Γ := Γ) B IH S ((R' _).mo) rfl (by walk_at "VK") (by walk_at "VK") (by walk_at "VK") rfl rfl rfl (names_var S.toRs rfl (by walk_at "VK") hn) hS hB (by first | decide | lia) h1 (by first | decide | lia) ho fun ve H₁ h₂ tk₂ oS₁ oB₁ k₁ e₁ le₁ S₁ hS₁ hB₁ q1 q2 D₁ => ?_
  refine ev_new (s := uP s h₂ tk₂) B S₁ ((R' _).mo) hB₁ (by first | decide | lia) (by decide +kernel) rfl (by walk_at "VK") rfl fun tc oB₂ H₂ h₃ tk₃ le₂ S₂ hB₂ => ?_
  refine ⟨_, H₂, _, _, S₂, fun h₄ tk₄ S₄ => ?_⟩
  have l2 := le₁.trans le₂
  have D₂ := D₁.le le₂
  have hn2 := hn.le l2
  have hcO : ∀ K, k₁ + 1 ≤ K → K ≤ 20 → Off K 20 (nm "c" (k₁ + 1)) := fun K h1 h2 => nm_off bc (.inl (by first | decide | lia)) (by first | decide | lia) (by first | decide | lia)
  refine absG fun gG hgG => ?_
  obtain ⟨ae, le', hve, _⟩ := D₂.tree.inst
  refine hgG ?_; clear hgG
  subst hve
  refine xs (xif (wpAny_isTrue_Compare1 (ev_take (s := uP s h₄ tk₄) (top := 4) B S₄ ((R' _).mo) hS₁ (by first | decide | lia) (by first | decide | lia) rfl (by walk_at "VK") rfl fun rr tr oS₅ H₅ h₅ tk₅ le₅ S₅ hS₅ hrr => wpAny_Constant_int (eq_int (wpAny_truthy_bool ?_))) rfl))
  have l5 := l2.trans le₅
  have D₅ := D₂.le le₅
  cases hb0 : (((rr : Nat) : Int) == 0) with
  | true =>
    refine xs (wpAny_Return_some ?_)
    refine ev_callK (s := uP s h₅ _) B S₅.toRs rfl rfl rfl (wpAny_items_cons (ev_var (s := uP s h₅ _) S₅.toRs rfl (wpAny_items_cons (ev_var (s := uP s h₅ _) S₅.toRs rfl (wpAny_items_cons (List_ (wpAny_items_nil ?_))) (by walk_at "VK"))) (by walk_at "VK")))
    refine newLX (s := uP s h₅ _) S₅ (by simp) fun la h₆ S₆ lX => wpAny_items_cons ?_
    have S₇ := S₆.freeze lX
    have l67 := addH_le (o := lsO [] 0) (S₆.mu _ (.head _)).2.1
    have hla : ListH (addH H₅ la (lsO [] 0)) la [] := ⟨0, addH_self⟩
    have l7 := l5.trans l67
    have D₇ := D₅.le l67
    generalize addH H₅ la (lsO [] 0) = H₇ at *
    refine ev_draw (s := uP s h₆ _) (Γ := Γ ++ [nm "c" (k₁ + 1)]) B IH S₇ ((R' _).mo) rfl (by walk_at "VK") (by walk_at "VK") (by walk_at "VK") rfl rfl rfl (names_plus1 S₇.toRs rfl (by walk_at "VK") (hn.le l7) rfl (by walk_at "VK") (by first | decide | lia)) hS₅ hB₂ (by first | decide | lia) (by simp) (by rw [List.length_append]; simp; lia) (off_append ho (by first | decide | lia) fun y hy => by rw [List.mem_singleton.mp hy]; exact hcO _ (Nat.le_refl _) (by first | decide | lia)) fun vo H₈ h₈ tk₈ oS₈ oB₈ k₈ e₈ le₈ S₈ hS₈ hB₈ q3 q4 D₈ => ?_
    refine wpAny_items_nil ⟨S₈.inK B, ?_⟩
    refine make_Case B S₈.b0 ((R' _).mo) _ _ _ S₈.kn fun v H₉ h₉ tk₉ G₉ ⟨ac, ev, Ic⟩ => ?_
    subst ev
    refine fin (e := .case e₁ (nm "c" (k₁ + 1)) [] (some e₈)) (S₈.grow G₉) hS₈ hB₈ (by first | decide | lia) (by first | decide | lia) ⟨?_, ?_, ?_, ?_, ?_⟩
    · exact ⟨ac, la, [], _, vo, tc, rfl, Ic, ((D₇.le le₈).le G₉.le).tree, (hla.le le₈).le G₉.le, .nil, (D₈.le G₉.le).tree⟩
    · exact ⟨D₁.few, Nat.zero_le _, fun p hp => by simp at hp, fun e he => by cases he; exact D₈.few, fun p hp => by simp at hp⟩
    · exact ⟨D₁.sc, fun p hp => by simp at hp, fun e he => by cases he; exact D₈.sc⟩
    · exact ⟨D₁.ub, fun p hp => by simp at hp, fun e he => by cases he; exact D₈.ub⟩
    · intro y hy
      exact ⟨D₁.nb y (hy.mono (Nat.le_refl _) (by first | decide | lia)), hy "c" bc (k₁ + 1) (by first | decide | lia) (by first | decide | lia), fun p hp => by simp at hp, fun e he => by cases he; exact D₈.nb y (hy.mono (by lia) (Nat.le_refl _))⟩
  | false =>
    refine wpAny_execs_nil ?_
    refine xs (wpAny_Assign_Name (ev_new (s := uP s h₅ _) B S₅ ((R' _).mo) hB₂ (by first | decide | lia) (by decide +kernel) rfl (by walk_at "VK") rfl fun tf oB₆ H₆ h₆ tk₆ le₆ S₆ hB₆ => ?_))
    refine St.store (s := uP s h₆ tk₆) S₆ (by walk_at "VK") fun h₇ tk₇ S₇ => ?_
    have l6 := l5.trans le₆
    have huO : ∀ K, k₁ + 1 + 1 ≤ K → K ≤ 20 → Off K 20 (nm "u" (k₁ + 1 + 1)) := fun K h1 h2 => nm_off bu (.inl (by first | decide | lia)) (by first | decide | lia) (by first | decide | lia)
    refine xs (wpAny_Assign_Name (List_ (wpAny_items_cons ?_)))
    refine ev_callK (s := uP s h₇ tk₇) B S₇.toRs rfl rfl rfl (wpAny_items_cons (Tuple_ (wpAny_items_cons (wpAny_Constant_str (wpAny_items_cons (wpAny_Constant_str (wpAny_items_nil ?_)))))))
    refine newTX (s := uP s h₇ _) S₇ (by simp) fun tp h₈ S₈ tX => wpAny_items_cons (List_ (wpAny_items_cons (ev_var (s := uP s h₈ _) S₈.toRs rfl (wpAny_items_nil ?_) (by walk_at "VK"))))
    refine newLX (s := uP s h₈ _) S₈ (by simp) fun lf h₉ S₉ lX => wpAny_items_cons ?_
    have S₁₀ := S₉.freeze lX
    have l910 := addH_le (o := lsO [.str (nm "u" (k₁ + 1 + 1)) tf] 0) (S₉.mu _ (.head _)).2.1
    have hlf : ListH (addH H₆ lf (lsO [.str (nm "u" (k₁ + 1 + 1)) tf] 0)) lf [.str (nm "u" (k₁ + 1 + 1)) tf] := ⟨0, addH_self⟩
    have l10 := l6.trans l910
    have S₁₁ := S₁₀.drop tX
    have D₁₁ := (D₅.le le₆).le l910
    generalize addH H₆ lf (lsO [.str (nm "u" (k₁ + 1 + 1)) tf] 0) = H₁₀ at *
    refine ev_draw (s := uP s h₉ _) (Γ := Γ ++ [nm "c" (k₁ + 1), nm "u" (k₁ + 1 + 1)]) B IH S₁₁ ((R' _).mo) rfl (by walk_at "VK") (by walk_at "VK") (by walk_at "VK") rfl rfl rfl (names_plus2 S₁₁.toRs rfl (by walk_at "VK") (hn.le l10) rfl (by walk_at "VK") rfl (by walk_at "VK") (by first | decide | lia)) hS₅ hB₆ (by first | decide | lia) (by simp) (by rw [List.length_append]; simp; lia) (off_append ho (by first | decide | lia) fun y hy => by
      rcases List.mem_cons.mp hy with rfl | hy
      · exact hcO _ (by first | decide | lia) (by first | decide | lia)
      · rw [List.mem_singleton.mp hy]; exact huO _ (Nat.le_refl _) (by first | decide | lia)) fun va H₁₂ h₁₂ tk₁₂ oS₁₂ oB₁₂ k₁₂ e₁₂ le₁₂ S₁₂ hS₁₂ hB₁₂ q3 q4 D₁₂ => ?_
    refine wpAny_items_nil ⟨S₁₂.inK B, ?_⟩
    refine make_Alt B S₁₂.b0 ((R' _).mo) _ _ _ S₁₂.kn fun v H₁₃ h₁₃ tk₁₃ G₁₃ ⟨al, ev, Ia⟩ => wpAny_items_nil ?_
    subst ev
    have S₁₃ := S₁₂.grow G₁₃
    refine newLX (s := uP s h₁₃ _) S₁₃ (by simp) fun la h₁₄ S₁₄ laX => ?_
    have S₁₅ := S₁₄.freeze laX
    have l1415 := addH_le (o := lsO [.ref al] 0) (S₁₄.mu _ (.head _)).2.1
    have hla : ListH (addH H₁₃ la (lsO [.ref al] 0)) la [.ref al] := ⟨0, addH_self⟩
    have l15 := ((l10.trans le₁₂).trans G₁₃.le).trans l1415
    have D₁₅ := ((D₁₁.le le₁₂).le G₁₃.le).le l1415
    have A₁₅ : AltsD (addH H₁₃ la (lsO [.ref al] 0)) (d + 2) Γ (nm "c" (k₁ + 1)) k k₁₂ la [([nm "u" (k₁ + 1 + 1)], e₁₂)] :=
      .one hla ((Ia.sub (by simp)).le l1415) (((hlf.le le₁₂).le G₁₃.le).le l1415) (.cons _ tf .nil) (by simp) ((D₁₂.le G₁₃.le).le l1415) (by first | decide | lia) (Nat.le_refl _) fun y hy m => by
        rw [List.mem_singleton.mp m] at hy
        exact hy "u" bu (k₁ + 1 + 1) (by first | decide | lia) (by first | decide | lia) rfl
    generalize addH H₁₃ la (lsO [.ref al] 0) = H₁₅ at *
    refine St.store (s := uP s h₁₄ _) S₁₅ (by walk_at "VK") fun h₁₆ tk₁₆ S₁₆ => ?_
    refine xs (mid (s := uP s h₁₆ tk₁₆) S₁₆ (fun H3 V3 ms3 => An7 (V3 "source" = some (.ref SL)) (V3 "box" = some (.ref BX)) (V3 "names" = some (.ref nl)) (V3 "deep" = some (.int ((d + 1 : Nat) : Int) t)) (V3 "value" = some (.ref ae)) (V3 "name" = some (.str (nm "c" (k₁ + 1)) tc))
      (Ex5 fun la alts oS3 oB3 k3 => An7 (V3 "alts" = some (.ref la)) (ms3 = [(SL, oS3), (BX, oB3)]) (SrcOk oS3) (BoxO prog w oB3 k3) (k₁ + 2 ≤ k3) (k3 ≤ k₁ + 2 + 2 * cnt d) (AltsD H3 (d + 2) Γ (nm "c" (k₁ + 1)) k k3 la alts))) ?_ ?_)
    · refine xif (wpAny_isTrue_Compare1 (ev_take (s := uP s h₁₆ tk₁₆) (top := 2) B S₁₆ ((R' _).mo) hS₁₂ (by first | decide | lia) (by first | decide | lia) rfl (by walk_at "VK") rfl fun r2 tr2 oS₁₇ H₁₇ h₁₇ tk₁₇ le₁₇ S₁₇ hS₁₇ hr2 => wpAny_Constant_int (eq_int (wpAny_truthy_bool ?_))) rfl)
      have l17 := l15.trans le₁₇
      cases hb2 : (((r2 : Nat) : Int) == 0) with
      | false =>
        exact wpAny_execs_nil ⟨rfl, H₁₇, _, _, h₁₇, _, rfl, le₁₇, S₁₇, rfl, rfl, rfl, rfl, rfl, rfl, la, _, oS₁₇, oB₁₂, k₁₂, rfl, rfl, hS₁₇, hB₁₂, by lia, by lia, A₁₅.le le₁₇ (Nat.le_refl _)⟩
      | true =>
        refine xs (wpAny_Assign_Name (List_ (wpAny_items_cons ?_)))
        refine ev_callK (s := uP s h₁₇ _) B S₁₇.toRs rfl rfl rfl (wpAny_items_cons (Tuple_ (wpAny_items_cons (wpAny_Constant_str (wpAny_items_cons (wpAny_Constant_str (wpAny_items_cons (wpAny_Constant_int (wpAny_items_nil ?_)))))))))
        refine newTX (s := uP s h₁₇ _) S₁₇ (by simp) fun tp2 h₁₈ S₁₈ tX2 => wpAny_items_cons (List_ (wpAny_items_nil ?_))
        refine newLX (s := uP s h₁₈ _) S₁₈ (by simp) fun lf2 h₁₉ S₁₉ lX2 => wpAny_items_cons ?_
        have S₂₀ := S₁₉.freeze lX2
        have l1920 := addH_le (o := lsO [] 0) (S₁₉.mu _ (.head _)).2.1
        have hlf2 : ListH (addH H₁₇ lf2 (lsO [] 0)) lf2 [] := ⟨0, addH_self⟩
        have l20 := l17.trans l1920
        have le20 := le₁₇.trans l1920
        have S₂₁ := S₂₀.drop tX2
        generalize addH H₁₇ lf2 (lsO [] 0) = H₂₀ at *
        refine ev_draw (s := uP s h₁₉ _) (Γ := Γ ++ [nm "c" (k₁ + 1)]) B IH S₂₁ ((R' _).mo) rfl (by walk_at "VK") (by walk_at "VK") (by walk_at "VK") rfl rfl rfl (names_plus1 S₂₁.toRs rfl (by walk_at "VK") (hn.le l20) rfl (by walk_at "VK") (by first | decide | lia)) hS₁₇ hB₁₂ (by first | decide | lia) (by simp) (by rw [List.length_append]; simp; lia) (off_append ho (by first | decide | lia) fun y hy => by rw [List.mem_singleton.mp hy]; exact hcO _ (by first | decide | lia) (by first | decide | lia)) fun vb H₂₂ h₂₂ tk₂₂ oS₂₂ oB₂₂ k₂₂ e₂₂ le₂₂ S₂₂ hS₂₂ hB₂₂ q5 q6 D₂₂ => ?_
        refine wpAny_items_nil ⟨S₂₂.inK B, ?_⟩
        refine make_Alt B S₂₂.b0 ((R' _).mo) _ _ _ S₂₂.kn fun v H₂₃ h₂₃ tk₂₃ G₂₃ ⟨al2, ev, Ia2⟩ => wpAny_items_nil ?_
        subst ev
        have S₂₃ := S₂₂.grow G₂₃
        refine newLX (s := uP s h₂₃ _) S₂₃ (by simp) fun la2 h₂₄ S₂₄ laX2 => ?_
        have S₂₅ := S₂₄.freeze laX2
        have l2425 := addH_le (o := lsO [.ref al2] 0) (S₂₄.mu _ (.head _)).2.1
        have hla2 : ListH (addH H₂₃ la2 (lsO [.ref al2] 0)) la2 [.ref al2] := ⟨0, addH_self⟩
        refine St.store (s := uP s h₂₄ _) S₂₅ (by walk_at "VK") fun h₂₆ tk₂₆ S₂₆ => ?_
        refine wpAny_execs_nil ⟨rfl, _, _, _, h₂₆, _, rfl, ((le20.trans le₂₂).trans G₂₃.le).trans l2425, S₂₆, rfl, rfl, rfl, rfl, rfl, rfl, la2, _, oS₂₂, oB₂₂, k₂₂, rfl, rfl, hS₂₂, hB₂₂, by lia, by lia,
          .one hla2 ((Ia2.sub (by simp)).le l2425) (((hlf2.le le₂₂).le G₂₃.le).le l2425) .nil (by simp) ((D₂₂.le G₂₃.le).le l2425) (by first | decide | lia) (Nat.le_refl _) fun y hy m => by simp at m⟩
    · intro H₃₀ V₃₀ ms₃₀ h₃₀ tk₃₀ le₃₀ S₃₀ rI7
      refine absG fun gG hgG => ?_
      obtain ⟨w1, w2, w3, w4, w5, w6, la3, alts, oS3, oB3, k3, w7, rfl, hS3, hB3, w8, w9, A3⟩ := rI7
      refine hgG ?_; clear hgG
      have l30 := l15.trans le₃₀
      have D₃₀ := D₁₅.le le₃₀
      refine xs (mid (s := uP s h₃₀ tk₃₀) S₃₀ (fun H4 V4 ms4 => V4 "value" = some (.ref ae) ∧ V4 "name" = some (.str (nm "c" (k₁ + 1)) tc) ∧ V4 "alts" = some (.ref la3) ∧
        Ex5 fun vo o oS4 oB4 k4 => An9 (V4 "other" = some vo) (ms4 = [(SL, oS4), (BX, oB4)]) (SrcOk oS4) (BoxO prog w oB4 k4) (k3 ≤ k4) (k4 ≤ k3 + cnt d) (handedIn vo = true) (OthAt H4 (d + 2) vo o) (∀ e ∈ o, Few (d + 2) e ∧ Sc (d + 2) (Γ ++ [nm "c" (k₁ + 1)]) e ∧ UB (d + 2) e ∧ ∀ y, Off k k4 y → NB (d + 2) y e)) ?_ ?_)
      · refine wpAny_Assign_Name (wpAny_IfExp (wpAny_isTrue_Compare1 (ev_take (s := uP s h₃₀ tk₃₀) (top := 3) B S₃₀ ((R' _).mo) hS3 (by first | decide | lia) (by first | decide | lia) w1 (by walk_at "VK") rfl fun r3 tr3 oS₃₁ H₃₁ h₃₁ tk₃₁ le₃₁ S₃₁ hS₃₁ hr3 => wpAny_Constant_int (gt_int (wpAny_truthy_bool ?_))) rfl))
        have l31 := l30.trans le₃₁
        cases hb3 : decide (0 < ((r3 : Nat) : Int)) with
        | false =>
          refine wpAny_Constant_none (St.store (s := uP s h₃₁ _) S₃₁ (by walk_at "VK") fun h₃₂ tk₃₂ S₃₂ => ?_)
          exact ⟨rfl, H₃₁, _, _, h₃₂, tk₃₂, rfl, le₃₁, S₃₂, w5, w6, w7, .none, none, oS₃₁, oB3, k3, rfl, rfl, hS₃₁, hB3, Nat.le_refl _, by lia, rfl, rfl, fun e he => by cases he⟩
        | true =>
          refine ev_draw (s := uP s h₃₁ _) (Γ := Γ ++ [nm "c" (k₁ + 1)]) B IH S₃₁ ((R' _).mo) rfl (by walk_at "VK") (by walk_at "VK") (by walk_at "VK") w1 w2 w4 (names_plus1 S₃₁.toRs w3 (by walk_at "VK") (hn.le l31) w6 (by walk_at "VK") (by first | decide | lia)) hS₃₁ hB3 (by first | decide | lia) (by simp) (by rw [List.length_append]; simp; lia) (off_append ho (by first | decide | lia) fun y hy => by rw [List.mem_singleton.mp hy]; exact hcO _ (by first | decide | lia) (by first | decide | lia)) fun vo H₃₂ h₃₂ tk₃₂ oS₃₂ oB₃₂ k₃₂ e₃₂ le₃₂ S₃₂ hS₃₂ hB₃₂ q5 q6 D₃₂ => ?_
          refine St.store (s := uP s h₃₂ tk₃₂) S₃₂ (by walk_at "VK") fun h₃₃ tk₃₃ S₃₃ => ?_
          refine absG fun gG hgG => ?_
          obtain ⟨ao, lo, hvo, _⟩ := D₃₂.tree.inst
          refine hgG ?_; clear hgG
          exact ⟨rfl, H₃₂, _, _, h₃₃, tk₃₃, rfl, le₃₁.trans le₃₂, S₃₃, w5, w6, w7, vo, some e₃₂, oS₃₂, oB₃₂, k₃₂, rfl, rfl, hS₃₂, hB₃₂, q5, q6, by rw [hvo]; rfl, D₃₂.tree, fun e he => by cases he; exact ⟨D₃₂.few, D₃₂.sc, D₃₂.ub, fun y hy => D₃₂.nb y (hy.mono (by lia) (Nat.le_refl _))⟩⟩
      · intro H₄₀ V₄₀ ms₄₀ h₄₀ tk₄₀ le₄₀ S₄₀ rI7
        refine absG fun gG hgG => ?_
        obtain ⟨z1, z2, z3, vo, o, oS4, oB4, k4, z4, rfl, hS4, hB4, z5, z6, z7, z8, z9⟩ := rI7
        refine hgG ?_; clear hgG
        have D₄₀ := D₃₀.le le₄₀
        have A4 := A3.le le₄₀ z5
        refine xs (wpAny_Return_some ?_)
        refine ev_callK (s := uP s h₄₀ tk₄₀) B S₄₀.toRs rfl rfl rfl (wpAny_items_cons (ev_var (s := uP s h₄₀ tk₄₀) S₄₀.toRs z1 (wpAny_items_cons (ev_var (s := uP s h₄₀ tk₄₀) S₄₀.toRs z2 (wpAny_items_cons (ev_var (s := uP s h₄₀ tk₄₀) S₄₀.toRs z3 (wpAny_items_cons (ev_var (s := uP s h₄₀ tk₄₀) S₄₀.toRs z4 (wpAny_items_nil ⟨S₄₀.inK B, ?_⟩) (by walk_at "VK"))) (by walk_at "VK"))) (by walk_at "VK"))) (by walk_at "VK")))
        refine make_Case B S₄₀.b0 ((R' _).mo) _ _ _ S₄₀.kn fun v H₄₁ h₄₁ tk₄₁ G₄₁ ⟨ac, ev, Ic⟩ => ?_
        subst ev
        have A5 := A4.le G₄₁.le (Nat.le_refl _)
        obtain ⟨avs, a1, a2⟩ := A5.at_
        refine fin (e := .case e₁ (nm "c" (k₁ + 1)) alts o) (S₄₀.grow G₄₁) hS4 hB4 (by first | decide | lia) (by first | decide | lia) ⟨?_, ?_, ?_, ?_, ?_⟩
        · refine ⟨ac, la3, avs, _, vo, tc, rfl, Ic, (D₄₀.le G₄₁.le).tree, a1, a2, ?_⟩
          have := OthAt.le G₄₁.le z8
          cases o <;> exact this
        · exact ⟨D₁.few, A5.len, fun p hp => (A5.few p hp).1, fun e he => (z9 e he).1, fun p hp => (A5.few p hp).2⟩
        · exact ⟨D₁.sc, A5.sc, fun e he => (z9 e he).2.1⟩
        · exact ⟨D₁.ub, A5.ub, fun e he => (z9 e he).2.2.1⟩
        · intro y hy
          exact ⟨D₁.nb y (hy.mono (Nat.le_refl _) (by first | decide | lia)), hy "c" bc (k₁ + 1) (by first | decide | lia) (by first | decide | lia), A5.nb y hy, fun e he => (z9 e he).2.2.2 y hy⟩
end
end Mine
end
section
open PySem PySem.W PyProof.Rows PySem.Calls
set_option maxRecDepth 10000
set_option linter.unusedVariables false
namespace Mine
theorem Drawn.rng {H : KH} {n : Nat} {Γ : List Str} {a b a' b' : Nat} {v : Value} {e : Ex} (x : Drawn H n Γ a b v e) (ha : a' ≤ a) (hb : b ≤ b') : Drawn H n Γ a' b' v e := ⟨x.tree, x.few, x.sc, x.ub, fun y hy => x.nb y (hy.mono ha hb)⟩
noncomputable def freshL (base : Str) (k i : Nat) : List Str := (List.range i).map fun j => nm base (k + j + 1)
theorem freshL_succ (base : Str) (k i : Nat) : freshL base k (i + 1) = freshL base k i ++ [nm base (k + i + 1)] := by
  unfold freshL; rw [List.range_succ, List.map_append]; rfl
theorem freshL_len (base : Str) (k i : Nat) : (freshL base k i).length = i := by unfold freshL; simp
theorem freshL_mem {base : Str} {k i : Nat} {y : Str} (h : y ∈ freshL base k i) : ∃ j, j < i ∧ y = nm base (k + j + 1) := by
  unfold freshL at h
  obtain ⟨j, hj, e⟩ := List.mem_map.mp h
  exact ⟨j, List.mem_range.mp hj, e.symm⟩
theorem freshL_nodup {base : Str} {k : Nat} (hb : base ∈ bases) : ∀ i, k + i ≤ 20 → (freshL base k i).Nodup
  | 0, _ => by unfold freshL; simp
  | i + 1, h => by
    rw [freshL_succ, List.nodup_append]
    refine ⟨freshL_nodup hb i (by first | decide | lia), by simp, fun y hy z hz q => ?_⟩
    subst q
    obtain ⟨j, hj, e⟩ := freshL_mem hy
    rw [List.mem_singleton.mp hz] at e
    exact nm_ne _ hb _ hb _ _ (by first | decide | lia) (by first | decide | lia) (by first | decide | lia) e
theorem freshL_off {base : Str} {k i K : Nat} (hb : base ∈ bases) (h1 : k + i ≤ K) (h2 : K ≤ 20) : ∀ y ∈ freshL base k i, Off K 20 y := fun y hy => by
  obtain ⟨j, hj, e⟩ := freshL_mem hy
  rw [e]; exact nm_off hb (.inl (by first | decide | lia)) (by first | decide | lia) (by first | decide | lia)
theorem freshL_not {base : Str} {k i b : Nat} {y : Str} (hb : base ∈ bases) (h : Off k b y) (h1 : k + i ≤ b) : y ∉ freshL base k i := fun hy => by
  obtain ⟨j, hj, e⟩ := freshL_mem hy
  exact h base hb _ (by first | decide | lia) (by first | decide | lia) e
section
variable {prog : Program} {w : World} {A : Around} {E : Value → Shared → Prop} {s : Shared} {c : Cx} {H H0 : KH} {env : Env} {V : Str → Option Value} {ms : List (Addr × Obj)}
theorem ev_newR {BX : Addr} {oB : Obj} {k : Nat} {base : Str} {p p1 p2 pos : Pos} {kd : Nat} {Q : Value → Shared → Prop} (B : Base (KW w) H0) (R : Rs H0 H env V s.heap) (own : s.heap.get? BX = some oB ∧ H BX = none) (R0 : Room A 3) (hB : BoxO prog w oB k) (hk : k ≤ 20) (hb : base.length ≤ 10) (vb : V "box" = some (.ref BX)) (kb : env.kindOf "box" = some .local ∨ env.kindOf "box" = some .cell) (kf : env.kindOf "_law_new" = some .globalImplicit)
    (h : ∀ t oB' H' h' tk', Move H s.heap [(BX, oB)] H' h' [(BX, oB')] → BoxO prog w oB' (k + 1) → Q (.str (nm base (k + 1)) t) (uP s h' tk')) :
    wpAny (model prog w) A (eval (.Call (.Name "_law_new" p) [.Name "box" p1, .Constant (.str base) kd p2] [] pos) env) Q E s := by
  refine ev_callK B R rfl kf rfl (wpAny_items_cons (ev_var R vb (wpAny_items_cons (wpAny_Constant_str (wpAny_items_nil ⟨R.inK B, ?_⟩))) kb))
  refine new_spec B R.b0 R0 hB hk hb _ _ _ R.kn (fun p hp => ?_) (by simp) fun v H' h' tk' os' M ⟨⟨oB', e1, hB'⟩, t, e2⟩ => ?_
  · rw [List.mem_singleton.mp hp]; exact own
  · subst e1; subst e2
    exact h t oB' H' h' tk' M hB'
theorem fresh_turn {SL BX : Addr} {k n : Nat} {base : Str} {scope : Scope} {s₂ : Shared} {p p1 p2 pos : Pos} {kd : Nat} {H₁ : KH} (B : Base (KW w) c.H0) (R0 : Room A 3) (hk : k + n ≤ 20) (hb : base.length ≤ 10) (vb : V "box" = some (.ref BX)) (kb : (relabel scope env).names.lookup ("box" : Str) = some NameKind.cell) (kf : (relabel scope env).names.lookup ("_law_new" : Str) = some NameKind.globalImplicit) :
    LcTurn prog w A c H₁ env V scope [] (.Call (.Name "_law_new" p) [.Name "box" p1, .Constant (.str base) kd p2] [] pos) n (fun i _ binds => ∃ t, binds = [(("turn" : Str), Value.int (i : Nat) t)])
      (fun i H' ys ms' => ∃ oS' oB', ms' = [(SL, oS'), (BX, oB')] ∧ SrcOk oS' ∧ BoxO prog w oB' (k + i) ∧ StrsAre ys (freshL base k i)) s₂ := by
  rintro i bs T cenv H' ys ms' h' tk' E' hi ⟨t, rfl⟩ le ⟨oS, oB', rfl, hS, hB, hy⟩ S' hsc view
  refine tests_nil ⟨H', _, h', tk', rfl, .refl _, S', ?_⟩
  unfold LcK
  rw [if_pos rfl]
  have hbx : (BX, oB') ∈ [(SL, oS), (BX, oB')] ++ T := .tail _ (.head _)
  have vbx : compVB scope env V [(("turn" : Str), Value.int (i : Nat) t)] "box" = some (.ref BX) := by
    unfold compVB
    have e : bindV [(("turn" : Str), Value.int (i : Nat) t)] (fun _ => none) "box" = none := rfl
    rw [e]
    show (if compKind scope env "box" = some .cell then V "box" else none) = _
    rw [if_pos (show compKind scope env "box" = some .cell from kb)]; exact vb
  refine ev_newR (s := uP s₂ h' tk') B (view _ _ _ S') ⟨(S'.mu _ hbx).1, (S'.mu _ hbx).2.1⟩ R0 hB (by first | decide | lia) hb vbx (.inr (lk hsc kb)) (lk hsc kf) fun t' oB2 H2 h2 tk2 M hB2 => ?_
  have S1 : St c H' env V ([(BX, oB')] ++ ((SL, oS) :: T)) h' := S'.perm (List.Perm.swap _ _ _)
  have S2 : St c H2 env V ((SL, oS) :: (BX, oB2) :: T) h2 := (S1.moveL M).perm (List.Perm.swap _ _ _)
  refine ⟨H2, [(SL, oS), (BX, oB2)], h2, tk2, rfl, M.le, S2, oS, oB2, rfl, hS, hB2, ?_⟩
  rw [freshL_succ]
  exact strs_append hy (.cons _ t' .nil)
end
end Mine
end
section
open PySem PySem.W PyProof.Rows PySem.Calls
set_option maxRecDepth 10000
set_option linter.unusedVariables false
namespace Mine
section
variable {prog : Program} {w : World} {H0 : KH}
noncomputable def BindsD (H : KH) (n : Nat) (Γ : List Str) (a b : Nat) (ys : List Value) (bl : List (Str × Ex)) : Prop := All2 (fun v (p : Str × Ex) => Ex3 fun t tk ve => v = Value.ref t ∧ TupH H t [.str p.1 tk, ve] ∧ Drawn H n Γ a b ve p.2) ys bl
theorem BindsD.le {H H' : KH} {n : Nat} {Γ : List Str} {a b b' : Nat} {ys : List Value} {bl : List (Str × Ex)} (x : BindsD H n Γ a b ys bl) (l : H.le H') (hb : b ≤ b') : BindsD H' n Γ a b' ys bl :=
  All2.imp x fun v p ⟨t, tk, ve, e, T, D⟩ => ⟨t, tk, ve, e, T.le l, (D.le l).rng (Nat.le_refl _) hb⟩
theorem BindsD.mem {H : KH} {n : Nat} {Γ : List Str} {a b : Nat} {ys : List Value} {bl : List (Str × Ex)} (x : BindsD H n Γ a b ys bl) : ∀ p ∈ bl, ∃ ve, Drawn H n Γ a b ve p.2 := by
  unfold BindsD at x
  induction x with
  | nil => intro p hp; simp at hp
  | cons h _ ih =>
    intro p hp
    rcases List.mem_cons.mp hp with rfl | hp
    · obtain ⟨t, tk, ve, _, _, D⟩ := h; exact ⟨ve, D⟩
    · exact ih p hp
set_option maxHeartbeats 4000000 in
theorem let_draw {d : Nat} (B : Base (KW w) H0) (IH : ExprAt prog w H0 d) : PartAt prog w H0 542 11 (d + 1) := by
  intro A H SL BX nl oS oB Γ k t l0 R hS hB hk hn h1 h2 ho s E Q kn hms nd hQ
  have hcnt : cnt (d + 1) = 2 + 4 * cnt d := rfl
  rw [hcnt] at hk
  refine call_fn (ms := [(SL, oS), (BX, oB)]) (binds := [("source", .ref SL), ("box", .ref BX), ("names", .ref nl), ("deep", .int ((d + 1 : Nat) : Int) t)]) B l0 kn hms nd R.depth rfl rfl rfl rfl rfl rfl rfl ?_
  intro Lc h₁ tk S
  have R' : ∀ env, Room (A.deeper env) (10 * d + 20) := fun _ => (R.mo).deeper
  have bl' : ("l" : Str) ∈ bases := by simp [bases]
  have fin : ∀ {H' : KH} {h' : Heap} {tk' : Nat} {V' : Str → Option Value} {env : Env} {oS' oB' : Obj} {k' : Nat} {v : Value} {e : Ex}, St ⟨H0, H, s.heap, [SL, BX]⟩ H' env V' [(SL, oS'), (BX, oB')] h' → SrcOk oS' → BoxO prog w oB' k' → k ≤ k' → k' ≤ k + (2 + 4 * cnt d) → Drawn H' (d + 1 + 2) Γ k k' v e → Q v (uP s h' tk') := by
    intro H' h' tk' V' env oS' oB' k' v e S' hS' hB' q1 q2 q3
    exact hQ v H' h' tk' [(SL, oS'), (BX, oB')] (Post.move (os := [(SL, oS), (BX, oB)]) S'.post rfl fun p hp => (S'.mu p hp).1) ⟨oS', oB', k', e, rfl, hS', hB', q1, by rw [hcnt]; exact q2, q3⟩
  refine xs ?_
  refine lc_assign R.hd S (.of rfl) rfl (by walk_at "VK") (fun i H' ys ms' => ∃ oS' oB', ms' = [(SL, oS'), (BX, oB')] ∧ SrcOk oS' ∧ BoxO prog w oB' (k + i) ∧ StrsAre ys (freshL "l" k i)) (fun _ _ _ _ _ _ h => h) ?_
  refine ev_callT (s := uP s h₁ _) B S.toRs rfl rfl rfl (wpAny_items_cons (wpAny_BinOp (wpAny_Constant_int ?_)))
  refine ev_take (s := uP s h₁ _) (top := 2) B S ((R' _).mo) hS (by first | decide | lia) (by first | decide | lia) rfl (by walk_at "VK") rfl fun rr tr oS₁ H₁ h₂ tk₂ le₁ S₁ hS₁ hrr => ?_
  refine wpAny_add_int (wpAny_items_nil ?_)
  have ecast : (1 : Int) + ((rr : Nat) : Int) = ((rr + 1 : Nat) : Int) := by lia
  rw [ecast]
  refine call_rng (s := uP s h₂ _) fun rv h₃ tk₃ up₃ hr => ?_
  have S₂ := S₁.up up₃
  refine it_rng (s := uP s h₃ tk₃) R.hd (by first | decide | lia) S₂ hr fun it h₄ hFr => ?_
  obtain ⟨J, os, Wr, j0, S₃, hX⟩ := hFr "turn" _
  refine ⟨_, J, _, H₁, _, _, os, Wr, le_line (by first | decide | lia), j0, S₃, hX, ⟨oS₁, oB, rfl, hS₁, hB, .nil⟩, fresh_turn B ((R' _).mo) (by first | decide | lia) (by decide +kernel) rfl rfl rfl, ?_⟩
  intro Df ep ysf H₄ ms₄ h₅ tk₅ le₄ rI8 S₅ DfX
  refine absG fun gG hgG => ?_
  obtain ⟨oS₂, oB₂, rfl, hS₂, hB₂, hyf⟩ := rI8
  refine hgG ?_; clear hgG
  have S₆ := S₅.freeze DfX
  have l56 := addH_le (o := lsO ysf ep) (S₅.mu _ (.head _)).2.1
  have hfr : NamesH (addH H₄ Df (lsO ysf ep)) (.ref Df) (freshL "l" k (rr + 1)) := ⟨Df, ysf, rfl, ⟨ep, addH_self⟩, hyf⟩
  have hfl : ListH (addH H₄ Df (lsO ysf ep)) Df ysf := ⟨ep, addH_self⟩
  have l6 := (le₁.trans le₄).trans l56
  generalize addH H₄ Df (lsO ysf ep) = H₆ at *
  have hfrl := freshL_len "l" k (rr + 1)
  refine xs (wpAny_Assign_Name (wpAny_Compare1 (ev_take (s := uP s h₅ tk₅) (top := 2) B S₆ ((R' _).mo) hS₂ (by first | decide | lia) (by first | decide | lia) rfl (by walk_at "VK") rfl fun r2 tr2 oS₇ H₇ h₇ tk₇ le₇ S₇ hS₇ hr2 => wpAny_Constant_int (eq_int ?_)) rfl))
  refine St.store (s := uP s h₇ _) S₇ (by walk_at "VK") fun h₈ tk₈ S₈ => ?_
  generalize (((r2 : Nat) : Int) == 0) = isr at *
  have l7 := l6.trans le₇
  refine xs (mid (s := uP s h₈ tk₈) S₈ (fun H3 V3 ms3 => An8 (V3 "source" = some (.ref SL)) (V3 "box" = some (.ref BX)) (V3 "names" = some (.ref nl)) (V3 "deep" = some (.int ((d + 1 : Nat) : Int) t)) (V3 "fresh" = some (.ref Df)) (V3 "is_rec" = some (.bool isr)) (ms3 = [(SL, oS₇), (BX, oB₂)])
    (∃ al, V3 "around" = some (.ref al) ∧ NamesH H3 (.ref al) (if isr then Γ ++ freshL "l" k (rr + 1) else Γ))) ?_ ?_)
  · refine wpAny_Assign_Name (wpAny_IfExp (wpAny_isTrue_value (ev_var (s := uP s h₈ tk₈) S₈.toRs rfl (wpAny_truthy_bool ?_) (by walk_at "VK")) rfl))
    cases isr with
    | true =>
      refine names_plusV (hd := by decide) (hd' := by decide) (s := uP s h₈ tk₈) S₈.toRs rfl (by walk_at "VK") (hn.le l7) rfl (by walk_at "VK") (hfr.le le₇) (by first | decide | lia) _ _ fun al H₉ h₉ tk₉ G₉ hal => ?_
      refine St.store (s := uP s h₉ tk₉) (S₈.grow G₉) (by walk_at "VK") fun h₁₀ tk₁₀ S₁₀ => ?_
      exact ⟨rfl, H₉, _, _, h₁₀, tk₁₀, rfl, G₉.le, S₁₀, rfl, rfl, rfl, rfl, rfl, rfl, rfl, al, rfl, hal⟩
    | false =>
      refine ev_var (s := uP s h₈ tk₈) S₈.toRs rfl (St.store (s := uP s h₈ tk₈) S₈ (by walk_at "VK") fun h₁₀ tk₁₀ S₁₀ => ?_) (by walk_at "VK")
      exact ⟨rfl, H₇, _, _, h₁₀, tk₁₀, rfl, .refl _, S₁₀, rfl, rfl, rfl, rfl, rfl, rfl, rfl, nl, rfl, hn.le l7⟩
  intro H₉ V₉ ms₉ h₉ tk₉ le₉ S₉ rI7
  refine absG fun gG hgG => ?_
  obtain ⟨w1, w2, w3, w4, w5, w6, rfl, al, w7, hal⟩ := rI7
  refine hgG ?_; clear hgG
  have l9 := l7.trans le₉
  have hfl9 := (hfl.le le₇).le le₉
  have hfr9 := (hfr.le le₇).le le₉
  generalize hΓa : (if isr then Γ ++ freshL "l" k (rr + 1) else Γ) = Γa at *
  have hΓl : Γa.length ≤ Γ.length + 2 := by
    rw [← hΓa]; split
    · rw [List.length_append, hfrl]; lia
    · lia
  have hΓ1 : 1 ≤ Γa.length := by
    rw [← hΓa]; split
    · rw [List.length_append]; lia
    · lia
  have hfo : ∀ y ∈ freshL "l" k (rr + 1), Off (k + (rr + 1)) 20 y := freshL_off bl' (Nat.le_refl _) (by first | decide | lia)
  have hΓo : ∀ y ∈ Γa, Off (k + (rr + 1)) 20 y := by
    rw [← hΓa]; split
    · exact off_append ho (by first | decide | lia) hfo
    · exact fun y hy => (ho y hy).mono (by lia) (Nat.le_refl _)
  have hcd : cnt d * 2 = cnt d + cnt d := by lia
  refine xs ?_
  refine lc_assign R.hd S₉ (.of rfl) rfl (by walk_at "VK") (fun i H' ys ms' => ∃ (oS' oB' : Obj) (k' : Nat) (bl : List (Str × Ex)), An7 (ms' = [(SL, oS'), (BX, oB')]) (SrcOk oS') (BoxO prog w oB' k') (k + (rr + 1) ≤ k') (k' ≤ k + (rr + 1) + i * cnt d) (bl.map (fun q : Str × Ex => q.1) = (freshL "l" k (rr + 1)).take i) (BindsD H' (d + 2) Γa (k + (rr + 1)) k' ys bl)) (fun H' H'' i ys ms' l ⟨oS', oB', k', bl, a1, a2, a3, a4, a5, a6, a7⟩ => ⟨oS', oB', k', bl, a1, a2, a3, a4, a5, a6, a7.le l (Nat.le_refl _)⟩) ?_
  refine ev_var (s := uP s h₉ tk₉) S₉.toRs w5 ?_ (by walk_at "VK")
  refine it_list (s := uP s h₉ tk₉) R.hd S₉ hfl9 fun it h₁₀ hFr2 => ?_
  obtain ⟨J2, os2, Wb, j2, S₁₀, hX2⟩ := hFr2 "name" _
  have hysl : ysf.length = rr + 1 := by rw [strsLen hyf, hfrl]
  rw [hysl] at Wb
  refine ⟨_, J2, _, H₉, _, _, os2, Wb, le_line (by first | decide | lia), j2, S₁₀, hX2, ⟨oS₇, oB₂, _, [], rfl, hS₇, hB₂, Nat.le_refl _, by lia, rfl, .nil⟩, ?_, ?_⟩
  · intro i bs T cenv H' ys ms' h' tk' E' hi rI11 le rI13 S' hsc view
    refine absG fun gG hgG => ?_
    obtain ⟨v, rfl, hv⟩ := rI11
    obtain ⟨oS', oB', k', bl, rfl, a2, a3, a4, a5, a6, a7⟩ := rI13
    refine hgG ?_; clear hgG
    refine absG fun gG hgG => ?_
    obtain ⟨name, tn, hname, rfl⟩ := strsAt hyf hv
    refine hgG ?_; clear hgG
    refine tests_nil ⟨H', _, h', tk', rfl, .refl _, S', ?_⟩
    unfold LcK
    rw [if_pos rfl]
    have Rv := view _ _ _ S'
    have hib : i * cnt d ≤ 1 * cnt d := Nat.mul_le_mul_right _ (by first | decide | lia)
    refine Tuple_ (wpAny_items_cons (ev_var (s := uP s h' tk') Rv rfl (wpAny_items_cons ?_) (.inl (lk hsc rfl))))
    refine ev_expr (s := uP s h' tk') (k := k') (oS := oS') (oB := oB') B IH ((R' _).mo) Rv (lk hsc rfl) (.inr (lk hsc rfl)) (.inr (lk hsc rfl)) (.inr (lk hsc rfl)) w1 w2 w4 (names_var Rv w7 (.inr (lk hsc rfl)) (hal.le le)) (fun p hp => ?_) ?_ a2 a3 (by first | decide | lia) hΓ1 (by first | decide | lia) (fun y hy => (hΓo y hy).mono (by lia) (Nat.le_refl _)) fun v H2 h2 tk2 oS2 oB2 k2 e2 M q1 q2 q3 q4 q5 => ?_
    · have : p ∈ [(SL, oS'), (BX, oB')] ++ T := List.mem_append_left _ hp
      exact ⟨(S'.mu _ this).1, (S'.mu _ this).2.1⟩
    · exact nd
    have S2 := S'.moveL M
    refine wpAny_items_nil ?_
    refine newTX (s := uP s h2 tk2) S2 (by simp) fun tp h3 S3 tX => ?_
    have S4 := S3.freeze tX
    have l34 := addH_le (o := tupObj [.str name tn, v]) (S3.mu _ (.head _)).2.1
    refine ⟨_, [(SL, oS2), (BX, oB2)], h3, tk2, rfl, M.le.trans l34, S4, oS2, oB2, k2, bl ++ [(name, e2)], rfl, q1, q2, by lia, by rw [Nat.add_mul, Nat.one_mul]; lia, ?_, ?_⟩
    · rw [List.map_append, a6, List.take_add_one, hname]; rfl
    · exact (a7.le (M.le.trans l34) q3).snoc ⟨tp, tn, v, rfl, ⟨0, addH_self⟩, (q5.le l34).rng a4 (Nat.le_refl _)⟩
  intro Db epb ysb H₁₁ ms₁₁ h₁₁ tk₁₁ le₁₁ rI8 S₁₁ DbX
  refine absG fun gG hgG => ?_
  obtain ⟨oS₁₁, oB₁₁, k₁₁, bl, rfl, b2, b3, b4, b5, b6, b7⟩ := rI8
  refine hgG ?_; clear hgG
  rw [List.take_of_length_le (by rw [hfrl]; exact Nat.le_refl _)] at b6
  have S₁₂ := S₁₁.freeze DbX
  have l1112 := addH_le (o := lsO ysb epb) (S₁₁.mu _ (.head _)).2.1
  have hbl : ListH (addH H₁₁ Db (lsO ysb epb)) Db ysb := ⟨epb, addH_self⟩
  have l12 := (l9.trans le₁₁).trans l1112
  have hfr12 := (hfr9.le le₁₁).le l1112
  have b7' := b7.le l1112 (Nat.le_refl _)
  generalize addH H₁₁ Db (lsO ysb epb) = H₁₂ at *
  have hbm : (rr + 1) * cnt d ≤ 2 * cnt d := Nat.mul_le_mul_right _ (by first | decide | lia)
  refine xs (wpAny_Return_some ?_)
  refine ev_callK (s := uP s h₁₁ tk₁₁) B S₁₂.toRs rfl rfl rfl (wpAny_items_cons (ev_var (s := uP s h₁₁ tk₁₁) S₁₂.toRs rfl (wpAny_items_cons ?_) (by walk_at "VK")))
  refine ev_draw (s := uP s h₁₁ tk₁₁) (Γ := Γ ++ freshL "l" k (rr + 1)) B IH S₁₂ ((R' _).mo) rfl (by walk_at "VK") (by walk_at "VK") (by walk_at "VK") w1 w2 w4 (names_plusV S₁₂.toRs w3 (by walk_at "VK") (hn.le l12) w5 (by walk_at "VK") hfr12 (by first | decide | lia)) b2 b3 (by first | decide | lia) (by rw [List.length_append]; lia) (by rw [List.length_append, hfrl]; lia) (off_append ho (by first | decide | lia) fun y hy => (hfo y hy).mono (by lia) (Nat.le_refl _)) fun vb H₁₃ h₁₃ tk₁₃ oS₁₃ oB₁₃ k₁₃ e₁₃ le₁₃ S₁₃ hS₁₃ hB₁₃ q3 q4 D₁₃ => ?_
  refine wpAny_items_cons (ev_var (s := uP s h₁₃ tk₁₃) S₁₃.toRs w6 (wpAny_items_nil ⟨S₁₃.inK B, ?_⟩) (by walk_at "VK"))
  refine make_Let B S₁₃.b0 ((R' _).mo) _ _ _ S₁₃.kn fun v H₁₄ h₁₄ tk₁₄ G₁₄ ⟨ac, ev, Ic⟩ => ?_
  subst ev
  have b8 := b7'.le (le₁₃.trans G₁₄.le) (Nat.le_refl _)
  have hbn : bl.length = rr + 1 := by rw [← List.length_map (f := fun q : Str × Ex => q.1), b6, hfrl]
  have hname : ∀ p ∈ bl, p.1 ∈ freshL "l" k (rr + 1) := fun p hp => by rw [← b6]; exact List.mem_map_of_mem (f := fun q : Str × Ex => q.1) hp
  have hnoff : ∀ p ∈ bl, Off (k + (rr + 1)) 20 p.1 := fun p hp => hfo _ (hname p hp)
  refine fin (e := .let_ bl e₁₃ isr) (S₁₃.grow G₁₄) hS₁₃ hB₁₃ (by first | decide | lia) (by first | decide | lia) ⟨?_, ?_, ?_, ?_, ?_⟩
  · exact ⟨ac, Db, ysb, vb, rfl, Ic, (hbl.le le₁₃).le G₁₄.le, All2.imp b8 fun v p ⟨t, tk, ve, e, T, D⟩ => ⟨t, tk, ve, e, T, D.tree⟩, (D₁₃.le G₁₄.le).tree⟩
  · refine ⟨by lia, ?_, fun p hp => ?_, D₁₃.few⟩
    · show (bl.map fun q : Str × Ex => q.1).Nodup
      rw [b6]; exact freshL_nodup bl' _ (by first | decide | lia)
    · obtain ⟨ve, D⟩ := b8.mem p hp; exact D.few
  · refine ⟨fun p hp hm => ?_, fun p hp => ?_, ?_⟩
    · obtain ⟨j, hj, e⟩ := freshL_mem (hname p hp)
      exact (ho p.1 hm) "l" bl' (k + j + 1) (by first | decide | lia) (by first | decide | lia) e
    · obtain ⟨ve, D⟩ := b8.mem p hp
      rw [b6, hΓa]; exact D.sc
    · rw [b6]; exact D₁₃.sc
  · refine ⟨fun p hp q hq => ?_, fun p hp => ?_, fun p hp => ?_, D₁₃.ub⟩
    · obtain ⟨ve, D⟩ := b8.mem q hq
      exact D.nb _ ((hnoff p hp).mono (Nat.le_refl _) (by first | decide | lia))
    · exact D₁₃.nb _ ((hnoff p hp).mono (by lia) (by first | decide | lia))
    · obtain ⟨ve, D⟩ := b8.mem p hp; exact D.ub
  · intro y hy
    refine ⟨fun p hp => ⟨fun q => ?_, ?_⟩, D₁₃.nb y (hy.mono (by lia) (Nat.le_refl _))⟩
    · have := hname p hp
      rw [← q] at this
      exact freshL_not bl' hy (by first | decide | lia) this
    · obtain ⟨ve, D⟩ := b8.mem p hp
      exact D.nb y (hy.mono (by lia) (by first | decide | lia))
end
end Mine
end
section
open PySem PySem.W PyProof.Rows PySem.Calls
set_option maxRecDepth 10000
set_option linter.unusedVariables false
namespace Mine
section
variable {prog : Program} {w : World} {A : Around} {E : Value → Shared → Prop} {s : Shared} {c : Cx} {H H0 : KH} {env : Env} {V : Str → Option Value} {r : List (Addr × Obj)}
theorem ev_one {SL nl : Addr} {oS : Obj} {Γ : List Str} {p p1 p2 pos : Pos} {Q : Value → Shared → Prop} (B : Base (KW w) c.H0) (S : St c H env V ((SL, oS) :: r) s.heap) (R0 : Room A 5) (hS : SrcOk oS) (hn : NamesH H (.ref nl) Γ) (h1 : 1 ≤ Γ.length) (h2 : Γ.length ≤ 1000) (vs : V "source" = some (.ref SL)) (ks : env.kindOf "source" = some .local ∨ env.kindOf "source" = some .cell) (vn : V "names" = some (.ref nl)) (kn' : env.kindOf "names" = some .local ∨ env.kindOf "names" = some .cell) (kf : env.kindOf "_law_one" = some .globalImplicit)
    (h : ∀ x t oS' H' h' tk', H.le H' → St c H' env V ((SL, oS') :: r) h' → SrcOk oS' → x ∈ Γ → Q (.str x t) (uP s h' tk')) :
    wpAny (model prog w) A (eval (.Call (.Name "_law_one" p) [.Name "source" p1, .Name "names" p2] [] pos) env) Q E s := by
  refine ev_callK B S.toRs rfl kf rfl (wpAny_items_cons (ev_var S.toRs vs (wpAny_items_cons (ev_var S.toRs vn (wpAny_items_nil ⟨S.inK B, ?_⟩) kn')) ks))
  refine one_spec B S.b0 R0 hS hn h1 h2 _ _ _ S.kn (fun p hp => ?_) (by simp) fun v H' h' tk' os' M ⟨⟨oS', e1, hS'⟩, x, t, e2, hx⟩ => ?_
  · rw [List.mem_singleton.mp hp]; exact ⟨(S.mu _ (.head _)).1, (S.mu _ (.head _)).2.1⟩
  · subst e1; subst e2
    exact h x t oS' H' h' tk' M.le (St.moveL (os := [(SL, oS)]) S M) hS' hx
noncomputable def DrawsD (H : KH) (n : Nat) (Γ : List Str) (a b : Nat) (ys : List Value) (es : List Ex) : Prop := All2 (fun v e => Drawn H n Γ a b v e) ys es
theorem DrawsD.le {H H' : KH} {n : Nat} {Γ : List Str} {a b b' : Nat} {ys : List Value} {es : List Ex} (x : DrawsD H n Γ a b ys es) (l : H.le H') (hb : b ≤ b') : DrawsD H' n Γ a b' ys es := All2.imp x fun v p D => (D.le l).rng (Nat.le_refl _) hb
theorem DrawsD.mem {H : KH} {n : Nat} {Γ : List Str} {a b : Nat} {ys : List Value} {es : List Ex} (x : DrawsD H n Γ a b ys es) : ∀ e ∈ es, ∃ v, Drawn H n Γ a b v e := by
  unfold DrawsD at x
  induction x with
  | nil => intro p hp; simp at hp
  | cons h _ ih =>
    intro p hp
    rcases List.mem_cons.mp hp with rfl | hp
    · exact ⟨_, h⟩
    · exact ih p hp
theorem draws_turn {d m : Nat} {SL BX nl : Addr} {Γ : List Str} {k : Nat} {td : Tok} {scope : Scope} {s₂ : Shared} {p p1 p2 p3 p4 p5 p6 pos : Pos} {kd : Nat} {H₁ : KH} (B : Base (KW w) c.H0) (IH : ExprAt prog w c.H0 d) (R0 : Room A (10 * d + 12))
    (vs : V "source" = some (.ref SL)) (vb : V "box" = some (.ref BX)) (vn : V "names" = some (.ref nl)) (vd : V "deep" = some (.int ((d + 1 : Nat) : Int) td))
    (ks : (relabel scope env).names.lookup ("source" : Str) = some NameKind.cell) (kb : (relabel scope env).names.lookup ("box" : Str) = some NameKind.cell) (kn' : (relabel scope env).names.lookup ("names" : Str) = some NameKind.cell) (kdp : (relabel scope env).names.lookup ("deep" : Str) = some NameKind.cell) (kf : (relabel scope env).names.lookup ("_law_expr" : Str) = some NameKind.globalImplicit)
    (hn : NamesH H₁ (.ref nl) Γ) (h1 : 1 ≤ Γ.length) (h2 : Γ.length + 4 * d ≤ 100) (ho : ∀ y ∈ Γ, Off k 20 y) (hm : m ≤ 2) (hk : k + 2 * cnt d ≤ 20) (ne : SL ≠ BX)
    (he3 : ∀ env, starEach [.Name "names" p6, .BinOp (.Name "deep" p3) .Sub (.Constant (.int 1) kd p4) p5] env = (false, eval (.Name "names" p6) env) :: starEach [.BinOp (.Name "deep" p3) .Sub (.Constant (.int 1) kd p4) p5] env := by intro _; rfl) :
    LcTurn prog w A c H₁ env V scope [] (.Call (.Name "_law_expr" p) [.Name "source" p1, .Name "box" p2, .Name "names" p6, .BinOp (.Name "deep" p3) .Sub (.Constant (.int 1) kd p4) p5] [] pos) m (fun i _ binds => ∃ t, binds = [(("turn" : Str), Value.int (i : Nat) t)])
      (fun i H' ys ms' => ∃ (oS' oB' : Obj) (k' : Nat) (es : List Ex), An7 (ms' = [(SL, oS'), (BX, oB')]) (SrcOk oS') (BoxO prog w oB' k') (k ≤ k') (k' ≤ k + i * cnt d) (es.length = i) (DrawsD H' (d + 2) Γ k k' ys es)) s₂ := by
  rintro i bs T cenv H' ys ms' h' tk' E' hi ⟨t, rfl⟩ le ⟨oS', oB', k', es, rfl, a2, a3, a4, a5, a6, a7⟩ S' hsc view
  refine tests_nil ⟨H', _, h', tk', rfl, .refl _, S', ?_⟩
  unfold LcK
  rw [if_pos rfl]
  have vv : ∀ (x : Str) (v : Value), (x == ("turn" : Str)) = false → (relabel scope env).names.lookup x = some NameKind.cell → V x = some v → compVB scope env V [(("turn" : Str), Value.int (i : Nat) t)] x = some v := fun x v hx hkx hV => by
    unfold compVB
    have e : bindV [(("turn" : Str), Value.int (i : Nat) t)] (fun _ => none) x = none := by
      show (if x = "turn" then _ else _) = _
      rw [if_neg (by simpa using hx)]
    rw [e]
    show (if compKind scope env x = some .cell then V x else none) = _
    rw [if_pos (show compKind scope env x = some .cell from hkx)]; exact hV
  have Rv := view _ _ _ S'
  have hib : i * cnt d ≤ 1 * cnt d := Nat.mul_le_mul_right _ (by first | decide | lia)
  refine ev_expr (s := uP s₂ h' tk') (k := k') (oS := oS') (oB := oB') B IH R0 Rv (lk hsc kf) (.inr (lk hsc ks)) (.inr (lk hsc kb)) (.inr (lk hsc kdp)) (vv _ _ (by decide) ks vs) (vv _ _ (by decide) kb vb) (vv _ _ (by decide) kdp vd) (names_var Rv (vv _ _ (by decide) kn' vn) (.inr (lk hsc kn')) (hn.le le)) (fun p hp => ?_) (by simp [ne]) a2 a3 (by first | decide | lia) h1 h2 (fun y hy => (ho y hy).mono a4 (Nat.le_refl _)) (fun v H2 h2 tk2 oS2 oB2 k2 e2 M q1 q2 q3 q4 q5 => ?_) (he3 := he3 _)
  · have : p ∈ [(SL, oS'), (BX, oB')] ++ T := List.mem_append_left _ hp
    exact ⟨(S'.mu _ this).1, (S'.mu _ this).2.1⟩
  · exact ⟨H2, [(SL, oS2), (BX, oB2)], h2, tk2, rfl, M.le, S'.moveL M, oS2, oB2, k2, es ++ [e2], rfl, q1, q2, by lia, by rw [Nat.add_mul, Nat.one_mul]; lia, by simp [a6], (a7.le M.le q3).snoc (q5.rng a4 (Nat.le_refl _))⟩
end
end Mine
end
section
open PySem PySem.W PyProof.Rows PySem.Calls
set_option maxRecDepth 10000
set_option linter.unusedVariables false
namespace Mine
section
variable {prog : Program} {w : World} {H0 : KH}
set_option maxHeartbeats 8000000 in
theorem expr_draw {d : Nat} (B : Base (KW w) H0) (hsub : ∀ d', d = d' + 1 → ExprAt prog w H0 d' ∧ PartAt prog w H0 537 11 (d' + 1) ∧ PartAt prog w H0 542 11 (d' + 1)) (hd : d ≤ 3) : ExprAt prog w H0 d := by
  intro A H SL BX nl oS oB Γ k t l0 R hS hB hk hn h1 h2 ho s E Q kn hms nd hQ
  refine call_fn (ms := [(SL, oS), (BX, oB)]) (binds := [("source", .ref SL), ("box", .ref BX), ("names", .ref nl), ("deep", .int (d : Int) t)]) B l0 kn hms nd R.depth rfl rfl rfl rfl rfl rfl rfl ?_
  intro Lc h₁ tk S
  have R' : ∀ env, Room (A.deeper env) (10 * d + 11) := fun _ => R.deeper
  have bp : ("p" : Str) ∈ bases := by simp [bases]
  have hne : SL ≠ BX := by simpa using nd
  have fin : ∀ {H' : KH} {h' : Heap} {tk' : Nat} {V' : Str → Option Value} {env : Env} {oS' oB' : Obj} {k' : Nat} {v : Value} {e : Ex}, St ⟨H0, H, s.heap, [SL, BX]⟩ H' env V' [(SL, oS'), (BX, oB')] h' → SrcOk oS' → BoxO prog w oB' k' → k ≤ k' → k' ≤ k + cnt d → Drawn H' (d + 2) Γ k k' v e → Q v (uP s h' tk') := by
    intro H' h' tk' V' env oS' oB' k' v e S' hS' hB' q1 q2 q3
    exact hQ v H' h' tk' [(SL, oS'), (BX, oB')] (Post.move (os := [(SL, oS), (BX, oB)]) S'.post rfl fun p hp => (S'.mu p hp).1) ⟨oS', oB', k', e, rfl, hS', hB', q1, q2, q3⟩
  refine xs (mid (s := uP s h₁ tk) S (fun H3 V3 ms3 => An5 (V3 "source" = some (.ref SL)) (V3 "box" = some (.ref BX)) (V3 "names" = some (.ref nl)) (V3 "deep" = some (.int (d : Int) t)) (Ex3 fun rr tr oS3 => An4 (V3 "way" = some (.int ((rr : Nat) : Int) tr)) (ms3 = [(SL, oS3), (BX, oB)]) (SrcOk oS3) ((rr < 3 ∨ ∃ d', d = d' + 1)))) ?_ ?_)
  · refine wpAny_Assign_Name (wpAny_IfExp (wpAny_isTrue_Compare1 (ev_var (s := uP s h₁ tk) S.toRs rfl (wpAny_Constant_int (gt_int (wpAny_truthy_bool ?_))) (by walk_at "VK")) rfl))
    cases d with
    | zero =>
      refine ev_take (s := uP s h₁ _) (top := 3) B S ((R' _).mo) hS (by first | decide | lia) (by first | decide | lia) rfl (by walk_at "VK") rfl fun rr tr oS₁ H₁ h₂ tk₂ le₁ S₁ hS₁ hrr => ?_
      exact St.store (s := uP s h₂ tk₂) S₁ (by walk_at "VK") fun h₃ tk₃ S₃ => ⟨rfl, H₁, _, _, h₃, tk₃, rfl, le₁, S₃, rfl, rfl, rfl, rfl, rr, tr, oS₁, rfl, rfl, hS₁, .inl hrr⟩
    | succ d' =>
      rw [decide_eq_true (show (0 : Int) < ((d' + 1 : Nat) : Int) by lia)]
      refine ev_take (s := uP s h₁ _) (top := 11) B S ((R' _).mo) hS (by first | decide | lia) (by first | decide | lia) rfl (by walk_at "VK") rfl fun rr tr oS₁ H₁ h₂ tk₂ le₁ S₁ hS₁ hrr => ?_
      exact St.store (s := uP s h₂ tk₂) S₁ (by walk_at "VK") fun h₃ tk₃ S₃ => ⟨rfl, H₁, _, _, h₃, tk₃, rfl, le₁, S₃, rfl, rfl, rfl, rfl, rr, tr, oS₁, rfl, rfl, hS₁, .inr ⟨d', rfl⟩⟩
  intro H₂ V₂ ms₂ h₂ tk₂ le₂ S₂ rI7
  refine absG fun gG hgG => ?_
  obtain ⟨w1, w2, w3, w4, rr, tr, oS₂, w5, rfl, hS₂, hd0⟩ := rI7
  refine hgG ?_; clear hgG
  have hn2 := hn.le le₂
  refine xs (xif (wpAny_isTrue_Compare1 (ev_var (s := uP s h₂ tk₂) S₂.toRs w5 (wpAny_Constant_int (lt_int (wpAny_truthy_bool ?_))) (by walk_at "VK")) rfl))
  by_cases c1 : rr < 2
  · rw [decide_eq_true (show ((rr : Nat) : Int) < 2 by lia)]
    refine xs (wpAny_Return_some (ev_callK (s := uP s h₂ _) B S₂.toRs rfl rfl rfl (wpAny_items_cons ?_)))
    refine ev_one (s := uP s h₂ _) B S₂ ((R' _).mo) hS₂ hn2 h1 (by first | decide | lia) w1 (by walk_at "VK") w3 (by walk_at "VK") rfl fun x tx oS₃ H₃ h₃ tk₃ le₃ S₃ hS₃ hx => wpAny_items_nil ⟨S₃.inK B, ?_⟩
    refine make_Var B S₃.b0 ((R' _).mo) _ _ _ S₃.kn fun v H₄ h₄ tk₄ G₄ ⟨a, ev, I⟩ => ?_
    subst ev
    exact fin (e := .var x) (S₃.grow G₄) hS₃ hB (Nat.le_refl _) (by first | decide | lia) ⟨⟨a, tx, rfl, I⟩, trivial, hx, trivial, fun _ _ => trivial⟩
  rw [decide_eq_false (show ¬ ((rr : Nat) : Int) < 2 by lia)]
  refine wpAny_execs_nil ?_
  refine xs (xif (wpAny_isTrue_Compare1 (ev_var (s := uP s h₂ _) S₂.toRs w5 (wpAny_Constant_int (eq_int (wpAny_truthy_bool ?_))) (by walk_at "VK")) rfl))
  by_cases c2 : rr = 2
  · rw [show (((rr : Nat) : Int) == 2) = true from beq_iff_eq.mpr (by first | decide | lia)]
    refine xs (wpAny_Return_some (wpAny_IfExp (wpAny_isTrue_Compare1 (ev_take (s := uP s h₂ _) (top := 5) B S₂ ((R' _).mo) hS₂ (by first | decide | lia) (by first | decide | lia) w1 (by walk_at "VK") rfl fun r2 t2 oS₃ H₃ h₃ tk₃ le₃ S₃ hS₃ hr2 => wpAny_Constant_int (gt_int (wpAny_truthy_bool ?_))) rfl)))
    cases hb : decide (0 < ((r2 : Nat) : Int)) with
    | true =>
      refine ev_callK (s := uP s h₃ _) B S₃.toRs rfl rfl rfl (wpAny_items_cons (wpAny_Constant_str (wpAny_items_cons (wpAny_Constant_int (wpAny_items_nil ⟨S₃.inK B, ?_⟩)))))
      refine make_Lit B S₃.b0 ((R' _).mo) _ _ _ S₃.kn fun v H₄ h₄ tk₄ G₄ ⟨a, ev, I⟩ => ?_
      subst ev
      exact fin (e := .lit) (S₃.grow G₄) hS₃ hB (Nat.le_refl _) (by first | decide | lia) ⟨⟨a, rfl, I.sub (by simp)⟩, trivial, trivial, trivial, fun _ _ => trivial⟩
    | false =>
      refine ev_callK (s := uP s h₃ _) B S₃.toRs rfl rfl rfl (wpAny_items_cons (wpAny_Constant_str (wpAny_items_cons (List_ (wpAny_items_cons ?_)))))
      refine ev_callK (s := uP s h₃ _) B S₃.toRs rfl rfl rfl (wpAny_items_cons (wpAny_Constant_str (wpAny_items_cons (wpAny_Constant_int (wpAny_items_nil ⟨S₃.inK B, ?_⟩)))))
      refine make_Lit B S₃.b0 ((R' _).mo) _ _ _ S₃.kn fun v H₄ h₄ tk₄ G₄ ⟨a, ev, I⟩ => wpAny_items_nil ?_
      subst ev
      have S₄ := S₃.grow G₄
      refine newLX (s := uP s h₄ _) S₄ (by simp) fun la h₅ S₅ lX => wpAny_items_nil ⟨S₅.inK B, ?_⟩
      have S₆ := S₅.freeze lX
      have l56 := addH_le (o := lsO [.ref a] 0) (S₅.mu _ (.head _)).2.1
      refine make_Prim B S₆.b0 ((R' _).mo) _ _ _ S₆.kn fun v H₇ h₇ tk₇ G₇ ⟨ap, ev, Ip⟩ => ?_
      subst ev
      refine fin (e := .prim true [.lit]) (S₆.grow G₇) hS₃ hB (Nat.le_refl _) (by first | decide | lia) ⟨⟨ap, la, [.ref a], _, rfl, Ip, ⟨0, G₇.le _ _ addH_self⟩, .cons ⟨a, rfl, ((I.le l56).le G₇.le).sub (by simp)⟩ .nil⟩, ⟨by simp, fun e he => by rw [List.mem_singleton.mp he]; exact trivial⟩, fun e he => by rw [List.mem_singleton.mp he]; exact trivial, fun e he => by rw [List.mem_singleton.mp he]; exact trivial, fun y _ e he => by rw [List.mem_singleton.mp he]; exact trivial⟩
  rw [show (((rr : Nat) : Int) == 2) = false from beq_eq_false_iff_ne.mpr (by first | decide | lia)]
  refine wpAny_execs_nil ?_
  obtain ⟨d', rfl⟩ := hd0.resolve_left (by first | decide | lia)
  obtain ⟨IH, PC, PL⟩ := hsub d' rfl
  have hcnt : cnt (d' + 1) = 2 + 4 * cnt d' := rfl
  have hgo : ∀ y ∈ Γ, Off k 20 y := ho
  refine xs (xif (wpAny_isTrue_Compare1 (ev_var (s := uP s h₂ _) S₂.toRs w5 (wpAny_Constant_int (eq_int (wpAny_truthy_bool ?_))) (by walk_at "VK")) rfl))
  by_cases c3 : rr = 3
  · rw [show (((rr : Nat) : Int) == 3) = true from beq_iff_eq.mpr (by first | decide | lia)]
    refine xs (wpAny_Return_some (ev_callK (s := uP s h₂ _) B S₂.toRs rfl rfl rfl (wpAny_items_cons (wpAny_Constant_str (wpAny_items_cons (List_ (wpAny_items_cons ?_)))))))
    refine ev_draw (s := uP s h₂ _) (Γ := Γ) B IH S₂ ((R' _).mo) rfl (by walk_at "VK") (by walk_at "VK") (by walk_at "VK") w1 w2 w4 (names_var S₂.toRs w3 (by walk_at "VK") hn2) hS₂ hB (by first | decide | lia) h1 (by first | decide | lia) ho fun ve H₃ h₃ tk₃ oS₃ oB₃ k₃ e₃ le₃ S₃ hS₃ hB₃ q1 q2 D₃ => wpAny_items_nil ?_
    refine newLX (s := uP s h₃ _) S₃ (by simp) fun la h₄ S₄ lX => wpAny_items_nil ⟨S₄.inK B, ?_⟩
    have S₅ := S₄.freeze lX
    refine make_Con B S₅.b0 ((R' _).mo) _ _ _ S₅.kn fun v H₆ h₆ tk₆ G₆ ⟨a, ev, I⟩ => ?_
    subst ev
    exact fin (e := .con) (S₅.grow G₆) hS₃ hB₃ q1 (by first | decide | lia) ⟨⟨a, rfl, I.sub (by simp)⟩, trivial, trivial, trivial, fun _ _ => trivial⟩
  rw [show (((rr : Nat) : Int) == 3) = false from beq_eq_false_iff_ne.mpr (by first | decide | lia)]
  refine wpAny_execs_nil ?_
  refine xs (xif (wpAny_isTrue_Compare1 (ev_var (s := uP s h₂ _) S₂.toRs w5 (wpAny_Constant_int (eq_int (wpAny_truthy_bool ?_))) (by walk_at "VK")) rfl))
  by_cases c4 : rr = 4
  · rw [show (((rr : Nat) : Int) == 4) = true from beq_iff_eq.mpr (by first | decide | lia)]
    refine xs (wpAny_Return_some (ev_callK (s := uP s h₂ _) B S₂.toRs rfl rfl rfl (wpAny_items_cons (wpAny_Constant_str (wpAny_items_cons ?_)))))
    refine lc R.hd S₂ (.of rfl) (fun i H' ys ms' => ∃ (oS' oB' : Obj) (k' : Nat) (es : List Ex), An7 (ms' = [(SL, oS'), (BX, oB')]) (SrcOk oS') (BoxO prog w oB' k') (k ≤ k') (k' ≤ k + i * cnt d') (es.length = i) (DrawsD H' (d' + 2) Γ k k' ys es)) (fun H' H'' i ys ms' l ⟨oS', oB', k', es, a1, a2, a3, a4, a5, a6, a7⟩ => ⟨oS', oB', k', es, a1, a2, a3, a4, a5, a6, a7.le l (Nat.le_refl _)⟩) ?_
    refine ev_callT (s := uP s h₂ _) B S₂.toRs rfl rfl rfl (wpAny_items_cons (wpAny_Constant_int (wpAny_items_nil ?_)))
    refine call_rng (n := 2) (s := uP s h₂ _) fun rv h₃ tk₃ up₃ hr => ?_
    have S₃ := S₂.up up₃
    refine it_rng (s := uP s h₃ tk₃) R.hd (by first | decide | lia) S₃ hr fun it h₄ hFr => ?_
    obtain ⟨J, os, Wr, j0, S₄, hX⟩ := hFr "turn" _
    refine ⟨_, J, _, H₂, _, _, os, Wr, le_line (by first | decide | lia), j0, S₄, hX, ⟨oS₂, oB, k, [], rfl, hS₂, hB, Nat.le_refl _, by lia, rfl, .nil⟩, draws_turn B IH ((R' _).mo) w1 w2 w3 w4 rfl rfl rfl rfl rfl hn2 h1 (by first | decide | lia) ho (by first | decide | lia) (by first | decide | lia) hne, ?_⟩
    intro D ep ys H₅ ms₅ h₅ tk₅ le₅ rI8 S₅ DX
    refine absG fun gG hgG => ?_
    obtain ⟨oS₅, oB₅, k₅, es, rfl, a2, a3, a4, a5, a6, a7⟩ := rI8
    refine hgG ?_; clear hgG
    have S₆ := S₅.freeze DX
    have l56 := addH_le (o := lsO ys ep) (S₅.mu _ (.head _)).2.1
    refine wpAny_items_nil ⟨S₆.inK B, ?_⟩
    refine make_Prim B S₆.b0 ((R' _).mo) _ _ _ S₆.kn fun v H₇ h₇ tk₇ G₇ ⟨ap, ev, Ip⟩ => ?_
    subst ev
    have a8 := a7.le (l56.trans G₇.le) (Nat.le_refl _)
    refine fin (e := .prim false es) (S₆.grow G₇) a2 a3 a4 (by first | decide | lia) ⟨⟨ap, D, ys, _, rfl, Ip, ⟨ep, G₇.le _ _ addH_self⟩, All2.imp a8 fun v e D => D.tree⟩, ⟨by lia, fun e he => ?_⟩, fun e he => ?_, fun e he => ?_, fun y hy e he => ?_⟩
    · obtain ⟨v, D⟩ := a8.mem e he; exact D.few
    · obtain ⟨v, D⟩ := a8.mem e he; exact D.sc
    · obtain ⟨v, D⟩ := a8.mem e he; exact D.ub
    · obtain ⟨v, D⟩ := a8.mem e he; exact D.nb y hy
  rw [show (((rr : Nat) : Int) == 4) = false from beq_eq_false_iff_ne.mpr (by first | decide | lia)]
  refine wpAny_execs_nil ?_
  refine xs (xif (wpAny_isTrue_Compare1 (ev_var (s := uP s h₂ _) S₂.toRs w5 (wpAny_Constant_int (lt_int (wpAny_truthy_bool ?_))) (by walk_at "VK")) rfl))
  by_cases c7 : rr < 7
  · rw [decide_eq_true (show ((rr : Nat) : Int) < 7 by lia)]
    refine xs (wpAny_Return_some (ev_callK (s := uP s h₂ _) B S₂.toRs rfl rfl rfl (wpAny_items_cons (ev_var (s := uP s h₂ _) S₂.toRs w1 (wpAny_items_cons (ev_var (s := uP s h₂ _) S₂.toRs w2 (wpAny_items_cons (ev_var (s := uP s h₂ _) S₂.toRs w3 (wpAny_items_cons (ev_var (s := uP s h₂ _) S₂.toRs w4 (wpAny_items_nil ⟨S₂.inK B, ?_⟩) (by walk_at "VK"))) (by walk_at "VK"))) (by walk_at "VK"))) (by walk_at "VK")))))
    refine PC _ H₂ SL BX nl oS₂ oB Γ k t S₂.b0 ((R' _).mo) hS₂ hB hk hn2 h1 h2 ho _ _ _ S₂.kn (fun p hp => ⟨(S₂.mu p hp).1, (S₂.mu p hp).2.1⟩) nd fun v H' h' tk' os' M ⟨oS', oB', k', e, q1, q2, q3, q4, q5, q6⟩ => ?_
    subst q1
    exact fin (St.moveL (os := [(SL, oS₂), (BX, oB)]) (r := []) S₂ M) q2 q3 q4 q5 q6
  rw [decide_eq_false (show ¬ ((rr : Nat) : Int) < 7 by lia)]
  refine wpAny_execs_nil ?_
  refine xs (xif (wpAny_isTrue_Compare1 (ev_var (s := uP s h₂ _) S₂.toRs w5 (wpAny_Constant_int (lt_int (wpAny_truthy_bool ?_))) (by walk_at "VK")) rfl))
  by_cases c9 : rr < 9
  · rw [decide_eq_true (show ((rr : Nat) : Int) < 9 by lia)]
    refine xs (wpAny_Return_some (ev_callK (s := uP s h₂ _) B S₂.toRs rfl rfl rfl (wpAny_items_cons (ev_var (s := uP s h₂ _) S₂.toRs w1 (wpAny_items_cons (ev_var (s := uP s h₂ _) S₂.toRs w2 (wpAny_items_cons (ev_var (s := uP s h₂ _) S₂.toRs w3 (wpAny_items_cons (ev_var (s := uP s h₂ _) S₂.toRs w4 (wpAny_items_nil ⟨S₂.inK B, ?_⟩) (by walk_at "VK"))) (by walk_at "VK"))) (by walk_at "VK"))) (by walk_at "VK")))))
    refine PL _ H₂ SL BX nl oS₂ oB Γ k t S₂.b0 ((R' _).mo) hS₂ hB hk hn2 h1 h2 ho _ _ _ S₂.kn (fun p hp => ⟨(S₂.mu p hp).1, (S₂.mu p hp).2.1⟩) nd fun v H' h' tk' os' M ⟨oS', oB', k', e, q1, q2, q3, q4, q5, q6⟩ => ?_
    subst q1
    exact fin (St.moveL (os := [(SL, oS₂), (BX, oB)]) (r := []) S₂ M) q2 q3 q4 q5 q6
  rw [decide_eq_false (show ¬ ((rr : Nat) : Int) < 9 by lia)]
  refine wpAny_execs_nil ?_
  refine xs (xif (wpAny_isTrue_Compare1 (ev_var (s := uP s h₂ _) S₂.toRs w5 (wpAny_Constant_int (eq_int (wpAny_truthy_bool ?_))) (by walk_at "VK")) rfl))
  by_cases c9' : rr = 9
  · rw [show (((rr : Nat) : Int) == 9) = true from beq_iff_eq.mpr (by first | decide | lia)]
    refine xs (wpAny_Return_some (ev_callK (s := uP s h₂ _) B S₂.toRs rfl rfl rfl (wpAny_items_cons ?_)))
    refine ev_callK (s := uP s h₂ _) B S₂.toRs rfl rfl rfl (wpAny_items_cons ?_)
    refine ev_one (s := uP s h₂ _) B S₂ ((R' _).mo) hS₂ hn2 h1 (by first | decide | lia) w1 (by walk_at "VK") w3 (by walk_at "VK") rfl fun x tx oS₃ H₃ h₃ tk₃ le₃ S₃ hS₃ hx => wpAny_items_nil ⟨S₃.inK B, ?_⟩
    refine make_Var B S₃.b0 ((R' _).mo) _ _ _ S₃.kn fun v H₄ h₄ tk₄ G₄ ⟨a, ev, I⟩ => wpAny_items_cons (List_ (wpAny_items_cons ?_))
    subst ev
    have S₄ := S₃.grow G₄
    refine ev_draw (s := uP s h₄ _) (Γ := Γ) B IH S₄ ((R' _).mo) rfl (by walk_at "VK") (by walk_at "VK") (by walk_at "VK") w1 w2 w4 (names_var S₄.toRs w3 (by walk_at "VK") ((hn2.le le₃).le G₄.le)) hS₃ hB (by first | decide | lia) h1 (by first | decide | lia) ho fun ve H₅ h₅ tk₅ oS₅ oB₅ k₅ e₅ le₅ S₅ hS₅ hB₅ q1 q2 D₅ => wpAny_items_nil ?_
    refine newLX (s := uP s h₅ _) S₅ (by simp) fun la h₆ S₆ lX => wpAny_items_nil ⟨S₆.inK B, ?_⟩
    have S₇ := S₆.freeze lX
    have l67 := addH_le (o := lsO [ve] 0) (S₆.mu _ (.head _)).2.1
    refine make_App B S₇.b0 ((R' _).mo) _ _ _ S₇.kn fun v H₈ h₈ tk₈ G₈ ⟨ap, ev, Ip⟩ => ?_
    subst ev
    have D₈ := (D₅.le l67).le G₈.le
    exact fin (e := .appv x [e₅]) (S₇.grow G₈) hS₅ hB₅ q1 (by first | decide | lia) ⟨⟨ap, a, la, [ve], tx, rfl, Ip, ((I.le le₅).le l67).le G₈.le, ⟨0, G₈.le _ _ addH_self⟩, .cons D₈.tree .nil⟩, ⟨by simp, fun e he => by rw [List.mem_singleton.mp he]; exact D₅.few⟩, hx, trivial, fun _ _ => trivial⟩
  rw [show (((rr : Nat) : Int) == 9) = false from beq_eq_false_iff_ne.mpr (by first | decide | lia)]
  refine wpAny_execs_nil ?_
  refine xs ?_
  refine lc_assign R.hd S₂ (.of rfl) rfl (by walk_at "VK") (fun i H' ys ms' => ∃ oS' oB', ms' = [(SL, oS'), (BX, oB')] ∧ SrcOk oS' ∧ BoxO prog w oB' (k + i) ∧ StrsAre ys (freshL "p" k i)) (fun _ _ _ _ _ _ h => h) ?_
  refine ev_callT (s := uP s h₂ _) B S₂.toRs rfl rfl rfl (wpAny_items_cons (wpAny_BinOp (wpAny_Constant_int ?_)))
  refine ev_take (s := uP s h₂ _) (top := 2) B S₂ ((R' _).mo) hS₂ (by first | decide | lia) (by first | decide | lia) w1 (by walk_at "VK") rfl fun r3 t3 oS₃ H₃ h₃ tk₃ le₃ S₃ hS₃ hr3 => ?_
  refine wpAny_add_int (wpAny_items_nil ?_)
  have ecast : (1 : Int) + ((r3 : Nat) : Int) = ((r3 + 1 : Nat) : Int) := by lia
  rw [ecast]
  refine call_rng (s := uP s h₃ _) fun rv h₄ tk₄ up₄ hr => ?_
  have S₄ := S₃.up up₄
  refine it_rng (s := uP s h₄ tk₄) R.hd (by first | decide | lia) S₄ hr fun it h₅ hFr => ?_
  obtain ⟨J, os, Wr, j0, S₅, hX⟩ := hFr "turn" _
  refine ⟨_, J, _, H₃, _, _, os, Wr, le_line (by first | decide | lia), j0, S₅, hX, ⟨oS₃, oB, rfl, hS₃, hB, .nil⟩, fresh_turn B ((R' _).mo) (by first | decide | lia) (by decide +kernel) w2 rfl rfl, ?_⟩
  intro Dp ep ysp H₆ ms₆ h₆ tk₆ le₆ rI8 S₆ DpX
  refine absG fun gG hgG => ?_
  obtain ⟨oS₆, oB₆, rfl, hS₆, hB₆, hyp⟩ := rI8
  refine hgG ?_; clear hgG
  have S₇ := S₆.freeze DpX
  have l67 := addH_le (o := lsO ysp ep) (S₆.mu _ (.head _)).2.1
  have hpr : NamesH (addH H₆ Dp (lsO ysp ep)) (.ref Dp) (freshL "p" k (r3 + 1)) := ⟨Dp, ysp, rfl, ⟨ep, addH_self⟩, hyp⟩
  have hpl : ListH (addH H₆ Dp (lsO ysp ep)) Dp ysp := ⟨ep, addH_self⟩
  have l7 := (le₃.trans le₆).trans l67
  generalize addH H₆ Dp (lsO ysp ep) = H₇ at *
  have hfrl := freshL_len "p" k (r3 + 1)
  have hfo : ∀ y ∈ freshL "p" k (r3 + 1), Off (k + (r3 + 1)) 20 y := freshL_off bp (Nat.le_refl _) (by first | decide | lia)
  refine xs (wpAny_Assign_Name ?_)
  refine ev_draw (s := uP s h₆ tk₆) (Γ := Γ ++ freshL "p" k (r3 + 1)) B IH S₇ ((R' _).mo) rfl (by walk_at "VK") (by walk_at "VK") (by walk_at "VK") w1 w2 w4 (names_plusV S₇.toRs w3 (by walk_at "VK") (hn2.le l7) rfl (by walk_at "VK") hpr (by first | decide | lia)) hS₆ hB₆ (by first | decide | lia) (by rw [List.length_append]; lia) (by rw [List.length_append, hfrl]; lia) (off_append ho (by first | decide | lia) hfo) fun vb H₈ h₈ tk₈ oS₈ oB₈ k₈ e₈ le₈ S₈ hS₈ hB₈ q1 q2 D₈ => ?_
  refine St.store (s := uP s h₈ tk₈) S₈ (by walk_at "VK") fun h₉ tk₉ S₉ => ?_
  refine absG fun gG hgG => ?_
  obtain ⟨ab, lb, hvb, _⟩ := D₈.tree.inst
  refine hgG ?_; clear hgG
  refine xs (wpAny_Return_some (ev_callK (s := uP s h₉ tk₉) B S₉.toRs rfl rfl rfl (wpAny_items_cons ?_)))
  refine ev_callK (s := uP s h₉ tk₉) B S₉.toRs rfl rfl rfl (wpAny_items_cons (ev_var (s := uP s h₉ tk₉) S₉.toRs rfl (wpAny_items_cons (ev_var (s := uP s h₉ tk₉) S₉.toRs rfl (wpAny_items_nil ⟨S₉.inK B, ?_⟩) (by walk_at "VK"))) (by walk_at "VK")))
  refine make_Lam B S₉.b0 ((R' _).mo) _ _ _ S₉.kn fun v H₁₀ h₁₀ tk₁₀ G₁₀ ⟨al, ev, Il⟩ => wpAny_items_cons ?_
  subst ev
  have S₁₀ := S₉.grow G₁₀
  have l10 := (l7.trans le₈).trans G₁₀.le
  refine lc R.hd S₁₀ (.of rfl) (fun i H' ys ms' => ∃ (oS' oB' : Obj) (k' : Nat) (es : List Ex), An7 (ms' = [(SL, oS'), (BX, oB')]) (SrcOk oS') (BoxO prog w oB' k') (k₈ ≤ k') (k' ≤ k₈ + i * cnt d') (es.length = i) (DrawsD H' (d' + 2) Γ k₈ k' ys es)) (fun H' H'' i ys ms' l ⟨oS', oB', k', es, a1, a2, a3, a4, a5, a6, a7⟩ => ⟨oS', oB', k', es, a1, a2, a3, a4, a5, a6, a7.le l (Nat.le_refl _)⟩) ?_
  refine ev_callT (s := uP s h₁₀ _) B S₁₀.toRs rfl rfl rfl (wpAny_items_cons (wpAny_BinOp (wpAny_Constant_int ?_)))
  refine ev_take (s := uP s h₁₀ _) (top := 2) B S₁₀ ((R' _).mo) hS₈ (by first | decide | lia) (by first | decide | lia) w1 (by walk_at "VK") rfl fun r4 t4 oS₁₁ H₁₁ h₁₁ tk₁₁ le₁₁ S₁₁ hS₁₁ hr4 => ?_
  refine wpAny_add_int (wpAny_items_nil ?_)
  have ecast4 : (1 : Int) + ((r4 : Nat) : Int) = ((r4 + 1 : Nat) : Int) := by lia
  rw [ecast4]
  refine call_rng (s := uP s h₁₁ _) fun rv h₁₂ tk₁₂ up₁₂ hr12 => ?_
  have S₁₂ := S₁₁.up up₁₂
  refine it_rng (s := uP s h₁₂ tk₁₂) R.hd (by first | decide | lia) S₁₂ hr12 fun it h₁₃ hFr2 => ?_
  obtain ⟨J2, os2, Wr2, j2, S₁₃, hX2⟩ := hFr2 "turn" _
  refine ⟨_, J2, _, H₁₁, _, _, os2, Wr2, le_line (by first | decide | lia), j2, S₁₃, hX2, ⟨oS₁₁, oB₈, k₈, [], rfl, hS₁₁, hB₈, Nat.le_refl _, by lia, rfl, .nil⟩, draws_turn B IH ((R' _).mo) w1 w2 w3 w4 rfl rfl rfl rfl rfl (hn2.le (l10.trans le₁₁)) h1 (by first | decide | lia) (fun y hy => (ho y hy).mono (by lia) (Nat.le_refl _)) (by first | decide | lia) (by first | decide | lia) hne, ?_⟩
  intro Da epa ysa H₁₄ ms₁₄ h₁₄ tk₁₄ le₁₄ rI8 S₁₄ DaX
  refine absG fun gG hgG => ?_
  obtain ⟨oS₁₄, oB₁₄, k₁₄, es, rfl, a2, a3, a4, a5, a6, a7⟩ := rI8
  refine hgG ?_; clear hgG
  have S₁₅ := S₁₄.freeze DaX
  have l1415 := addH_le (o := lsO ysa epa) (S₁₄.mu _ (.head _)).2.1
  refine wpAny_items_nil ⟨S₁₅.inK B, ?_⟩
  refine make_App B S₁₅.b0 ((R' _).mo) _ _ _ S₁₅.kn fun v H₁₆ h₁₆ tk₁₆ G₁₆ ⟨ap, ev, Ip⟩ => ?_
  subst ev
  have a8 := a7.le (l1415.trans G₁₆.le) (Nat.le_refl _)
  have l8 : H₈.le H₁₆ := (((G₁₀.le.trans le₁₁).trans le₁₄).trans l1415).trans G₁₆.le
  have l10' : H₁₀.le H₁₆ := ((le₁₁.trans le₁₄).trans l1415).trans G₁₆.le
  have hm : (r4 + 1) * cnt d' ≤ 2 * cnt d' := Nat.mul_le_mul_right _ (by first | decide | lia)
  refine fin (e := .appl (freshL "p" k (r3 + 1)) e₈ es) (S₁₅.grow G₁₆) a2 a3 (by first | decide | lia) (by first | decide | lia) ⟨?_, ?_, ?_, ?_, ?_⟩
  · exact ⟨ap, al, Dp, ysp, vb, Da, ysa, rfl, Ip, Il.le l10', (hpl.le le₈).le l8, hyp, (D₈.le l8).tree, ⟨epa, G₁₆.le _ _ addH_self⟩, All2.imp a8 fun v e D => D.tree⟩
  · exact ⟨by lia, D₈.few, by lia, fun e he => let ⟨v, D⟩ := a8.mem e he; D.few⟩
  · exact ⟨D₈.sc, fun e he => let ⟨v, D⟩ := a8.mem e he; D.sc⟩
  · exact ⟨fun p hp => D₈.nb p ((hfo p hp).mono (by lia) (by first | decide | lia)), D₈.ub, fun e he => let ⟨v, D⟩ := a8.mem e he; D.ub⟩
  · intro y hy
    exact ⟨freshL_not bp hy (by first | decide | lia), D₈.nb y (hy.mono (by lia) (by first | decide | lia)), fun e he => let ⟨v, D⟩ := a8.mem e he; D.nb y (hy.mono (by lia) (Nat.le_refl _))⟩
theorem expr_at (B : Base (KW w) H0) : ∀ d, d ≤ 3 → ExprAt prog w H0 d
  | 0, _ => expr_draw B (fun d' h => by lia) (by first | decide | lia)
  | d + 1, h => expr_draw B (fun d' e => by
      have e' : d' = d := by lia
      subst e'
      have IH := expr_at B d' (by first | decide | lia)
      exact ⟨IH, case_draw B IH, let_draw B IH⟩) (by first | decide | lia)
end
end Mine
end
section
open PySem PySem.W PyProof.Rows PySem.Calls
set_option maxRecDepth 10000
set_option linter.unusedVariables false
namespace Mine
noncomputable def ScriptH (H : KH) (a : Addr) : Prop := ∃ items : Array Value, (∀ h, InH H h → h.IsList a items) ∧ (∀ (i : Nat) (v : Value), items[i]? = some v → ∃ x t, v = .int x t) ∧ items.size ≤ 1000
section
variable {prog : Program} {w : World} {A : Around} {E : Value → Shared → Prop} {s : Shared} {c : Cx} {H H0 : KH} {env : Env} {V : Str → Option Value} {ms : List (Addr × Obj)}
theorem bits01 (b : Bool) : Builtin.Int.intBits (if b = true then (1 : Int) else 0) ≤ 64 := by cases b <;> decide +kernel
theorem pow_ten {t u : Tok} {Q : Value → Shared → Prop} (h : ∀ z, Q (.int z s.toks) { s with toks := s.toks + 1 }) : wpAny (model prog w) A (binaryOp .Pow (.int 10 t) (.int 18 u)) Q E s := by
  have e1 : ¬ Builtin.Int.intTooBig (((Builtin.Int.intBits 10 : Nat) : Int) * 18) = true := by decide +kernel
  refine AutoIntOps.pow_4 (by decide) (by decide) (by decide) (by decide) e1 ?_
  generalize ((10 : Int) ^ (18 : Int).toNat) = z
  exact h z
theorem mod_pos {a b : Int} {t u : Tok} {Q : Value → Shared → Prop} (hb : 0 < b) (h : ∀ r : Int, 0 ≤ r → r < b → Q (.int r s.toks) { s with toks := s.toks + 1 }) : wpAny (model prog w) A (binaryOp .Mod (.int a t) (.int b u)) Q E s :=
  mod_int (by lia) (h _ (Int.fmod_nonneg_of_pos _ hb) (Int.fmod_lt_of_pos _ hb))
set_option maxHeartbeats 2000000 in
theorem pool_spec {SA : Addr} {t0 : Tok} (B : Base (KW w) H0) (l0 : H0.le H) (R : Room A 3) (hS : ScriptH H SA) :
    Makes prog w A H 504 [.ref SA, .int 0 t0] SrcOk := by
  intro s E Q kn hQ
  refine absG fun gG hgG => ?_
  obtain ⟨items, hl, hi, hz⟩ := hS
  refine hgG ?_; clear hgG
  refine call_fn (ms := []) (binds := [("script", .ref SA), ("k", .int 0 t0)]) B l0 kn (fun _ h => nomatch h) .nil R.depth rfl rfl rfl rfl rfl rfl rfl ?_
  intro Lc h₁ tk S
  refine xs (wpAny_Assign_Name (wpAny_Constant_int ?_))
  refine St.store (s := uP s h₁ _) S (by walk_at "VK") fun h₂ tk₂ S₂ => ?_
  have hl2 := hl _ S₂.kn
  refine xs (mid (s := uP s h₂ tk₂) S₂ (fun H3 V3 ms3 => V3 "script" = some (.ref SA) ∧ V3 "k" = some (.int 0 t0) ∧ (∃ x t, V3 "cell" = some (.int x t)) ∧ ms3 = []) ?_ ?_)
  · refine xif (wpAny_isTrue_Compare1 (ev_var (s := uP s h₂ tk₂) S₂.toRs rfl ?_ (by walk_at "VK")) rfl)
    refine ev_callB (s := uP s h₂ tk₂) B S₂.toRs rfl rfl rfl (wpAny_items_cons (ev_var (s := uP s h₂ tk₂) S₂.toRs rfl (wpAny_items_nil ?_) (by walk_at "VK")))
    refine len_list (s := uP s h₂ tk₂) hl2 (by lia) ?_
    refine lt_int (wpAny_truthy_bool ?_)
    by_cases hc : (0 : Int) < ((items.size : Nat) : Int)
    · rw [decide_eq_true hc]
      have hx : items[0]? = some items[0] := by rw [Array.getElem?_eq_getElem]
      obtain ⟨x, t, ex⟩ := hi 0 _ hx
      refine xs (wpAny_Assign_Name (Subscript_ (ev_var (s := uP s h₂ _) S₂.toRs rfl (ev_var (s := uP s h₂ _) S₂.toRs rfl ?_ (by walk_at "VK")) (by walk_at "VK"))))
      refine item_list (s := uP s h₂ _) hl2 (by lia) (by lia) (x := items[0]) hx ?_
      rw [ex]
      refine St.store (s := uP s h₂ _) S₂ (by walk_at "VK") fun h₃ tk₃ S₃ => ?_
      exact wpAny_execs_nil ⟨rfl, _, _, _, h₃, tk₃, rfl, .refl _, S₃, rfl, rfl, ⟨x, t, rfl⟩, rfl⟩
    · rw [decide_eq_false hc]
      exact wpAny_execs_nil ⟨rfl, _, _, _, h₂, _, rfl, .refl _, S₂, rfl, rfl, ⟨_, _, rfl⟩, rfl⟩
  · intro H₃ V₃ ms₃ h₃ tk₃ le₃ S₃ rI7
    refine absG fun gG hgG => ?_
    obtain ⟨w1, w2, ⟨x, t, w3⟩, rfl⟩ := rI7
    refine hgG ?_; clear hgG
    refine xs (wpAny_Assign_Name ?_)
    refine ev_callB (s := uP s h₃ tk₃) B S₃.toRs rfl rfl rfl (wpAny_items_cons ?_)
    refine ev_callT (s := uP s h₃ tk₃) B S₃.toRs rfl rfl rfl (wpAny_items_cons (ev_var (s := uP s h₃ tk₃) S₃.toRs w3 (wpAny_items_nil (call_int_int (wpAny_items_cons ?_))) (by walk_at "VK")))
    refine ev_callT (s := uP s h₃ tk₃) B S₃.toRs rfl rfl rfl (wpAny_items_cons (wpAny_BinOp (UnaryOp_ (wpAny_Constant_int (PySem.P.neg_int (ev_var (s := uP s h₃ _) S₃.toRs w3 (sub_int (wpAny_items_nil (call_int_int (wpAny_items_nil ?_)))) (by walk_at "VK")))))))
    refine PySem.max_two_ints (s := uP s h₃ _) R.hd fun h₄ tk₄ up₄ => ?_
    have S₄ := S₃.up up₄
    have ev : ∀ (c : Prop) [Decidable c] (a b : Int) (t u : Tok), (if c then Value.int a t else Value.int b u) = Value.int (if c then a else b) (if c then t else u) := fun c _ a b t u => by split <;> rfl
    rw [ev]
    generalize (if (-1 - x) > x then (-1 - x) else x) = big
    generalize (if (-1 - x) > x then _ else t) = tb
    refine St.store (s := uP s h₄ _) S₄ (by walk_at "VK") fun h₅ tk₅ S₅ => ?_
    have w2' : setV V₃ "big" (.int big tb) "k" = some (.int 0 t0) := w2
    refine xs (wpAny_Assign_Name (wpAny_BinOp ?_))
    refine ev_callT (s := uP s h₅ tk₅) B S₅.toRs rfl rfl rfl (wpAny_items_cons (wpAny_BinOp (wpAny_BinOp (wpAny_BinOp (wpAny_BinOp (wpAny_BinOp ?_))))))
    refine ev_callT (s := uP s h₅ tk₅) B S₅.toRs rfl rfl rfl (wpAny_items_cons (ev_var (s := uP s h₅ tk₅) S₅.toRs rfl (wpAny_items_nil (call_int_int (wpAny_Constant_int (mod_pos (by decide) fun r1 _ _ => ?_)))) (by walk_at "VK")))
    refine wpAny_BinOp (wpAny_BinOp (wpAny_Constant_int (ev_var (s := uP s h₅ _) S₅.toRs w2' (mul_int ?_ (IntMulOk.of_right (by decide))) (by walk_at "VK"))))
    refine ev_var (s := uP s h₅ _) S₅.toRs w2' (mul_int (wpAny_add_int ?_) (IntMulOk.of_right (by decide))) (by walk_at "VK")
    refine wpAny_BinOp (wpAny_Constant_int (ev_var (s := uP s h₅ _) S₅.toRs w2' (mul_int (wpAny_add_int ?_) (IntMulOk.of_right (by decide))) (by walk_at "VK")))
    refine wpAny_Constant_int (wpAny_add_int (wpAny_Constant_int (mul_int (wpAny_items_nil (call_int_int (wpAny_Constant_int (mod_pos (by decide) fun mixed m0 m1 => ?_)))) (IntMulOk.of_right (by decide)))))
    refine St.store (s := uP s h₅ _) S₅ (by walk_at "VK") fun h₆ tk₆ S₆ => ?_
    refine xs (wpAny_Return_some (List_ (wpAny_items_cons (wpAny_BinOp (ev_var (s := uP s h₆ tk₆) S₆.toRs rfl ?_ (by walk_at "VK"))))))
    refine ev_callT (s := uP s h₆ tk₆) B S₆.toRs rfl rfl rfl (wpAny_items_cons (wpAny_Compare1 (ev_var (s := uP s h₆ tk₆) S₆.toRs rfl (wpAny_BinOp (wpAny_Constant_int (wpAny_Constant_int ?_))) (by walk_at "VK"))))
    refine pow_ten fun z18 => ?_
    refine PySem.P.ge_int (wpAny_items_nil (call_int_bool (mul_int (wpAny_items_cons (ev_var (s := uP s h₆ _) S₆.toRs rfl (wpAny_items_nil ?_) (by walk_at "VK"))) (IntMulOk.of_right (bits01 _)))))
    refine newL (s := uP s h₆ _) S₆ (by simp) fun a h₇ S₇ => ?_
    have e7 := (S₇.mu _ (.head _)).1
    exact hQ a _ h₇ _ (fun b o e => S₇.upI b o (by simp) e) ((S₇.mu _ (.head _)).2.2.1.resolve_left (by simp)) e7 ⟨_, mixed, ⟨rfl, _, _, 0, rfl⟩, m0, m1⟩
end
end Mine
end
section
open PySem PySem.W PyProof.Rows PySem.Calls
set_option maxRecDepth 100000
set_option linter.unusedVariables false
namespace Mine
noncomputable def SetX (prog : Program) (w : World) (h : Heap) (a : Addr) (S : Str → Bool) (n : Nat) (led : Bool) : Prop :=
  Ex4 fun o es ep t => h.get? a = some o ∧ o.ExactSet ∧ o.data = .set es ep t ∧ ElemsOf (strKind prog w) es.toList ∧ (∀ k, S k = true ↔ ∃ e ∈ es.toList, (strKind prog w).is k e.2 = true)
    ∧ es.size < scanBound ∧ t.fits es.size = true ∧ es.size = n ∧ t.led = led ∧ (t.plain = false ∨ es.size = 0)
theorem layNew_led (t : SetTable) (es : Array (Int × Value)) (h : Int) (x : Value) : (layNew t es h x).2.1.led = t.led := by
  unfold layNew
  split
  · dsimp only
    unfold SetTable.orStandIn
    split <;> rfl
  · rfl
theorem layNew_plain (t : SetTable) (es : Array (Int × Value)) (h : Int) (x : Value) (hp : t.plain = false) : (layNew t es h x).2.1.plain = false := by
  unfold layNew
  split
  · dsimp only
    unfold SetTable.orStandIn
    split
    · exact hp
    · rfl
  · rfl
theorem relayAll_led (t : SetTable) (es : Array (Int × Value)) (k : Nat) : (relayAll t es k).2.1.led = t.led := by
  unfold relayAll
  split
  · rename_i t' order e
    unfold SetTable.relaid SetTable.laid at e
    simp only [Option.bind_eq_bind, Option.bind_eq_some_iff] at e
    obtain ⟨ow, _, e⟩ := e
    cases e
    dsimp only
    split <;> rfl
  · rfl
theorem relayAll_plain (t : SetTable) (es : Array (Int × Value)) (k : Nat) (hp : t.plain = false) : (relayAll t es k).2.1.plain = false := by
  unfold relayAll
  split
  · rename_i t' order e
    unfold SetTable.relaid SetTable.laid at e
    simp only [Option.bind_eq_bind, Option.bind_eq_some_iff] at e
    obtain ⟨ow, _, e⟩ := e
    cases e
    dsimp only
    split
    · exact hp
    · rfl
  · rfl
section
variable {prog : Program} {w : World} {A : Around} {E : Value → Shared → Prop} {s : Shared}
theorem setX_store {h : Heap} {a : Addr} {o : Obj} {es : Array (Int × Value)} {ep : Nat} {t : SetTable} {es1 : Array (Int × Value)} {t2 : SetTable} {S' : Str → Bool} (ho : h.get? a = some o) (hex : o.ExactSet) (hd : o.data = .set es ep t)
    (hel1 : ElemsOf (strKind prog w) es1.toList) (hmem1 : ∀ k', S' k' = true ↔ ∃ e ∈ es1.toList, (strKind prog w).is k' e.2 = true) (hb1 : es1.size < scanBound) (hf2 : t2.fits es1.size = true) {led : Bool} (hl : t2.led = led) (hp : t2.plain = false) :
    (∃ ep', (h.update a (Obj.putSet es1 t2)).get? a = some { o with data := .set es1 ep' t2 }) ∧ SetX prog w (h.update a (Obj.putSet es1 t2)) a S' es1.size led := by
  obtain ⟨ho1, o1, es', ep', t', b1, b2, b3, b4, b5, b6, b7, b8⟩ := SetOf_store (knd := strKind prog w) ho hex hd hel1 hmem1 hb1 hf2
  have : ∃ ep', (h.update a (Obj.putSet es1 t2)).get? a = some { o with data := .set es1 ep' t2 } := ⟨_, ho1⟩
  refine ⟨this, ?_⟩
  obtain ⟨ep2, e2⟩ := this
  exact ⟨_, es1, ep2, t2, e2, ⟨hex.1, hex.2.1, hex.2.2⟩, rfl, hel1, hmem1, hb1, hf2, rfl, hl, .inl hp⟩
end
end Mine
end
section
open PySem PySem.W PyProof.Rows PySem.Calls
set_option maxRecDepth 100000
set_option linter.unusedVariables false
namespace Mine
section
variable {prog : Program} {w : World} {A : Around} {E : Value → Shared → Prop} {s : Shared}
theorem setX_tail {g : Bool → Sem Unit} (hg : ∀ (b : Bool) (s₁ : Shared) (Q' : Unit → Shared → Prop), Q' () s₁ → wpAny (model prog w) A (g b) Q' E s₁)
    {a : Addr} {o : Obj} {es : Array (Int × Value)} {ep : Nat} {t : SetTable} (ho : s.heap.get? a = some o) (hex : o.ExactSet) (hd : o.data = .set es ep t)
    {es1 : Array (Int × Value)} {t2 : SetTable} {S' : Str → Bool} (hel1 : ElemsOf (strKind prog w) es1.toList) (hmem1 : ∀ k', S' k' = true ↔ ∃ e ∈ es1.toList, (strKind prog w).is k' e.2 = true)
    (hb1 : es1.size < scanBound) (hf2 : t2.fits es1.size = true) {led : Bool} (hl : t2.led = led) (hpl : t2.plain = false) {wasDummy : Bool} {R : Option Bool → Shared → Prop}
    (h : ∀ h', Heap.SameBut a s.heap h' → SetX prog w h' a S' es1.size led → R (some true) (uH s h')) :
    wpAny (model prog w) A (do
        storeSet a es1 t2
        if (!wasDummy && t2.tooFull) = true then do
            g (relayAll t2 es1 (SetTable.grown es1.size)).2.2
            storeSet a (relayAll t2 es1 (SetTable.grown es1.size)).1 (relayAll t2 es1 (SetTable.grown es1.size)).2.1
            pure (some true)
          else pure (some true)) R E s := by
  refine wpAny_bind (wpAny_storeSet_of ho hd ?_ (fits_of_scanBound hb1))
  obtain ⟨⟨ep1, ho1⟩, hS1⟩ := setX_store (prog := prog) (w := w) ho hex hd hel1 hmem1 hb1 hf2 hl hpl
  have hsb1 := Heap.SameBut.update s.heap a (Obj.putSet es1 t2)
  split
  ·
    have hp := relayAll_perm t2 es1 (SetTable.grown es1.size)
    have hfr := relayAll_fits t2 es1 (SetTable.grown es1.size)
    have hlr := relayAll_led t2 es1 (SetTable.grown es1.size)
    have hpr := relayAll_plain t2 es1 (SetTable.grown es1.size) hpl
    generalize hRl : relayAll t2 es1 (SetTable.grown es1.size) = Rl at hp hfr hlr hpr ⊢
    obtain ⟨es2, t3, gave2⟩ := Rl
    dsimp only at hp hfr hlr hpr ⊢
    have hel2 : ElemsOf (strKind prog w) es2.toList := hel1.perm hp
    have hmem2 : ∀ k', S' k' = true ↔ ∃ e ∈ es2.toList, (strKind prog w).is k' e.2 = true := fun k' => (hmem1 k').trans ⟨fun ⟨e, he, q⟩ => ⟨e, hp.mem_iff.mpr he, q⟩, fun ⟨e, he, q⟩ => ⟨e, hp.mem_iff.mp he, q⟩⟩
    have hsz : es2.size = es1.size := by rw [← Array.length_toList, hp.length_eq, Array.length_toList]
    have hb2 : es2.size < scanBound := by rw [hsz]; exact hb1
    refine wpAny_bind (hg _ _ _ ?_)
    refine wpAny_bind (wpAny_storeSet_of ho1 rfl ?_ (fits_of_scanBound hb2))
    obtain ⟨_, hS2⟩ := setX_store (prog := prog) (w := w) ho1 (show Obj.ExactSet { o with data := .set es1 ep1 t2 } from ⟨hex.1, hex.2.1, hex.2.2⟩) rfl hel2 hmem2 hb2 hfr (hlr.trans hl) hpr
    rw [hsz] at hS2
    exact wpAny_pure (h _ (hsb1.trans (Heap.SameBut.update _ a _)) hS2)
  · exact wpAny_pure (h _ hsb1 hS1)
theorem setX_add {a : Addr} {S : Str → Bool} {n : Nat} {led : Bool} {k : Str} {u : Tok} {Q : Bool → Shared → Prop} (hS : SetX prog w s.heap a S n led)
    (hroom : n + 1 < scanBound)
    (h : ∀ h', Heap.SameBut a s.heap h' → SetX prog w h' a (fun k' => S k' || decide (k' = k)) (if S k then n else n + 1) led → Q (!S k) (uH s h')) :
    wpAny (model prog w) A (setAddHashed a (.str k u) ((strKind prog w).hash k)) Q E s := by
  obtain ⟨o, es, ep, t, ho, hex, hd, hel, hmem, hb, hf, hn, hld, hpl⟩ := hS
  have hkey := strKind_is prog w k u
  have hsc : (Value.str k u).scannable = true := rfl
  have hb1 : es.size + 1 < scanBound := by rw [hn]; exact hroom
  unfold setAddHashed setAddHashedIn
  refine wpAny_holding (wpAny_bind (wpAny_setState_of ho hd hf ?_))
  dsimp only
  rw [byScan_of hsc hb hel]
  simp only [↓reduceIte]
  unfold setAddByScan
  refine wpAny_bind ?_
  refine wpAny_bind (wpAny_rule ?_)
  refine wpAny_bind (wpAny_setScan_of hkey ho hd hf hel ?_)
  cases hr : List.findIdx? (fun e => (strKind prog w).is k e.2) es.toList with
  | some j =>
    dsimp only
    obtain ⟨hj, hpj, _⟩ := List.findIdx?_eq_some_iff_getElem.mp hr
    have hSk : S k = true := (hmem k).mpr ⟨es.toList[j], List.getElem_mem hj, hpj⟩
    refine wpAny_pure (wpAny_pure ?_)
    have e : s = (uH s s.heap) := by cases s; rfl
    have := h s.heap (Heap.SameBut.refl a s.heap) ⟨o, es, ep, t, ho, hex, hd, hel, fun k' => by
      rw [Bool.or_eq_true, decide_eq_true_eq, ← hmem k']
      exact ⟨fun hk => hk.elim id (fun e => e ▸ hSk), .inl⟩, hb, hf, by rw [hSk]; exact hn, hld, hpl⟩
    rw [hSk] at this; rw [e]; exact this
  | none =>
    dsimp only
    have hSk : S k = false := by
      cases hk : S k with
      | false => rfl
      | true => obtain ⟨e, he, hp⟩ := (hmem k).mp hk; have := List.findIdx?_eq_none_iff.mp hr e he; rw [hp] at this; exact Bool.noConfusion this
    have hgw : ∀ (b : Bool) {s₁ : Shared} {Q' : Unit → Shared → Prop}, Q' () s₁ → wpAny (model prog w) A (match b with | true => rule "set.scan.the-table-gave-way" | false => pure ()) Q' E s₁ :=
      fun b s₁ Q' hq => by cases b <;> first | exact wpAny_pure hq | exact wpAny_rule hq
    have hperm := layNew_perm t es ((strKind prog w).hash k) (.str k u)
    have hfits := layNew_fits t es ((strKind prog w).hash k) (.str k u)
    have hledN := layNew_led t es ((strKind prog w).hash k) (.str k u)
    generalize hL : layNew t es ((strKind prog w).hash k) (.str k u) = L at hperm hfits hledN ⊢
    obtain ⟨es1, t1, wasDummy, gave⟩ := L
    dsimp only at hperm hfits hledN ⊢
    rw [Array.toList_push] at hperm
    have hel1 : ElemsOf (strKind prog w) es1.toList := (hel.push hkey hsc).perm hperm
    have hmem1 : ∀ k', (S k' || decide (k' = k)) = true ↔ ∃ e ∈ es1.toList, (strKind prog w).is k' e.2 = true := mem_push_iff hkey hmem hperm
    have hb1' : es1.size < scanBound := by rw [← Array.length_toList, hperm.length_eq, List.length_append, Array.length_toList]; simpa using hb1
    refine wpAny_bind (hgw _ ?_)
    have hsz1 : es1.size = n + 1 := by rw [← Array.length_toList, hperm.length_eq, List.length_append, Array.length_toList, hn]; rfl
    have hend : ∀ h', Heap.SameBut a s.heap h' → SetX prog w h' a (fun k' => S k' || decide (k' = k)) es1.size led → Q true (uH s h') := by
      intro h' hsb hS'; have := h h' hsb; rw [hSk] at this; rw [hsz1] at hS'; exact this hS'
    split
    · refine wpAny_bind ?_
      show wpAny _ _ (pure false) _ _ _
      refine wpAny_pure ?_
      refine setX_tail ?_ ho hex hd hel1 hmem1 hb1' (t2 := { t1 with plain := false }) ?_ (led := led) (hledN.trans hld) rfl ?_
      · intro b s₁ Q' hq; cases b <;> first | exact wpAny_pure hq | exact wpAny_rule hq
      · exact SetTable.fits_plain_off hfits
      · intro h' hsb hS'; dsimp only; exact wpAny_pure (hend h' hsb hS')
    · rename_i hnp
      refine wpAny_bind (wpAny_pure ?_)
      simp only [↓reduceIte]
      refine setX_tail ?_ ho hex hd hel1 hmem1 hb1' hfits (led := led) (hledN.trans hld) (by simpa using hnp) ?_
      · intro b s₁ Q' hq; cases b <;> first | exact wpAny_pure hq | exact wpAny_rule hq
      · intro h' hsb hS'; dsimp only; exact wpAny_pure (hend h' hsb hS')
end
end Mine
end
section
open PySem PySem.W PyProof.Rows PySem.Calls
set_option maxRecDepth 100000
set_option linter.unusedVariables false
namespace Mine
noncomputable abbrev byText (w : World) : Bool := w.params.followText "set-order"
noncomputable def ddL (l : List Str) : List Str := l.foldl (fun acc k => if k ∈ acc then acc else acc ++ [k]) []
theorem ddL_snoc (l : List Str) (k : Str) : ddL (l ++ [k]) = if k ∈ ddL l then ddL l else ddL l ++ [k] := by
  unfold ddL; rw [List.foldl_append]; rfl
theorem ddL_len (l : List Str) : (ddL l).length ≤ l.length := by
  have : ∀ (n : Nat) (l : List Str), l.length = n → (ddL l).length ≤ n := by
    intro n
    induction n with
    | zero => intro l hl; rw [List.length_eq_zero_iff.mp hl]; exact Nat.le_refl _
    | succ n ih =>
      intro l hl
      rcases List.eq_nil_or_concat l with e | ⟨l', x, e⟩
      · rw [e] at hl; cases hl
      · rw [List.concat_eq_append] at e
        subst e
        have := ih l' (by simpa using hl)
        rw [ddL_snoc]
        split
        · lia
        · rw [List.length_append]; simp; lia
  exact this _ l rfl
section
variable {prog : Program} {w : World} {A : Around} {E : Value → Shared → Prop} {s : Shared}
theorem SetX.congr {h : Heap} {a : Addr} {S S' : Str → Bool} {n n' : Nat} {led : Bool} (x : SetX prog w h a S n led) (e : ∀ k, S k = S' k) (e' : n = n') : SetX prog w h a S' n' led := by
  have : S = S' := funext e
  subst this; subst e'; exact x
theorem SetX.at_ {h h' : Heap} {a : Addr} {S : Str → Bool} {n : Nat} {led : Bool} (x : SetX prog w h a S n led) (e : ∀ o, h.get? a = some o → h'.get? a = some o) : SetX prog w h' a S n led := let ⟨o, es, ep, t, a1, r⟩ := x; ⟨o, es, ep, t, e o a1, r⟩
noncomputable def HasX (prog : Program) (w : World) (h : Heap) (a : Addr) (l : List Str) : Prop := SetX prog w h a (fun k => decide (k ∈ ddL l)) (ddL l).length (!(byText w))
theorem set_loop {R : Result → Shared → Prop} {l I D : Addr} {vs : List Value} {ss : List Str} (hh : A.handled = none) (hi : StrsAre vs ss) (hsz : ss.length + 1 < scanBound) :
    ∀ (k i : Nat) (s : Shared), vs.length - i = k → i ≤ vs.length → s.heap.IsListIter I l i → s.heap.IsList l vs.toArray → HasX prog w s.heap D (ss.take i) → D ≠ I → D ≠ l → I ≠ l →
      (∀ h' tk, (∀ b x, b ≠ D → b ≠ I → s.heap.get? b = some x → h'.get? b = some x) → HasX prog w h' D ss → R (.ok (.ret .none)) (uP s h' tk)) →
      codeAny (model prog w) A (.builtin "set.update.loop" ⟨[.ref D, .ref I], []⟩) R s := by
  have hlen : vs.length = ss.length := by clear hsz; induction hi with | nil => rfl | cons _ _ _ ih => simp [ih]
  have hat : ∀ (i : Nat) (v : Value), vs[i]? = some v → ∃ y t, ss[i]? = some y ∧ v = .str y t := by
    clear hsz hlen
    induction hi with
    | nil => intro i v e; simp at e
    | cons y t _ ih =>
      intro i v e
      cases i with
      | zero => simp at e; subst e; exact ⟨y, t, rfl, rfl⟩
      | succ i => simpa using ih i v (by simpa using e)
  intro k
  induction k with
  | zero =>
    intro i s hk hi' hit hl hS n1 n2 n3 hR
    have hin : i = vs.length := by lia
    subst hin
    refine codeAny_builtin PyProof.Rows.F.entry_set_update_loop ?_
    rw [Around.under_plainId PyProof.Rows.F.plain_set_update_loop _]
    show wpAny _ A.in1 (pyNext (.ref I) >>= _) _ _ s
    refine wpAny_bind (wpAny_pyNext_list_end hh hit hl (by simp) fun h' eb => ?_)
    show wpAny _ A.in1 (ret Value.none) _ _ _
    rw [hlen, List.take_length] at hS
    exact wpAny_pure (hR h' s.toks (fun b x _ hb e => eb b x hb e) (hS.at_ fun o e => eb D o n1 e))
  | succ k ih =>
    intro i s hk hi' hit hl hS n1 n2 n3 hR
    have hlt : i < vs.length := by lia
    obtain ⟨y, t, hy, ev⟩ := hat i vs[i] (by simp [hlt])
    refine codeAny_builtin PyProof.Rows.F.entry_set_update_loop ?_
    rw [Around.under_plainId PyProof.Rows.F.plain_set_update_loop _]
    show wpAny _ A.in1 (pyNext (.ref I) >>= _) _ _ s
    refine wpAny_bind (wpAny_pyNext_list_item hit hl (x := vs[i]) (by simp [hlt]) fun h₁ hit₁ hs₁ => ?_)
    rw [ev]
    show wpAny _ A.in1 (holding [Value.str y t] (setAdd D (.str y t)) >>= _) _ _ _
    refine wpAny_bind (wpAny_holding ?_)
    unfold setAdd
    refine wpAny_holding ?_
    refine wpAny_bind ((strKind prog w).pyHash (k := y) (strKind_is prog w y t) ?_)
    have hS₁ : HasX prog w h₁ D (ss.take i) := hS.at_ fun o e => hs₁.extBut D o n1 e
    have hroom : (ddL (ss.take i)).length + 1 < scanBound := by
      have := ddL_len (ss.take i); have := List.length_take_le' i ss; lia
    refine setX_add (s := { s with heap := h₁, toks := s.toks + 1 }) hS₁ hroom fun h₂ hs₂ hS₂ => ?_
    have est : ss.take (i + 1) = ss.take i ++ [y] := by rw [List.take_add_one, hy]; rfl
    have hS₃ : HasX prog w h₂ D (ss.take (i + 1)) := by
      unfold HasX
      rw [est, ddL_snoc]
      refine hS₂.congr (fun k' => ?_) ?_
      · split
        · rename_i hm
          by_cases q : k' = y
          · subst q; simp [hm]
          · simp [q]
        · simp [List.mem_append]
      · by_cases hm : y ∈ ddL (ss.take i)
        · simp [hm]
        · simp [hm]
    have keep : ∀ b x, b ≠ D → b ≠ I → s.heap.get? b = some x → h₂.get? b = some x := fun b x hb hb' e => (hs₂.2 b hb).trans (hs₁.extBut b x hb' e)
    refine wpAny_pure ⟨plainId_quiet PyProof.Rows.F.plain_set_update_loop _, ?_⟩
    refine ih (i + 1) _ (by lia) hlt (hit₁.at fun o e => (hs₂.2 I n1.symm).trans e) (hl.at fun o e => keep l o n2.symm n3.symm e) hS₃ n1 n2 n3 fun h' tk kp hS' => hR h' tk (fun b x hb hb' e => kp b x hb hb' (keep b x hb hb' e)) hS'
end
end Mine
end
section
open PySem PySem.W PyProof.Rows PySem.Calls
set_option maxRecDepth 100000
set_option linter.unusedVariables false
namespace Mine
section
variable {prog : Program} {w : World} {A : Around} {E : Value → Shared → Prop} {s : Shared}
theorem code_set_newX (a : Value) {Q₁ : Value → Shared → Prop}
    (h : Q₁ (.ref s.heap.objs.size) { s with heap := s.heap.push { cls := .type "set", dict := none, data := .set #[] 0 (.fresh 0 0 (!(byText w))) } }) :
    codeAny (model prog w) A (.call (.builtin "set.__new__") ⟨[.type "set", a], []⟩) (wants Q₁ E) s := by
  refine codeAny_of_tree ?_
  show wpAny _ A.in1 (do checkBuiltinCall "set.__new__" ⟨[.type "set", a], []⟩; again (.builtin "set.__new__" ⟨[.type "set", a], []⟩)) _ _ s
  refine wpAny_bind (wpAny_of_eq (PySem.F.newCall_set_1 a) (wpAny_pure ⟨plainId_quiet PySem.F.plain_set_new _, codeAny_builtin PySem.F.entry_set_new ?_⟩))
  rw [Around.under_plainId PySem.F.plain_set_new _]
  unfold Builtin.«set.__new__» Builtin.Frozenset.newClass
  have hsub := sub_set_self
  obtain ⟨hp, g, d, tk, os⟩ := s
  dsimp only
  wp_walk
  refine wpAny_askSetting (wpAny_pure ?_)
  dsimp only
  simp only [newObj]
  refine wpAny_bind (wpAny_alloc (wpAny_pure ?_))
  exact wpAny_pure h
set_option maxHeartbeats 3200000 in
theorem call_setX {l : Addr} {items : Array Value} {ss : List Str} {Q : Value → Shared → Prop}
    (hh : A.handled = none) (hl : s.heap.IsList l items) (hi : StrsAre items.toList ss) (hb : ss.length + 1 < scanBound)
    (h : ∀ (h' : Heap) (tk : Nat), HasX prog w h' s.heap.objs.size ss → (∀ b o, s.heap.get? b = some o → h'.get? b = some o) → Q (.ref s.heap.objs.size) (uP s h' tk)) :
    wpAny (model prog w) A (call (.type "set") [.ref l]) Q E s := by
  obtain ⟨c, tl, hmro⟩ := F.called_set.mro
  have hmade := F.called_set.made
  have hsub := F.called_set.sub
  refine wpAny_call (codeAny_of_tree ?_)
  show wpAny _ _ (callAny (.type "set") _) _ _ _
  refine wpAny_pure ⟨Code.quiet_builtin _ (by decide +kernel), codeAny_builtin F.entry_type_call ?_⟩
  rw [Around.under_plain (weight_type_call_type "set" [.ref l] []) rfl]
  have h1 := F.called_set.notType
  have h2 := F.called_set.canCreate
  have hct := PySem.F.typeCall_set_1 (.ref l)
  repeat (any_goals (first | assumption | wp_step))
  refine codeAny_mono (code_set_newX (.ref l) (E := E) (Q₁ := fun obj s₁ => obj = .ref s.heap.objs.size ∧ s₁ = { s with heap := s.heap.push { cls := .type "set", dict := none, data := .set #[] 0 (.fresh 0 0 (!(byText w))) } }) ⟨rfl, rfl⟩) fun r s₁ hr => ?_
  cases r with
  | error e => exact hr
  | ok fl =>
    cases fl with
    | ret obj =>
      obtain ⟨rfl, rfl⟩ := hr
      have hS : (s.heap.push { cls := .type "set", dict := none, data := .set #[] 0 (.fresh 0 0 (!(byText w))) }).get? s.heap.objs.size = some { cls := .type "set", dict := none, data := .set #[] 0 (.fresh 0 0 (!(byText w))) } := Heap.get?_push_size _ rfl
      have hT : Shared.TypeIs { s with heap := s.heap.push { cls := .type "set", dict := none, data := .set #[] 0 (.fresh 0 0 (!(byText w))) } } (.ref s.heap.objs.size) "set" := ⟨_, hS, rfl⟩
      have hli := F.called_set.init.lookup
      have hbi := F.called_set.init.bind (.ref s.heap.objs.size)
      repeat (any_goals (first | assumption | wp_step))
      refine codeAny_mono (codeAny_call_builtin (R := wants (fun r s₂ => r = .none ∧ ∃ h' tk, s₂ = (uP s h' tk) ∧
          HasX prog w h' s.heap.objs.size ss ∧
          (∀ b o, s.heap.get? b = some o → h'.get? b = some o)) E) F.called_set.init.plain F.entry_set_init (check_set_init_1 hT ?_)) fun r₂ s₂ hr₂ => ?_
      · obtain ⟨ol, hol, hcl, nl, hdl⟩ := hl
        obtain ⟨ocls, odict, odata, oslots⟩ := ol
        simp only at hcl hdl
        subst hcl; subst hdl
        have hol' : (s.heap.push { cls := .type "set", dict := none, data := .set #[] 0 (.fresh 0 0 (!(byText w))) }).get? l = some { cls := .type "list", dict := odict, data := .seq items nl, slots := oslots } := Heap.get?_push_of_some _ hol
        have hsls := PySem.F.sub_list_set
        have hslf := PySem.F.sub_list_frozenset
        have hne : (Value.type "list" == Value.type "dict") = false := by decide
        have hl1 : (s.heap.push { cls := .type "set", dict := none, data := .set #[] 0 (.fresh 0 0 (!(byText w))) }).IsList l items := ⟨_, hol', rfl, nl, rfl⟩
        unfold Builtin.«set.__init__» noKeywords Builtin.Frozenset.updateFrom
        generalize hPI : pyIter = PI
        wp_walk
        subst hPI
        refine wpAny_pyIter_list hl1 ?_
        refine wpAny_bind (wpAny_runValue ?_)
        have hlS : l < s.heap.objs.size := Heap.lt_size hol
        have hneI : (s.heap.push { cls := .type "set", dict := none, data := .set #[] 0 (.fresh 0 0 (!(byText w))) }).objs.size ≠ l := by
          rw [Heap.size_push]; exact Nat.ne_of_gt (Nat.lt_succ_of_lt hlS)
        have hnSI : s.heap.objs.size ≠ (s.heap.push { cls := .type "set", dict := none, data := .set #[] 0 (.fresh 0 0 (!(byText w))) }).objs.size := by
          rw [Heap.size_push]; exact Nat.ne_of_lt (Nat.lt_succ_self _)
        have hget : ((s.heap.push { cls := .type "set", dict := none, data := .set #[] 0 (.fresh 0 0 (!(byText w))) }).push { cls := .type "list_iterator", data := .fields #[.ref l, .int 0 0] }).get? s.heap.objs.size
              = some { cls := .type "set", dict := none, data := .set #[] 0 (.fresh 0 0 (!(byText w))) } := Heap.get?_push_of_some _ hS
        refine set_loop (l := l) (vs := items.toList) (ss := ss) (by simp [hh]) hi hb items.toList.length 0 _ rfl (Nat.zero_le _) ⟨_, Heap.get?_push_size _ rfl, rfl, rfl⟩ (by simpa using hl1.push _) ?_ hnSI (Nat.ne_of_gt hlS) hneI fun h' tk kp hS' => ?_
        · exact ⟨_, #[], 0, _, hget, ⟨rfl, rfl, rfl⟩, rfl, fun e he => by simp at he, fun k => by simp [ddL], by decide, by rfl, rfl, rfl, .inr rfl⟩
        · show wpAny _ _ _ _ _ _
          refine wpAny_pure ?_
          show wpAny _ _ (ret Value.none) _ _ _
          refine wpAny_pure ⟨rfl, h', tk, rfl, hS', fun b o e => ?_⟩
          have hb0 : b < s.heap.objs.size := Heap.lt_size e
          refine kp b o (Nat.ne_of_lt hb0) ?_ (Heap.get?_push_of_some _ (Heap.get?_push_of_some _ e))
          rw [Heap.size_push]; exact Nat.ne_of_lt (Nat.lt_succ_of_lt hb0)
      · cases r₂ with
        | error e => exact hr₂
        | ok fl₂ =>
          cases fl₂ with
          | ret r =>
            obtain ⟨rfl, h', tk, rfl, hS', hk'⟩ := hr₂
            repeat (any_goals (first | assumption | wp_step))
            exact h _ _ hS' hk'
          | _ => exact hr₂.elim
    | _ => exact hr.elim
end
end Mine
end
section
open PySem PySem.W PyProof.Rows PySem.Calls
set_option maxRecDepth 100000
set_option linter.unusedVariables false
namespace Mine
theorem slot_setit_next : Slot "set_iterator" "__next__" "set_iterator.__next__" :=
  .of (owner := "set_iterator") (n := "__next__") (by rw [typeLookup_type, builtinLookup_eq_fast]; kernel_rfl) (by decide +kernel) (by decide +kernel) (by decide +kernel)
    (by first | exact .inl (by decide +kernel) | exact .inr (by decide +kernel)) (by rw [isSubtype_type]; kernel_rfl)
theorem entry_setit_next : entryFor table "set_iterator.__next__" = some Builtin.«set_iterator.__next__» := entryFor_of_tree (by kernel_rfl)
theorem owner_setit : Manifest.owners.lookup (String.ofList ['r', 'o', 't', 'a', 'r', 'e', 't', 'i', '_', 't', 'e', 's'].reverse) = some Manifest.sig_set_iterator := by kernel_rfl
theorem args_setit_next (a : Value) : argsOk "set_iterator.__next__" ⟨[a], []⟩ := by
  unfold argsOk; rw [signature?_of (id := "set_iterator.__next__") (n := ['_', '_', 't', 'x', 'e', 'n', '_', '_']) (o := ['r', 'o', 't', 'a', 'r', 'e', 't', 'i', '_', 't', 'e', 's']) (by kernel_rfl) owner_setit]; kernel_rfl
theorem slot_setit_iter : Slot "set_iterator" "__iter__" "set_iterator.__iter__" :=
  .of (owner := "set_iterator") (n := "__iter__") (by rw [typeLookup_type, builtinLookup_eq_fast]; kernel_rfl) (by decide +kernel) (by decide +kernel) (by decide +kernel)
    (by first | exact .inl (by decide +kernel) | exact .inr (by decide +kernel)) (by rw [isSubtype_type]; kernel_rfl)
theorem entry_setit_iter : entryFor table "set_iterator.__iter__" = some Builtin.«dict_keyiterator.__iter__» :=
  entryFor_alias (id' := "dict_keyiterator.__iter__") (by kernel_rfl) rfl (by decide +kernel) (by kernel_rfl)
theorem args_setit_iter (a : Value) : argsOk "set_iterator.__iter__" ⟨[a], []⟩ := by
  unfold argsOk; rw [signature?_of (id := "set_iterator.__iter__") (n := ['_', '_', 'r', 'e', 't', 'i', '_', '_']) (o := ['r', 'o', 't', 'a', 'r', 'e', 't', 'i', '_', 't', 'e', 's']) (by kernel_rfl) owner_setit]; kernel_rfl
theorem entry_set_iter : entryFor table "set.__iter__" = some Builtin.«frozenset.__iter__» :=
  entryFor_alias (id' := "frozenset.__iter__") (by kernel_rfl) rfl (by decide +kernel) (by kernel_rfl)
noncomputable def SetIt (h : Heap) (I a : Addr) (first : Value) (i n ep : Nat) : Prop := ∃ o, h.get? I = some o ∧ o.cls = .type "set_iterator" ∧ o.data = .fields #[first, .int i 0, .ref a, .int n 0, .int ep 0]
theorem SetIt.typeIs {s : Shared} {I a : Addr} {f : Value} {i n ep : Nat} (x : SetIt s.heap I a f i n ep) : s.TypeIs (.ref I) "set_iterator" := let ⟨o, ho, hc, _⟩ := x; ⟨o, ho, hc⟩
theorem SetIt.at {h h' : Heap} {I a : Addr} {f : Value} {i n ep : Nat} (x : SetIt h I a f i n ep) (e : ∀ o, h.get? I = some o → h'.get? I = some o) : SetIt h' I a f i n ep := let ⟨o, ho, r⟩ := x; ⟨o, e _ ho, r⟩
noncomputable def SetStay (h : Heap) (a : Addr) (es : Array (Int × Value)) (ep : Nat) (t : SetTable) : Prop := ∃ o, h.get? a = some o ∧ o.ExactSet ∧ o.data = .set es ep t ∧ t.fits es.size = true
theorem SetStay.at {h h' : Heap} {a : Addr} {es : Array (Int × Value)} {ep : Nat} {t : SetTable} (x : SetStay h a es ep t) (e : ∀ o, h.get? a = some o → h'.get? a = some o) : SetStay h' a es ep t := let ⟨o, ho, r⟩ := x; ⟨o, e _ ho, r⟩
section
variable {prog : Program} {w : World} {A : Around} {E : Value → Shared → Prop} {s : Shared} {I a : Addr} {es : Array (Int × Value)} {i ep : Nat} {t : SetTable} {f : Value}
theorem SetStay.typeIs (x : SetStay s.heap a es ep t) : s.TypeIs (.ref a) "set" := let ⟨o, ho, hc, _⟩ := x; ⟨o, ho, hc.1⟩
theorem setit_self {n : Nat} {Q : Value → Shared → Prop} (hit : SetIt s.heap I a f i n ep) (h : Q (.ref I) s) : wpAny (model prog w) A (pyIter (.ref I)) Q E s := by
  refine wpAny_pyIter_slot hit.typeIs slot_setit_iter (wpAny_call_entry slot_setit_iter hit.typeIs entry_setit_iter ?_ (args_setit_iter _))
  show wpAny _ _ (ret (.ref I)) _ _ s
  exact wpAny_pure ⟨_, rfl, "set_iterator", _, hit.typeIs, slot_setit_next.lookup, h⟩
theorem setit_item {slot nx : Nat} {x : Value} {Q : Option Value → Shared → Prop} (hit : SetIt s.heap I a (.int slot 0) i es.size ep) (hst : SetStay s.heap a es ep t)
    (hn : ∀ (E' : Value → Shared → Prop) (Q' : Option (Value × Nat) → Shared → Prop), Q' (some (x, nx)) s → wpAny (model prog w) A.in1 (setNext a slot i ep) Q' E' s)
    (hQ : ∀ h', SetIt h' I a (.int nx 0) (i + 1) es.size ep → Heap.SameBut I s.heap h' → Q (some x) (uH s h')) :
    wpAny (model prog w) A (pyNext (.ref I)) Q E s := by
  obtain ⟨o, ho, hc, hd⟩ := id hit
  obtain ⟨oa, hoa, hex, hda, hf⟩ := id hst
  unfold pyNext
  refine wpAny_bind (wpAny_attempt (wpAny_callSpecial?_slot (name := Str.ofString "__next__") hit.typeIs slot_setit_next
    (wpAny_call_entry slot_setit_next hit.typeIs entry_setit_next ?_ (args_setit_next _))))
  unfold Builtin.«set_iterator.__next__»
  refine wpAny_bind (wpAny_pure ?_)
  refine wpAny_bind (wpAny_fieldsOf ho hd ?_)
  dsimp only
  refine wpAny_bind ?_
  unfold setEntries
  refine wpAny_bind (wpAny_setState_of hoa hda hf (wpAny_pure ?_))
  dsimp only
  rw [if_neg (by simp)]
  simp only [Int.toNat_natCast]
  refine wpAny_bind (hn _ _ ?_)
  dsimp only
  refine wpAny_bind (wpAny_setField ho hd (by simp) ?_)
  have h1 := Heap.get?_update_self (Obj.mapFields (·.setIfInBounds 0 (rawInt (nx : Int)))) ho (Obj.isFreed_of_fields (Obj.data_mapFields hd _))
  have d1 : (Obj.mapFields (·.setIfInBounds 0 (rawInt (nx : Int))) o).data = .fields #[rawInt (nx : Int), .int i 0, .ref a, .int es.size 0, .int ep 0] := by rw [Obj.data_mapFields hd]; rfl
  refine wpAny_bind (wpAny_setField (s := uH s _) h1 d1 (by simp) ?_)
  have h2 := Heap.get?_update_self (Obj.mapFields (·.setIfInBounds 1 (rawInt ((i : Int) + 1)))) h1 (Obj.isFreed_of_fields (Obj.data_mapFields d1 _))
  exact wpAny_pure ⟨_, rfl, wpAny_pure (hQ _ ⟨_, h2, (Obj.cls_mapFields ..).trans ((Obj.cls_mapFields ..).trans hc), by rw [Obj.data_mapFields d1]; simp [rawInt]⟩ ((Heap.SameBut.update ..).trans (Heap.SameBut.update ..)))⟩
theorem setit_end {slot : Nat} {Q : Option Value → Shared → Prop} (hh : A.handled = none) (hit : SetIt s.heap I a (.int slot 0) i es.size ep) (hst : SetStay s.heap a es ep t)
    (hn : ∀ (E' : Value → Shared → Prop) (Q' : Option (Value × Nat) → Shared → Prop), Q' none s → wpAny (model prog w) A.in1 (setNext a slot i ep) Q' E' s)
    (hQ : ∀ h', Heap.ExtBut I s.heap h' → Q none (uH s h')) :
    wpAny (model prog w) A (pyNext (.ref I)) Q E s := by
  obtain ⟨o, ho, hc, hd⟩ := id hit
  obtain ⟨oa, hoa, hex, hda, hf⟩ := id hst
  unfold pyNext
  refine wpAny_bind (wpAny_attempt (wpAny_callSpecial?_slot (name := Str.ofString "__next__") hit.typeIs slot_setit_next
    (wpAny_call_entry slot_setit_next hit.typeIs entry_setit_next ?_ (args_setit_next _))))
  unfold Builtin.«set_iterator.__next__»
  refine wpAny_bind (wpAny_pure ?_)
  refine wpAny_bind (wpAny_fieldsOf ho hd ?_)
  dsimp only
  refine wpAny_bind ?_
  unfold setEntries
  refine wpAny_bind (wpAny_setState_of hoa hda hf (wpAny_pure ?_))
  dsimp only
  rw [if_neg (by simp)]
  simp only [Int.toNat_natCast]
  refine wpAny_bind (hn _ _ ?_)
  dsimp only
  refine wpAny_bind (wpAny_setField ho hd (by simp) ?_)
  refine wpAny_bind ?_
  simp only [newExc, newTuple]
  refine wpAny_bind (wpAny_newObj_type ?_ (by size_fits))
  refine wpAny_bind (m := firstArgMember _ _) (wpAny_of_eq (a := Value.none) (by first | rfl | (simp only [firstArgMember]; rfl)) ?_)
  refine wpAny_newObj_type ?_ (by size_fits)
  simp only [raiseNew]
  refine wpAny_bind (wpAny_handled ?_)
  rw [show A.in1.handled = none from hh]
  refine wpAny_bind (wpAny_pure (wpAny_throw ?_))
  refine wpAny_bind (wpAny_isInstance (T := "StopIteration") (b := true) ⟨_, Heap.get?_push_size _ rfl, rfl⟩ isSubtype_stop ?_)
  exact wpAny_pure (hQ _ (((Heap.SameBut.update ..).extBut.push _).push _))
theorem setit_itemD {T : Addr} {pl : Array Value} {p : Nat} {hx : Int × Value} {Q : Option Value → Shared → Prop} (hit : SetIt s.heap I a (.ref T) i es.size ep) (hst : SetStay s.heap a es ep t) (hT : s.heap.IsTuple T pl)
    (hp : pl[i]? = some (.int (p : Nat) 0)) (he : es[p]? = some hx)
    (hQ : ∀ h', SetIt h' I a (.ref T) (i + 1) es.size ep → Heap.SameBut I s.heap h' → Q (some hx.2) (uH s h')) :
    wpAny (model prog w) A (pyNext (.ref I)) Q E s := by
  obtain ⟨o, ho, hc, hd⟩ := id hit
  obtain ⟨oa, hoa, hex, hda, hf⟩ := id hst
  obtain ⟨oT, hoT, hcT, nT, hdT⟩ := id hT
  unfold pyNext
  refine wpAny_bind (wpAny_attempt (wpAny_callSpecial?_slot (name := Str.ofString "__next__") hit.typeIs slot_setit_next
    (wpAny_call_entry slot_setit_next hit.typeIs entry_setit_next ?_ (args_setit_next _))))
  unfold Builtin.«set_iterator.__next__»
  refine wpAny_bind (wpAny_pure ?_)
  refine wpAny_bind (wpAny_fieldsOf ho hd ?_)
  dsimp only
  refine wpAny_bind ?_
  unfold setEntries
  refine wpAny_bind (wpAny_setState_of hoa hda hf (wpAny_pure ?_))
  dsimp only
  rw [if_neg (by simp)]
  simp only [Int.toNat_natCast]
  refine wpAny_bind (wpAny_seqItems hoT hdT ?_)
  dsimp only
  rw [hp]
  dsimp only
  refine wpAny_bind ?_
  unfold setNextDrawn
  refine wpAny_bind (wpAny_setState_of hoa hda hf ?_)
  dsimp only
  rw [if_neg (by simp)]
  refine wpAny_bind (wpAny_pure ?_)
  simp only [Int.toNat_natCast, he]
  refine wpAny_pure ?_
  refine wpAny_bind (wpAny_setField ho hd (by simp) ?_)
  have h1 := Heap.get?_update_self (Obj.mapFields (·.setIfInBounds 1 (rawInt ((i : Int) + 1)))) ho (Obj.isFreed_of_fields (Obj.data_mapFields hd _))
  exact wpAny_pure ⟨_, rfl, wpAny_pure (hQ _ ⟨_, h1, (Obj.cls_mapFields ..).trans hc, by rw [Obj.data_mapFields hd]; simp [rawInt]⟩ (Heap.SameBut.update ..))⟩
theorem setit_endD {T : Addr} {pl : Array Value} {Q : Option Value → Shared → Prop} (hh : A.handled = none) (hit : SetIt s.heap I a (.ref T) i es.size ep) (hst : SetStay s.heap a es ep t) (hT : s.heap.IsTuple T pl)
    (hp : pl[i]? = none)
    (hQ : ∀ h', Heap.ExtBut I s.heap h' → Q none (uH s h')) :
    wpAny (model prog w) A (pyNext (.ref I)) Q E s := by
  obtain ⟨o, ho, hc, hd⟩ := id hit
  obtain ⟨oa, hoa, hex, hda, hf⟩ := id hst
  obtain ⟨oT, hoT, hcT, nT, hdT⟩ := id hT
  unfold pyNext
  refine wpAny_bind (wpAny_attempt (wpAny_callSpecial?_slot (name := Str.ofString "__next__") hit.typeIs slot_setit_next
    (wpAny_call_entry slot_setit_next hit.typeIs entry_setit_next ?_ (args_setit_next _))))
  unfold Builtin.«set_iterator.__next__»
  refine wpAny_bind (wpAny_pure ?_)
  refine wpAny_bind (wpAny_fieldsOf ho hd ?_)
  dsimp only
  refine wpAny_bind ?_
  unfold setEntries
  refine wpAny_bind (wpAny_setState_of hoa hda hf (wpAny_pure ?_))
  dsimp only
  rw [if_neg (by simp)]
  simp only [Int.toNat_natCast]
  refine wpAny_bind (wpAny_seqItems hoT hdT ?_)
  dsimp only
  rw [hp]
  dsimp only
  refine wpAny_bind (wpAny_setField ho hd (by simp) ?_)
  have h1 := Heap.get?_update_self (Obj.mapFields (·.setIfInBounds 0 (rawInt 0))) ho (Obj.isFreed_of_fields (Obj.data_mapFields hd _))
  have d1 : (Obj.mapFields (·.setIfInBounds 0 (rawInt 0)) o).data = .fields #[rawInt 0, .int i 0, .ref a, .int es.size 0, .int ep 0] := by rw [Obj.data_mapFields hd]; rfl
  refine wpAny_bind (wpAny_setField (s := uH s _) h1 d1 (by simp) ?_)
  refine wpAny_bind ?_
  simp only [newExc, newTuple]
  refine wpAny_bind (wpAny_newObj_type ?_ (by size_fits))
  refine wpAny_bind (m := firstArgMember _ _) (wpAny_of_eq (a := Value.none) (by first | rfl | (simp only [firstArgMember]; rfl)) ?_)
  refine wpAny_newObj_type ?_ (by size_fits)
  simp only [raiseNew]
  refine wpAny_bind (wpAny_handled ?_)
  rw [show A.in1.handled = none from hh]
  refine wpAny_bind (wpAny_pure (wpAny_throw ?_))
  refine wpAny_bind (wpAny_isInstance (T := "StopIteration") (b := true) ⟨_, Heap.get?_push_size _ rfl, rfl⟩ isSubtype_stop ?_)
  exact wpAny_pure (hQ _ ((((Heap.SameBut.update ..).trans (Heap.SameBut.update ..)).extBut.push _).push _))
end
end Mine
end
section
open PySem PySem.W PyProof.Rows PySem.Calls
set_option maxRecDepth 100000
set_option linter.unusedVariables false
namespace Mine
theorem cons_erase {α : Type} : ∀ (l : List α) (i : Nat) (h : i < l.length), (l[i] :: l.eraseIdx i).Perm l
  | x :: l, 0, _ => List.Perm.refl _
  | x :: l, i + 1, h => (List.Perm.swap x _ _).trans ((cons_erase l i (by simpa using h)).cons x)
theorem pickGo_perm {α : Type} (next : Nat → Nat) : ∀ (n k : Nat) (left : List α) (out : Array α), left.length = n → (pickOrder.go next n k left out).toList.Perm (out.toList ++ left)
  | 0, k, left, out, h => by
    have : left = [] := List.length_eq_zero_iff.mp h
    subst this; simp [pickOrder.go]
  | n + 1, k, left, out, h => by
    have hlt : next k % left.length < left.length := Nat.mod_lt _ (by lia)
    unfold pickOrder.go
    rw [List.getElem?_eq_getElem hlt]
    dsimp only
    refine (pickGo_perm next n (k + 1) _ _ (by rw [List.length_eraseIdx_of_lt hlt]; lia)).trans ?_
    rw [Array.toList_push, List.append_assoc]
    refine List.Perm.append_left _ ?_
    exact cons_erase _ _ hlt
theorem pickOrder_perm {α : Type} (next : Nat → Nat) (xs : Array α) : (pickOrder next xs).toList.Perm xs.toList := by
  have := pickGo_perm next xs.size 0 xs.toList #[] (by simp)
  simpa [pickOrder] using this
section
variable {prog : Program} {w : World} {A : Around} {E : Value → Shared → Prop} {s : Shared} {I a : Addr} {es : Array (Int × Value)} {i ep : Nat} {t : SetTable} {f : Value}
theorem wpAny_chooseX {src : Source} {n : Nat} {Q : Nat → Shared → Prop} (hn : n ≠ 0) (h : ∀ x d, x < n → Q x { s with drawn := d }) : wpAny (model prog w) A (choose src n) Q E s := by
  intro Γ p hΓ
  show Sem.wp _ _ (.choose src n .pure) _ _ _ _
  rw [Sem.wp_choose]
  exact ⟨hn, h _ _ (Nat.mod_lt _ (Nat.pos_of_ne_zero hn))⟩
theorem wpAny_drawOrder {α : Type} : ∀ (n : Nat) (xs : List α) (s : Shared) {Q : List α → Shared → Prop}, xs.length = n → (∀ ys d, ys.Perm xs → Q ys { s with drawn := d }) → wpAny (model prog w) A (drawOrder n xs) Q E s
  | 0, xs, s, Q, hl, h => by
    have : xs = [] := List.length_eq_zero_iff.mp hl
    subst this
    exact wpAny_pure (h [] s.drawn (List.Perm.refl _))
  | n + 1, [], s, Q, hl, h => by simp at hl
  | n + 1, x :: xs, s, Q, hl, h => by
    unfold drawOrder
    refine wpAny_bind (wpAny_chooseX (by simp) fun i d hi => ?_)
    rw [List.getElem?_eq_getElem hi]
    dsimp only
    refine wpAny_bind (wpAny_drawOrder n ((x :: xs).eraseIdx i) _ (by rw [List.length_eraseIdx_of_lt hi]; simp at hl ⊢; lia) fun ys d' hp => ?_)
    refine wpAny_pure ?_
    exact h _ d' ((hp.cons _).trans (cons_erase _ _ hi))
theorem setNext_text (hT : byText w = true) (hst : SetStay s.heap a es ep t) {slot i : Nat} {Q : Option (Value × Nat) → Shared → Prop} (h : Q ((pickOrder (w.params.setOrder a ep) es)[i]?.map fun e => (e.2, slot)) s) :
    wpAny (model prog w) A (setNext a slot i ep) Q E s := by
  obtain ⟨oa, hoa, hex, hda, hf⟩ := id hst
  unfold setNext
  refine wpAny_bind (wpAny_setState_of hoa hda hf ?_)
  dsimp only
  refine wpAny_bind ?_
  unfold setsByText
  refine wpAny_bind (wpAny_askSetting (wpAny_pure ?_))
  show wpAny _ _ (if byText w = true then _ else _) _ _ _
  rw [if_pos hT, if_neg (by simp)]
  refine wpAny_bind ?_
  unfold setWalk
  refine wpAny_bind (wpAny_setState_of hoa hda hf ?_)
  dsimp only
  refine wpAny_bind ?_
  unfold setsByText
  refine wpAny_bind (wpAny_askSetting (wpAny_pure ?_))
  show wpAny _ _ (if byText w = true then _ else _) _ _ _
  rw [if_pos hT]
  refine wpAny_bind (wpAny_askSetting (wpAny_pure ?_))
  exact wpAny_pure h
theorem setNext_one (hT : byText w = false) (hst : SetStay s.heap a es ep t) (hn : es.size ≤ 1) (hl : t.led = true) {slot i : Nat} {Q : Option (Value × Nat) → Shared → Prop}
    (h : Q (match es[SetTable.below t.place slot]?, t.place[SetTable.below t.place slot]? with
      | some (_, x), some j => some (x, j + 1)
      | _, _ => none) s) :
    wpAny (model prog w) A (setNext a slot i ep) Q E s := by
  obtain ⟨oa, hoa, hex, hda, hf⟩ := id hst
  unfold setNext
  refine wpAny_bind (wpAny_setState_of hoa hda hf ?_)
  dsimp only
  refine wpAny_bind ?_
  unfold setsByText
  refine wpAny_bind (wpAny_askSetting (wpAny_pure ?_))
  show wpAny _ _ (if byText w = true then _ else _) _ _ _
  rw [if_neg (by rw [hT]; decide)]
  refine wpAny_ite_split (fun hd => absurd hd ?_) (fun _ => ?_)
  · show ¬ ((!t.plain && decide (es.size > 1)) = true)
    simp [show ¬ es.size > 1 from Nat.not_lt.mpr hn]
  refine wpAny_bind ?_
  refine wpAny_mono (Q := fun _ s' => s' = s) (E := fun _ _ => False) (show wpAny _ _ (if (!t.led && !es.isEmpty) = true then unsupported "set:maker-not-led" else pure ()) _ _ _ from ?_) (fun _ s' e => ?_) (fun _ _ e => e.elim)
  · rw [if_neg (by simp [hl])]; exact wpAny_pure rfl
  · subst e; exact wpAny_pure h
end
end Mine
end
section
open PySem PySem.W PyProof.Rows PySem.Calls
set_option maxRecDepth 100000
set_option linter.unusedVariables false
namespace Mine
theorem perm_of_sub : ∀ {D L : List Str}, D.Nodup → (∀ x ∈ D, x ∈ L) → L.length = D.length → L.Perm D
  | [], L, _, _, hl => by rw [List.length_eq_zero_iff.mp hl]
  | x :: D, L, hn, hs, hl => by
    have hx : x ∈ L := hs x (.head _)
    have hn' := List.nodup_cons.mp hn
    refine (List.perm_cons_erase hx).trans (List.Perm.cons x ?_)
    refine perm_of_sub hn'.2 (fun y hy => ?_) (by rw [List.length_erase_of_mem hx, hl]; simp)
    have hne : y ≠ x := fun e => hn'.1 (e ▸ hy)
    exact (List.mem_erase_of_ne hne).mpr (hs y (.tail _ hy))
theorem ddL_nodup (l : List Str) : (ddL l).Nodup := by
  have : ∀ (n : Nat) (l : List Str), l.length = n → (ddL l).Nodup := by
    intro n
    induction n with
    | zero => intro l hl; rw [List.length_eq_zero_iff.mp hl]; exact List.nodup_nil
    | succ n ih =>
      intro l hl
      obtain ⟨l', k, rfl⟩ : ∃ l' k, l = l' ++ [k] := by
        have hne : l ≠ [] := by intro e; simp [e] at hl
        exact ⟨l.dropLast, l.getLast hne, (List.dropLast_concat_getLast hne).symm⟩
      rw [ddL_snoc]
      have h1 := ih l' (by simpa using hl)
      split
      · exact h1
      · rename_i hk
        rw [List.nodup_append]
        refine ⟨h1, by simp, ?_⟩
        intro x hx y hy e
        simp at hy
        exact hk (hy ▸ e ▸ hx)
  exact this _ l rfl
noncomputable def strOfV : Value → Str
  | .str k _ => k
  | _ => default
theorem strs_of_all : ∀ {vs : List Value}, (∀ v ∈ vs, ∃ k t, v = Value.str k t) → StrsAre vs (vs.map strOfV)
  | [], _ => .nil
  | v :: vs, h => by
    obtain ⟨k, t, rfl⟩ := h v (.head _)
    exact .cons k t (strs_of_all fun u hu => h u (.tail _ hu))
theorem strs_all {vs : List Value} {ks : List Str} (h : StrsAre vs ks) : (∀ v ∈ vs, ∃ k t, v = Value.str k t) ∧ ks = vs.map strOfV := by
  induction h with
  | nil => exact ⟨fun v hv => by simp at hv, rfl⟩
  | cons y tk _ ih => exact ⟨fun v hv => by rcases List.mem_cons.mp hv with rfl | hv; exact ⟨_, _, rfl⟩; exact ih.1 v hv, by rw [List.map_cons, ← ih.2]; rfl⟩
theorem strs_perm {vs us : List Value} {ks : List Str} (h : StrsAre vs ks) (p : us.Perm vs) : ∃ ks', StrsAre us ks' ∧ ks'.Perm ks := by
  obtain ⟨h1, rfl⟩ := strs_all h
  exact ⟨us.map strOfV, strs_of_all fun v hv => h1 v (p.mem_iff.mp hv), p.map _⟩
section
variable {prog : Program} {w : World} {A : Around} {E : Value → Shared → Prop} {s : Shared} {I a : Addr} {es : Array (Int × Value)} {i ep : Nat} {t : SetTable} {f : Value}
theorem setX_strs {h : Heap} {ss : List Str} (hX : HasX prog w h a ss) : Ex4 fun es ep t ks => SetStay h a es ep t ∧ StrsAre (es.toList.map (·.2)) ks ∧ ks.Perm (ddL ss) ∧ t.led = !(byText w) ∧ (t.plain = false ∨ es.size = 0) ∧ es.size < scanBound := by
  obtain ⟨o, es, ep, t, ho, hex, hd, hel, hmem, hb, hf, hn, hld, hpl⟩ := hX
  have hall : ∀ v ∈ es.toList.map (·.2), ∃ k t, v = Value.str k t := by
    intro v hv
    obtain ⟨e, he, rfl⟩ := List.mem_map.mp hv
    obtain ⟨⟨k, hk, _⟩, _⟩ := hel e he
    obtain ⟨tt, e2⟩ := Value.isStrOf_shape hk
    exact ⟨k, tt, e2⟩
  refine ⟨es, ep, t, _, ⟨o, ho, hex, hd, hf⟩, strs_of_all hall, ?_, hld, hpl, hb⟩
  refine perm_of_sub (ddL_nodup ss) (fun x hx => ?_) (by rw [List.length_map, List.length_map, Array.length_toList, hn])
  obtain ⟨e, he, hk⟩ := (hmem x).mp (by simpa using hx)
  refine List.mem_map.mpr ⟨e.2, List.mem_map.mpr ⟨e, he, rfl⟩, ?_⟩
  obtain ⟨k', tt, e2⟩ := hall e.2 (List.mem_map.mpr ⟨e, he, rfl⟩)
  rw [e2] at hk ⊢
  exact (strKind prog w).inj _ _ _ (strKind_is prog w k' tt) hk
theorem walks_text (hT : byText w = true) (hh : A.handled = none) (I a : Addr) (hne : a ≠ I) (es : Array (Int × Value)) (ep : Nat) (t : SetTable) :
    Walks prog w A I [I, a] [I] es.size (fun i v => ((pickOrder (w.params.setOrder a ep) es).toList.map (·.2))[i]? = some v) (fun i h => (∃ slot : Nat, SetIt h I a (.int slot 0) i es.size ep) ∧ SetStay h a es ep t) where
  sub := fun b hb => by simp at hb; simp [hb]
  frame := fun _ _ _ st hk => ⟨let ⟨sl, x⟩ := st.1; ⟨sl, x.at fun o e => hk I (by simp) o e⟩, st.2.at fun o e => hk a (by simp) o e⟩
  item := fun i s Q E hi st hQ => by
    obtain ⟨⟨slot, hit⟩, hst⟩ := st
    have hlen : i < (pickOrder (w.params.setOrder a ep) es).size := by
      rw [← Array.length_toList, (pickOrder_perm _ _).length_eq, Array.length_toList]; exact hi
    have he : (pickOrder (w.params.setOrder a ep) es)[i]? = some ((pickOrder (w.params.setOrder a ep) es)[i]) := Array.getElem?_eq_getElem hlen
    refine setit_item hit hst (x := ((pickOrder (w.params.setOrder a ep) es)[i]).2) (nx := slot) (fun E' Q' hq => setNext_text hT hst (by rw [he]; exact hq)) fun h' hit' hs' => ?_
    refine hQ _ h' s.toks ?_ ⟨⟨slot, hit'⟩, hst.at fun o e => hs'.extBut a o hne e⟩ fun b o hb e => hs'.extBut b o (fun h => hb (by simp [h])) e
    rw [List.getElem?_map, Array.getElem?_toList, he]; rfl
  done := fun s Q E st hQ => by
    obtain ⟨⟨slot, hit⟩, hst⟩ := st
    have hlen : (pickOrder (w.params.setOrder a ep) es).size ≤ es.size := by
      rw [← Array.length_toList, (pickOrder_perm _ _).length_eq, Array.length_toList]; exact Nat.le_refl _
    exact setit_end hh hit hst (fun E' Q' hq => setNext_text hT hst (by rw [Array.getElem?_eq_none hlen]; exact hq)) fun h' he' => hQ h' s.toks fun b o hb e => he' b o (fun h => hb (by simp [h])) e
  self := fun _ _ _ _ st hQ => let ⟨_, x⟩ := st.1; setit_self x hQ
theorem walks_drawn (hh : A.handled = none) (I a T : Addr) (hne : a ≠ I) (hnT : T ≠ I) (es : Array (Int × Value)) (ep : Nat) (t : SetTable) (ps : List Nat) (hps : ps.length = es.size) (hlt : ∀ p ∈ ps, p < es.size) :
    Walks prog w A I [I, a, T] [I] es.size (fun i v => (ps.map fun p => (es.getD p (0, .none)).2)[i]? = some v)
      (fun i h => (SetIt h I a (.ref T) i es.size ep) ∧ SetStay h a es ep t ∧ h.IsTuple T (ps.map fun (p : Nat) => rawInt p).toArray) where
  sub := fun b hb => by simp at hb; simp [hb]
  frame := fun _ _ _ st hk => ⟨st.1.at fun o e => hk I (by simp) o e, st.2.1.at fun o e => hk a (by simp) o e, let ⟨o, ho, x⟩ := st.2.2; ⟨o, hk T (by simp) o ho, x⟩⟩
  item := fun i s Q E hi st hQ => by
    obtain ⟨hit, hst, hT⟩ := st
    have hi' : i < ps.length := by rw [hps]; exact hi
    have hpi : ps[i] < es.size := hlt _ (List.getElem_mem _)
    refine setit_itemD hit hst hT (p := ps[i]) (hx := es[ps[i]]) (by simp [rawInt, hi']) (Array.getElem?_eq_getElem hpi) fun h' hit' hs' => ?_
    refine hQ _ h' s.toks ?_ ⟨hit', hst.at fun o e => hs'.extBut a o hne e, let ⟨o, ho, x⟩ := hT; ⟨o, hs'.extBut T o hnT ho, x⟩⟩ fun b o hb e => hs'.extBut b o (fun h => hb (by simp [h])) e
    rw [List.getElem?_map, List.getElem?_eq_getElem hi']
    simp [Array.getD, hpi]
  done := fun s Q E st hQ => by
    obtain ⟨hit, hst, hT⟩ := st
    exact setit_endD hh hit hst hT (by simp [hps]) fun h' he' => hQ h' s.toks fun b o hb e => he' b o (fun h => hb (by simp [h])) e
  self := fun _ _ _ _ st hQ => setit_self st.1 hQ
theorem below_one {p : Array Nat} (h : p.size ≤ 1) (j : Nat) : SetTable.below p j = if h : 0 < p.size then (if p[0] < j then 1 else 0) else 0 := by
  match p, h with
  | ⟨[]⟩, _ => rfl
  | ⟨[x]⟩, _ =>
    unfold SetTable.below
    show SetTable.below.go ⟨[x]⟩ j 1 0 1 = _
    unfold SetTable.below.go
    simp only [Nat.lt_add_one, ↓reduceIte]
    show (if x < j then SetTable.below.go ⟨[x]⟩ j 0 1 1 else SetTable.below.go ⟨[x]⟩ j 0 0 0) = if x < j then 1 else 0
    rfl
theorem walks_one (hT : byText w = false) (hh : A.handled = none) (I a : Addr) (hne : a ≠ I) (es : Array (Int × Value)) (ep : Nat) (t : SetTable) (hn : es.size ≤ 1) (hl : t.led = true) :
    Walks prog w A I [I, a] [I] es.size (fun i v => (es.toList.map (·.2))[i]? = some v) (fun i h => (∃ slot : Nat, SetIt h I a (.int slot 0) i es.size ep ∧ SetTable.below t.place slot = i) ∧ SetStay h a es ep t) where
  sub := fun b hb => by simp at hb; simp [hb]
  frame := fun _ _ _ st hk => ⟨let ⟨sl, x, y⟩ := st.1; ⟨sl, x.at fun o e => hk I (by simp) o e, y⟩, st.2.at fun o e => hk a (by simp) o e⟩
  item := fun i s Q E hi st hQ => by
    obtain ⟨⟨slot, hit, hb⟩, hst⟩ := st
    have hp : t.place.size = es.size := by
      obtain ⟨o, _, _, _, hf⟩ := id hst
      simp only [SetTable.fits, Bool.and_eq_true, beq_iff_eq] at hf
      exact hf.1
    have hi0 : i = 0 := by lia
    subst hi0
    have hp0 : 0 < t.place.size := by lia
    refine setit_item hit hst (x := (es[0]).2) (nx := t.place[0] + 1) (fun E' Q' hq => setNext_one hT hst hn hl (by rw [hb, Array.getElem?_eq_getElem hi, Array.getElem?_eq_getElem hp0]; exact hq)) fun h' hit' hs' => ?_
    refine hQ _ h' s.toks ?_ ⟨⟨_, hit', ?_⟩, hst.at fun o e => hs'.extBut a o hne e⟩ fun b o hb e => hs'.extBut b o (fun h => hb (by simp [h])) e
    · rw [List.getElem?_map, Array.getElem?_toList, Array.getElem?_eq_getElem hi]; rfl
    · rw [below_one (by lia), dif_pos hp0, if_pos (Nat.lt_succ_self _)]
  done := fun s Q E st hQ => by
    obtain ⟨⟨slot, hit, hb⟩, hst⟩ := st
    exact setit_end hh hit hst (fun E' Q' hq => setNext_one hT hst hn hl (by rw [hb, Array.getElem?_eq_none (Nat.le_refl _)]; exact hq)) fun h' he' => hQ h' s.toks fun b o hb e => he' b o (fun h => hb (by simp [h])) e
  self := fun _ _ _ _ st hQ => let ⟨_, x, _⟩ := st.1; setit_self x hQ
end
end Mine
end
section
open PySem PySem.W PyProof.Rows PySem.Calls
set_option maxRecDepth 100000
set_option linter.unusedVariables false
namespace Mine
section
variable {prog : Program} {w : World} {A : Around} {E : Value → Shared → Prop} {s : Shared} {I a : Addr} {es : Array (Int × Value)} {i ep : Nat} {t : SetTable} {f : Value}
noncomputable def SetWalks (prog : Program) (w : World) (s s' : Shared) (I a : Addr) (vs : List Value) : Prop :=
  ∃ fp, ∃ St : Nat → Heap → Prop, (∀ b ∈ fp, b = a ∨ s.heap.objs.size ≤ b) ∧ I ∈ fp ∧ (∀ A₂ : Around, A₂.handled = none → Walks prog w A₂ I fp [I] vs.length (fun i v => vs[i]? = some v) St) ∧ St 0 s'.heap
theorem setX_iter {ss : List Str} {Q : Value → Shared → Prop} (hX : HasX prog w s.heap a ss)
    (h : ∀ h' d I vs ks, (∀ b o, s.heap.get? b = some o → h'.get? b = some o) → s.heap.objs.size ≤ I → I < h'.objs.size → StrsAre vs ks → ks.Perm (ddL ss) → SetWalks prog w s { s with heap := h', drawn := d } I a vs → Q (.ref I) { s with heap := h', drawn := d }) :
    wpAny (model prog w) A (pyIter (.ref a)) Q E s := by
  obtain ⟨es, ep, t, ks, hst, hstr, hperm, hled, hpl, hbd⟩ := setX_strs hX
  obtain ⟨oa, hoa, hex, hda, hf⟩ := id hst
  have hlt : a < s.heap.objs.size := Heap.lt_size hoa
  refine wpAny_pyIter_slot hst.typeIs F.slot_set_iter (wpAny_call_entry F.slot_set_iter hst.typeIs entry_set_iter ?_ (F.args_set_iter_1 _))
  unfold Builtin.«frozenset.__iter__» Builtin.Frozenset.slot0 slotArgs
  simp only [List.isEmpty_nil, Bool.not_true, Bool.false_eq_true, ↓reduceIte, bind_assoc, List.length_nil, bne_self_eq_false]
  unfold Builtin.Frozenset.addrOf Builtin.Frozenset.sizeOf
  refine wpAny_bind (wpAny_pure ?_)
  try dsimp only
  refine wpAny_bind (wpAny_pure ?_)
  refine wpAny_bind ?_
  unfold setEntries
  refine wpAny_bind (wpAny_bind (wpAny_setState_of hoa hda hf (wpAny_pure ?_)))
  refine wpAny_pure ?_
  dsimp only
  refine wpAny_bind ?_
  unfold setDrawn
  refine wpAny_bind (wpAny_setState_of hoa hda hf ?_)
  refine wpAny_bind ?_
  unfold setsByText
  refine wpAny_bind (wpAny_askSetting (wpAny_pure ?_))
  dsimp only
  refine wpAny_pure ?_
  have hep : ∀ (s₁ : Shared) (Q' : Nat → Shared → Prop), (∀ o, s.heap.get? a = some o → s₁.heap.get? a = some o) → Q' ep s₁ → wpAny (model prog w) A.in1 (setEpoch a) Q' E s₁ := by
    intro s₁ Q' hk hq
    unfold setEpoch
    exact wpAny_bind (wpAny_setState_of (hk _ hoa) hda hf (wpAny_pure hq))
  show wpAny _ _ (if (!(byText w) && (!t.plain && decide (es.size > 1))) = true then _ else _) _ _ _
  have hlvs : (es.toList.map (·.2)).length = es.size := by simp
  by_cases hT : byText w = true
  · rw [if_neg (by simp [hT])]
    refine wpAny_bind (wpAny_pure ?_)
    refine wpAny_bind (hep _ _ (fun _ e => e) ?_)
    refine wpAny_bind ?_
    refine wpAny_newObj_type ?_
    refine wpAny_pure ⟨_, rfl, "set_iterator", _, ⟨_, Heap.get?_push_size _ rfl, rfl⟩, slot_setit_next.lookup, ?_⟩
    have hp0 := pickOrder_perm (w.params.setOrder a ep) es
    obtain ⟨ks', hs', hp'⟩ := strs_perm hstr (hp0.map (·.2))
    have hlen : ((pickOrder (w.params.setOrder a ep) es).toList.map (·.2)).length = es.size := by rw [List.length_map, hp0.length_eq, Array.length_toList]
    refine h _ s.drawn _ _ ks' (fun b o e => Heap.get?_push_of_some _ e) (Nat.le_refl _) (by rw [Heap.size_push]; exact Nat.lt_succ_self _) hs' (hp'.trans hperm) ?_
    refine ⟨[s.heap.objs.size, a], (fun i h => (∃ slot : Nat, SetIt h s.heap.objs.size a (.int slot 0) i es.size ep) ∧ SetStay h a es ep t), ?_, by simp, fun A₂ h2 => by rw [hlen]; exact walks_text hT h2 s.heap.objs.size a (Nat.ne_of_lt hlt) es ep t, ⟨⟨0, _, Heap.get?_push_size _ rfl, rfl, rfl⟩, hst.at fun o e => Heap.get?_push_of_some _ e⟩⟩
    intro b hb; simp at hb; rcases hb with rfl | rfl
    · exact .inr (Nat.le_refl _)
    · exact .inl rfl
  · have hT' : byText w = false := by simpa using hT
    by_cases hd : t.plain = false ∧ es.size > 1
    · rw [if_pos (by simp [hT', hd.1, hd.2])]
      refine wpAny_bind (wpAny_drawOrder _ _ _ (by simp) fun ys d hp => ?_)
      refine wpAny_bind ?_
      unfold newTuple
      refine wpAny_newObj_type ?_ (by
        show (ys.map fun (i : Nat) => rawInt i).toArray.size ≤ sizeLine
        have hyl : ys.length = es.size := by rw [hp.length_eq, List.length_range]
        rw [sizeLine_eq, List.size_toArray, List.length_map, hyl]
        have : es.size < 4096 := hbd
        lia)
      refine wpAny_bind (hep _ _ (fun _ e => Heap.get?_push_of_some _ e) ?_)
      refine wpAny_bind ?_
      refine wpAny_newObj_type ?_
      refine wpAny_pure ⟨_, rfl, "set_iterator", _, ⟨_, Heap.get?_push_size _ rfl, rfl⟩, slot_setit_next.lookup, ?_⟩
      have hyl : ys.length = es.size := by rw [hp.length_eq, List.length_range]
      have hyt : ∀ p ∈ ys, p < es.size := fun p hp1 => List.mem_range.mp (hp.mem_iff.mp hp1)
      have hvs : ((List.range es.size).map fun p => (es.getD p (0, .none)).2) = es.toList.map (·.2) := by
        apply List.ext_getElem
        · simp
        · intro n h1 h2
          simp at h1
          simp [Array.getD, h1]
      have hpm : (ys.map fun p => (es.getD p (0, .none)).2).Perm (es.toList.map (·.2)) := by rw [← hvs]; exact hp.map _
      obtain ⟨ks', hs', hp'⟩ := strs_perm hstr hpm
      have hT1 : (s.heap.push { cls := .type "tuple", dict := none, data := .seq (ys.map fun (i : Nat) => rawInt i).toArray }).get? s.heap.objs.size = some { cls := .type "tuple", dict := none, data := .seq (ys.map fun (i : Nat) => rawInt i).toArray } := Heap.get?_push_size _ rfl
      rw [Heap.size_push]
      refine h _ d _ _ ks' (fun b o e => Heap.get?_push_of_some _ (Heap.get?_push_of_some _ e)) (Nat.le_succ _) (by rw [Heap.size_push, Heap.size_push]; exact Nat.lt_succ_self _) hs' (hp'.trans hperm) ?_
      refine ⟨[s.heap.objs.size + 1, a, s.heap.objs.size], (fun i h => (SetIt h (s.heap.objs.size + 1) a (.ref s.heap.objs.size) i es.size ep) ∧ SetStay h a es ep t ∧ h.IsTuple s.heap.objs.size (ys.map fun (p : Nat) => rawInt p).toArray), ?_, by simp, fun A₂ h2 => by rw [List.length_map, hyl]; exact walks_drawn h2 (s.heap.objs.size + 1) a s.heap.objs.size (Nat.ne_of_lt (Nat.lt_succ_of_lt hlt)) (Nat.ne_of_lt (Nat.lt_succ_self _)) es ep t ys hyl hyt, ⟨⟨_, (Heap.size_push s.heap _ ▸ Heap.get?_push_size _ rfl), rfl, rfl⟩, hst.at fun o e => Heap.get?_push_of_some _ (Heap.get?_push_of_some _ e), ⟨_, Heap.get?_push_of_some _ hT1, rfl, _, rfl⟩⟩⟩
      · intro b hb; simp at hb; rcases hb with rfl | rfl | rfl
        · exact .inr (Nat.le_succ _)
        · exact .inl rfl
        · exact .inr (Nat.le_refl _)
    · have hn : es.size ≤ 1 := by
        rcases hpl with e | e
        · have : ¬ es.size > 1 := fun hg => hd ⟨e, hg⟩
          lia
        · lia
      rw [if_neg (by simp [show ¬ es.size > 1 from by lia])]
      refine wpAny_bind (wpAny_pure ?_)
      refine wpAny_bind (hep _ _ (fun _ e => e) ?_)
      refine wpAny_bind ?_
      refine wpAny_newObj_type ?_
      refine wpAny_pure ⟨_, rfl, "set_iterator", _, ⟨_, Heap.get?_push_size _ rfl, rfl⟩, slot_setit_next.lookup, ?_⟩
      have hp : t.place.size = es.size := by
        simp only [SetTable.fits, Bool.and_eq_true, beq_iff_eq] at hf
        exact hf.1
      refine h _ s.drawn _ _ ks (fun b o e => Heap.get?_push_of_some _ e) (Nat.le_refl _) (by rw [Heap.size_push]; exact Nat.lt_succ_self _) hstr hperm ?_
      refine ⟨[s.heap.objs.size, a], (fun i h => (∃ slot : Nat, SetIt h s.heap.objs.size a (.int slot 0) i es.size ep ∧ SetTable.below t.place slot = i) ∧ SetStay h a es ep t), ?_, by simp, fun A₂ h2 => by rw [hlvs]; exact walks_one hT' h2 s.heap.objs.size a (Nat.ne_of_lt hlt) es ep t hn (by rw [hled, hT']; rfl), ⟨⟨0, ⟨_, Heap.get?_push_size _ rfl, rfl, rfl⟩, by rw [below_one (by lia)]; split <;> simp⟩, hst.at fun o e => Heap.get?_push_of_some _ e⟩⟩
      intro b hb; simp at hb; rcases hb with rfl | rfl
      · exact .inr (Nat.le_refl _)
      · exact .inl rfl
end
end Mine
end
section
open PySem PySem.W PyProof.Rows PySem.Calls
set_option maxRecDepth 100000
set_option linter.unusedVariables false
namespace Mine
section
variable {prog : Program} {w : World} {A : Around} {E : Value → Shared → Prop} {s : Shared} {r : Addr}
theorem hint_set {Q : Bool → Shared → Prop} (hT : s.TypeIs (.ref r) "set") (h : Q false s) : wpAny (model prog w) A (Builtin.List.listLengthHint (.ref r)) Q E s := by
  unfold Builtin.List.listLengthHint
  refine wpAny_bind (wpAny_specialOf hT PySem.F.slot_set_len.lookup ?_)
  generalize hid : ("set.__len__" : String) = id0
  wp_delta
  rw [show splitId id0 = some ("set", "__len__") from by subst hid; decide +kernel]
  subst hid
  refine wpAny_bind (wpAny_isInstance (T := "set") (b := true) hT (by rw [isSubtype_type]; kernel_rfl) ?_)
  refine wpAny_ite_split (fun hab => absurd hab (by decide)) (fun _ => ?_)
  refine wpAny_ite_split (fun _ => ?_) (fun hab => absurd (by decide +kernel) hab)
  refine wpAny_bind (wpAny_typeOf hT ?_)
  exact wpAny_pure h
noncomputable def ItWalks (prog : Program) (w : World) (s s' : Shared) (I a : Addr) (n : Nat) (P : Nat → Value → Prop) : Prop :=
  ∃ fp, ∃ St : Nat → Heap → Prop, (∀ b ∈ fp, b = a ∨ s.heap.objs.size ≤ b) ∧ I ∈ fp ∧ (∀ A₂ : Around, A₂.handled = none → Walks prog w A₂ I fp [I] n P St) ∧ St 0 s'.heap
structure Src (prog : Program) (w : World) (T : String) (r : Addr) (OK : Heap → Prop) (G : List Value → Prop) (DR : PySem.Drawn → PySem.Drawn → Prop) : Prop where
  type : ∀ s : Shared, OK s.heap → s.TypeIs (.ref r) T
  there : ∀ h : Heap, OK h → r < h.objs.size
  keep : ∀ h h' : Heap, OK h → (∀ o, h.get? r = some o → h'.get? r = some o) → OK h'
  notList : (Value.type T == Value.type "list") = false
  notTuple : (Value.type T == Value.type "tuple") = false
  hint : ∀ (A : Around) (E : Value → Shared → Prop) (s : Shared) (Q : Bool → Shared → Prop), OK s.heap → Q false s → wpAny (model prog w) A (Builtin.List.listLengthHint (.ref r)) Q E s
  iter : ∀ (A : Around) (E : Value → Shared → Prop) (s : Shared) (Q : Value → Shared → Prop), A.handled = none → OK s.heap →
    (∀ h' d I n P, DR s.drawn d → (∀ b o, s.heap.get? b = some o → h'.get? b = some o) → s.heap.objs.size ≤ I → I < h'.objs.size → (∀ vs : List Value, vs.length = n → (∀ i v, vs[i]? = some v → P i v) → G vs) → n ≤ sizeLine → ItWalks prog w s { s with heap := h', drawn := d } I r n P → Q (.ref I) { s with heap := h', drawn := d }) →
    wpAny (model prog w) A (pyIter (.ref r)) Q E s
theorem src_set {ss : List Str} (hss : ss.length ≤ 4000) : Src prog w "set" r (fun h => HasX prog w h r ss) (fun vs => ∃ ks, StrsAre vs ks ∧ ks.Perm (ddL ss)) (fun _ _ => True) where
  type := fun _ hX => by obtain ⟨_, _, _, _, hst, _⟩ := setX_strs hX; exact hst.typeIs
  there := fun _ hX => by obtain ⟨_, _, _, _, ⟨_, ho, _⟩, _⟩ := setX_strs hX; exact Heap.lt_size ho
  keep := fun _ _ ⟨o, es, ep, t, ho, x⟩ hk => ⟨o, es, ep, t, hk _ ho, x⟩
  notList := by decide
  notTuple := by decide
  hint := fun _ _ _ _ hX hq => by obtain ⟨_, _, _, _, hst, _⟩ := setX_strs hX; exact hint_set hst.typeIs hq
  iter := fun _ _ _ _ _ hX h => setX_iter hX fun h' d I vs ks a1 a2 a3 a4 a5 a6 => by
    obtain ⟨fp, St, b1, b2, b3, b4⟩ := a6
    refine h h' d I vs.length (fun i v => vs[i]? = some v) trivial a1 a2 a3 (fun us hu he => ?_) ?_ ⟨fp, St, b1, b2, b3, b4⟩
    · have : us = vs := by
        apply List.ext_getElem? 
        intro n
        cases hn : us[n]? with
        | some v => exact (he n v hn).symm
        | none =>
          rw [List.getElem?_eq_none_iff] at hn
          exact (List.getElem?_eq_none_iff.mpr (by lia)).symm
      rw [this]; exact ⟨ks, a4, a5⟩
    · have h1 := ddL_len ss
      have h2 := a5.length_eq
      have h3 : vs.length = ks.length := by rw [(strs_all a4).2, List.length_map]
      rw [sizeLine_eq]; lia
theorem src_dict {kvs : List (Str × Value)} {ep : Nat} (lo : (r == sysModules) = false) (hl : kvs.length ≤ 1000) :
    Src prog w "dict" r (fun h => h.DictAt (strKind prog w) r kvs ep) (fun vs => StrsAre vs (kvs.map (·.1))) (fun a b => b = a) where
  type := fun _ hm => hm.dictOf.typeIs
  there := fun _ hm => hm.lt_size
  keep := fun _ _ hm hk => hm.at' hk
  notList := by decide
  notTuple := by decide
  hint := fun _ _ _ _ hm hq => kdl_hint_dict hm.dictOf.typeIs hq
  iter := fun A E s Q hh hm h => wpAny_pyIter_dict lo hm (by
    refine h _ s.drawn s.heap.objs.size kvs.length _ rfl (fun b o e => Heap.get?_push_of_some _ e) (Nat.le_refl _) (by rw [Heap.size_push]; exact Nat.lt_succ_self _) (fun us hu he => ?_) (by rw [sizeLine_eq]; lia) 
      ⟨[s.heap.objs.size, r], _, ?_, by simp, fun A₂ h2 => Walks.dictKeys h2 _ r (Nat.ne_of_lt hm.lt_size) kvs ep, ⟨⟨_, Heap.get?_push_size _ rfl, rfl, rfl⟩, hm.push _⟩⟩
    · clear hm h
      induction us generalizing kvs with
      | nil => cases kvs with
        | nil => exact .nil
        | cons => simp at hu
      | cons u us ih => cases kvs with
        | nil => simp at hu
        | cons p kvs =>
          obtain ⟨k, x, e, hk⟩ := he 0 u rfl
          simp at e
          subst e
          obtain ⟨t, rfl⟩ := Value.isStrOf_shape hk
          exact .cons k t (ih (by simp at hl; lia) (by simpa using hu) fun i v hv => he (i + 1) v (by simpa using hv))
    · intro b hb; simp at hb; rcases hb with rfl | rfl
      · exact .inr (Nat.le_refl _)
      · exact .inl rfl)
end
end Mine
end
section
open PySem PySem.W PyProof.Rows PySem.Calls
set_option maxRecDepth 100000
set_option linter.unusedVariables false
namespace Mine
section
variable {prog : Program} {w : World} {A : Around} {E : Value → Shared → Prop} {s : Shared} {T : String} {r : Addr} {OK : Heap → Prop} {G : List Value → Prop} {DR : PySem.Drawn → PySem.Drawn → Prop}
theorem src_extend {R : Result → Shared → Prop} (K : Src prog w T r OK G DR) (hh : A.handled = none) (hok : OK s.heap) (S : Addr) (hSr : S ≠ r) (res : Value) (c₀ : Nat) (hS : s.heap.get? S = some { cls := .type "list", data := .seq #[] c₀ })
    (hR : ∀ h' tk d acc' c', DR s.drawn d → (∀ b o, b ≠ S → s.heap.get? b = some o → h'.get? b = some o) → h'.get? S = some { cls := .type "list", dict := none, data := .seq acc' c', slots := #[] } → G acc'.toList → acc'.size ≤ sizeLine → R (.ok (.ret res)) (uD s h' tk d)) :
    wpAny (model prog w) A.in1 (Builtin.List.listExtendWith (.ref S) (.ref r) res)
      (fun fin s' => match fin with | .done f => R (.ok f) s' | .again c' => c'.quiet = true ∧ codeAny (model prog w) A c' R s') (fun e s' => R (.error e) s') s := by
  have hSlt : S < s.heap.objs.size := Heap.lt_size hS
  unfold Builtin.List.listExtendWith
  refine wpAny_bind (wpAny_typeOf (T := T) (K.type s hok) ?_)
  have h1 : Builtin.List.listSameRef (.ref S) (.ref r) = false := by simp [Builtin.List.listSameRef, hSr]
  simp only [h1, K.notList, K.notTuple, Bool.or_false, Bool.false_eq_true, if_false]
  refine wpAny_bind (K.iter _ _ _ _ hh hok fun h₁ d I n P hdr hk₁ hI hI' hG hn hW => ?_)
  obtain ⟨fp, St, hfp, hIfp, W, st⟩ := hW
  have hSI : S ≠ I := Nat.ne_of_lt (Nat.lt_of_lt_of_le hSlt hI)
  have hSf : S ∉ fp := fun hb => (hfp S hb).elim hSr (fun h => absurd hSlt (Nat.not_lt.mpr h))
  have key : ∀ (h : Heap) (c₁ tk : Nat), St 0 h → (∀ b o, b ≠ S → s.heap.get? b = some o → h.get? b = some o) →
      h.get? S = some { cls := .type "list", data := .seq #[] c₁ } → codeAny (model prog w) A (.builtin "list.extend.loop" ⟨[.ref S, .ref I, res], []⟩) R (uD s h tk d) := by
    intro h c₁ tk hst hk hS₁
    refine codeAny_extend_loopS (W A.in1 hh).toS hn S hSf res n 0 _ #[] c₁ rfl (Nat.zero_le _) hst hS₁ (ItemsOf.nil _) fun s' acc' c' hm hS' hacc => ?_
    rw [Moved.eq_with hm]
    refine hR s'.heap s'.toks d acc' c' hdr (fun b o hb e => hm.heap b o (fun hmem => ?_) (hk b o hb e)) hS' (hG _ (by rw [Array.length_toList]; exact hacc.1) fun i v e => hacc.2 i v (by rw [← Array.getElem?_toList]; exact e)) (by rw [hacc.1]; exact hn)
    rcases List.mem_cons.mp hmem with e' | hmem
    · exact hb e'
    · exact absurd (Heap.lt_size e) (by rw [List.mem_singleton.mp hmem]; exact Nat.not_lt.mpr hI)
  have hS₁ := hk₁ S _ hS
  refine wpAny_bind (wpAny_holding (K.hint _ _ _ _ (K.keep _ _ hok fun o e => hk₁ r o e) ?_))
  refine wpAny_ite_split (fun _ => ?_) (fun _ => wpAny_pure ⟨plainId_quiet PySem.F.plain_extend_loop _, key _ c₀ _ st (fun b o _ e => hk₁ b o e) hS₁⟩)
  refine wpAny_bind (wpAny_rule ?_)
  refine wpAny_bind ?_
  show wpAny _ _ (updateSeq S (·.push .none) >>= fun _ => updateSeq S (·.pop)) _ _ _
  refine wpAny_bind (wpAny_updateSeq (s := { s with heap := h₁, drawn := d }) hS₁ rfl ?_)
  have hS₂ := Heap.get?_update_self (Obj.mapSeq (·.push Value.none)) hS₁ rfl
  refine wpAny_updateSeq (hz := by seq_fits) (s := { s with heap := _, drawn := d }) hS₂ rfl ?_
  have hS₃ := Heap.get?_update_self (Obj.mapSeq (·.pop)) hS₂ rfl
  refine wpAny_pure ⟨plainId_quiet PySem.F.plain_extend_loop _, key _ _ _ ?_ (fun b o hb e => ?_) hS₃⟩
  · refine (W A.in1 hh).frame 0 _ _ st fun b hb o e => ?_
    have hbS : b ≠ S := fun h => hSf (h ▸ hb)
    exact (Heap.get?_update_other _ _ (Ne.symm hbS)).trans ((Heap.get?_update_other _ _ (Ne.symm hbS)).trans e)
  · exact (Heap.get?_update_other _ _ (Ne.symm hb)).trans ((Heap.get?_update_other _ _ (Ne.symm hb)).trans (hk₁ b o e))
theorem src_collect {R : List Value → Shared → Prop} (K : Src prog w T r OK G DR) (hh : A.handled = none) (hok : OK s.heap)
    (h : ∀ (h' : Heap) (tk : Nat) d (acc : List Value), DR s.drawn d → (∀ b o, s.heap.get? b = some o → h'.get? b = some o) → G acc → acc.length ≤ sizeLine → R acc (uD s h' tk d)) :
    wpAny (model prog w) A (collect (.ref r)) R E s := by
  have hlt := K.there _ hok
  unfold collect
  refine wpAny_bind (wpAny_runValue (codeAny_builtin entry_proto_collect' ?_))
  rw [Around.under_plainId PySem.F.plain_proto_collect _]
  show wpAny _ A.in1 (newList [] >>= fun l => again (.builtin "list.__iadd__" ⟨[l, .ref r], []⟩)) _ _ s
  refine wpAny_bind (wpAny_newObj_type ?_)
  refine wpAny_pure ⟨plainId_quiet PySem.F.plain_list_iadd _, codeAny_builtin entry_list_iadd' ?_⟩
  rw [Around.under_plainId PySem.F.plain_list_iadd _]
  have hS₁ : (s.heap.push { cls := .type "list", data := .seq ([] : List Value).toArray }).get? s.heap.objs.size = some { cls := .type "list", data := .seq #[] } := Heap.get?_push_size _ rfl
  show wpAny _ A.in1 (Builtin.List.listExtendWith (.ref s.heap.objs.size) (.ref r) (.ref s.heap.objs.size)) _ _ _
  have key := src_extend (A := A) (s := { s with heap := s.heap.push { cls := .type "list", data := .seq ([] : List Value).toArray } })
    (R := fun (q : Result) (s' : Shared) => ∃ (h' : Heap) (tk : Nat) (d : PySem.Drawn) (acc' : Array Value) (c' : Nat), q = .ok (.ret (.ref s.heap.objs.size)) ∧ s' = (uD s h' tk d) ∧ DR s.drawn d ∧
      (∀ b o, s.heap.get? b = some o → h'.get? b = some o) ∧ h'.get? s.heap.objs.size = some { cls := .type "list", dict := none, data := .seq acc' c', slots := #[] } ∧ G acc'.toList ∧ acc'.size ≤ sizeLine)
    K hh (K.keep _ _ hok fun o e => Heap.get?_push_of_some _ e) s.heap.objs.size (Nat.ne_of_gt hlt) (.ref s.heap.objs.size) 0 hS₁
    (fun h' tk d acc' c' hdr hk hS' hacc hsz => ⟨h', tk, d, acc', c', rfl, rfl, hdr, fun b o e => hk b o (Nat.ne_of_lt (Heap.lt_size e)) (Heap.get?_push_of_some _ e), hS', hacc, hsz⟩)
  refine wpAny_mono key (fun fin s' x => ?_) fun e s' x => ?_
  · cases fin with
    | done f =>
      obtain ⟨h', tk, d, acc', c', e, rfl, hdr, hk, hS', hacc, hsz⟩ := x
      cases e
      show wpAny _ A (load s.heap.objs.size >>= _) _ _ _
      refine wpAny_bind (wpAny_load hS' ?_)
      exact wpAny_pure (h h' tk d acc'.toList hdr hk hacc (by rw [Array.length_toList]; exact hsz))
    | again c₁ =>
      refine ⟨x.1, codeAny_mono x.2 fun q s₂ y => ?_⟩
      obtain ⟨h', tk, d, acc', c', rfl, rfl, hdr, hk, hS', hacc, hsz⟩ := y
      show wpAny _ A (load s.heap.objs.size >>= _) _ _ _
      refine wpAny_bind (wpAny_load hS' ?_)
      exact wpAny_pure (h h' tk d acc'.toList hdr hk hacc (by rw [Array.length_toList]; exact hsz))
  · obtain ⟨_, _, _, _, _, e', _⟩ := x
    cases e'
end
end Mine
end
section
open PySem PySem.W PyProof.Rows PySem.Calls
set_option maxRecDepth 100000
set_option linter.unusedVariables false
namespace Mine
section
variable {prog : Program} {w : World} {A : Around} {E : Value → Shared → Prop} {s : Shared} {T : String} {r : Addr} {OK : Heap → Prop} {D : List Str} {DR : PySem.Drawn → PySem.Drawn → Prop}
theorem call_sortedX {Q : Value → Shared → Prop} (K : Src prog w T r OK (fun vs => ∃ ks, StrsAre vs ks ∧ ks.Perm D) DR) (hh : A.handled = none) (hok : OK s.heap) (hD : D.length < 64)
    (h : ∀ (h' : Heap) tk d (l : Addr) (us : List Value) ks n, DR s.drawn d → (∀ b o, s.heap.get? b = some o → h'.get? b = some o) → h'.get? l = some (seqObj "list" us.toArray n) → (∀ o, s.heap.get? l = some o → False) → StrsAre us ks → ks.Perm D → sortedS ks = true → Q (.ref l) (uD s h' tk d)) :
    wpAny (model prog w) A (call (.builtin "sorted") [.ref r]) Q E s := by
  refine Calls.call_function_entry kind_sorted plain_sorted entry_sorted (args_sorted1 _) ?_
  unfold Builtin.«sorted»
  refine wpAny_bind (m := checkCount "sorted" 1 1 _) (wpAny_pure ?_)
  refine wpAny_bind (src_collect (A := A.in1) K hh hok fun h₁ tk d vs hdr hk hG hsz => ?_)
  obtain ⟨ks, hS, hP⟩ := hG
  have hl64 : vs.length < 64 := by
    have : vs.length = ks.length := by rw [(strs_all hS).2, List.length_map]
    rw [this, hP.length_eq]; exact hD
  refine wpAny_bind (wpAny_newList ?_ hsz)
  have hoL : (h₁.push (seqObj "list" vs.toArray 0)).get? h₁.objs.size = some (seqObj "list" vs.toArray 0) := Heap.get?_push_size _ rfl
  refine wpAny_bind (wpAny_holding (wpAny_call_entry slot_list_sort ⟨_, hoL, rfl⟩ entry_list_sort (list_sort_treeK strKind_oneLt hoL hS.keysOf (fun v₁ v₂ rest e => by subst e; exact keyKind_strs hS) hl64 fun st' a1 a2 => ⟨_, rfl, ?_⟩) (args_list_sort _)))
  obtain ⟨ks', b1, b2, b3⟩ := sorted_out_str hS a1 a2
  obtain ⟨n, hat⟩ := sortedHeap_at (out := (arrOf st').map (·.2)) hoL
  refine wpAny_pure ⟨_, rfl, h _ tk d _ ((arrOf st').map (·.2)).toList ks' n hdr (fun b o e => ?_) hat ?_ b1 (b2.trans hP) b3⟩
  · have e1 := hk b o e
    have hb := Heap.lt_size e1
    show (sortedHeap _ h₁.objs.size vs _).get? b = some o
    rw [sortedHeap_old (Nat.ne_of_lt hb) (by rw [size_push']; exact Nat.lt_succ_of_lt hb)]
    exact Heap.get?_push_of_some _ e1
  · intro o e
    exact Nat.lt_irrefl _ (Heap.lt_size (hk _ o e))
theorem call_listX {G : List Value → Prop} {Q : Value → Shared → Prop} (K : Src prog w T r OK G DR) (hh : A.handled = none) (hok : OK s.heap)
    (hQ : ∀ h' tk d acc' c', DR s.drawn d → (∀ b o, s.heap.get? b = some o → h'.get? b = some o) → h'.get? s.heap.objs.size = some { cls := .type "list", dict := none, data := .seq acc' c', slots := #[] } → G acc'.toList → Q (.ref s.heap.objs.size) (uD s h' tk d)) :
    wpAny (model prog w) A (call (.type "list") [.ref r]) Q E s := by
  refine callType_codes (Q₁ := fun obj s₁ => obj = .ref s.heap.objs.size ∧ s₁ = { s with heap := s.heap.push { cls := .type "list", data := .seq #[] } }) PySem.F.called_list (PySem.F.typeCall_list_1 _) PySem.F.entry_list_init
    (code_list_new _ ⟨rfl, rfl⟩) fun obj s₁ h₁ => ?_
  obtain ⟨rfl, rfl⟩ := h₁
  have hS : (s.heap.push { cls := .type "list", data := .seq #[] }).get? s.heap.objs.size = some { cls := .type "list", data := .seq #[] } := Heap.get?_push_size _ rfl
  have hlt := K.there _ hok
  refine ⟨⟨_, hS, rfl⟩, PySem.F.args_list_init_2 _ _, ?_⟩
  show wpAny _ _ (do let old ← Builtin.List.listItems (.ref s.heap.objs.size); Builtin.List.listUpdate (.ref s.heap.objs.size) (fun _ => #[]); letGo old.toList.reverse; Builtin.List.listExtendWith (.ref s.heap.objs.size) (.ref r) .none) _ _ _
  refine wpAny_bind ?_
  unfold Builtin.List.listItems
  refine wpAny_bind (wpAny_seqItems hS rfl (wpAny_pure ?_))
  show wpAny _ _ (updateSeq s.heap.objs.size (fun _ => #[]) >>= fun _ => letGo (#[] : Array Value).toList.reverse >>= fun _ => Builtin.List.listExtendWith (.ref s.heap.objs.size) (.ref r) .none) _ _ _
  refine wpAny_bind (wpAny_updateSeq hS rfl ?_)
  have hS₂ := Heap.get?_update_self (Obj.mapSeq (fun _ => (#[] : Array Value))) hS rfl
  have oth : ∀ b o, b ≠ s.heap.objs.size → s.heap.get? b = some o → ((s.heap.push { cls := .type "list", data := .seq #[] }).update s.heap.objs.size (Obj.mapSeq (fun _ => (#[] : Array Value)))).get? b = some o :=
    fun b o hb e => (Heap.get?_update_other _ _ (Ne.symm hb)).trans (Heap.get?_push_of_some _ e)
  refine wpAny_bind (wpAny_letGo ?_)
  refine src_extend (A := A.in1) K hh (K.keep _ _ hok fun o e => oth r o (Nat.ne_of_lt hlt) e) _ (Nat.ne_of_gt hlt) .none _ hS₂ (fun h' tk d acc' c' hdr hk hS' hacc _ => ?_)
  exact ⟨rfl, hQ h' tk d acc' c' hdr (fun b o e => hk b o (Nat.ne_of_lt (Heap.lt_size e)) (oth b o (Nat.ne_of_lt (Heap.lt_size e)) e)) hS' hacc⟩
end
end Mine
end
section
open PySem PySem.W PyProof.Rows PySem.Calls
set_option maxRecDepth 10000
set_option linter.unusedVariables false
namespace Mine
theorem Src.imp {prog : Program} {w : World} {T : String} {r : Addr} {OK : Heap → Prop} {G G' : List Value → Prop} {DR : PySem.Drawn → PySem.Drawn → Prop} (K : Src prog w T r OK G DR) (f : ∀ vs, G vs → G' vs) : Src prog w T r OK G' DR :=
  { type := K.type, there := K.there, keep := K.keep, notList := K.notList, notTuple := K.notTuple, hint := K.hint
    iter := fun A E s Q hh hok h => K.iter A E s Q hh hok fun h' d I n P a b c e g k => h h' d I n P a b c e (fun vs x y => f _ (g vs x y)) k }
section
variable {prog : Program} {w : World} {A : Around} {E : Value → Shared → Prop} {s : Shared} {c : Cx} {H H0 : KH} {env : Env} {V : Str → Option Value} {ms : List (Addr × Obj)}
theorem lcompR {elt iter : PySem.Expr} {x : Str} {px : Pos} {ifs : List PySem.Expr} {scope : Scope} {pos : Pos} {Q : Value → Shared → Prop} (S₀ : Rs H0 H env V s.heap) (Z : CompScope env scope x)
    (p : Value → Bool) (F : Value → Value → Prop)
    (h : wpAny (model prog w) A (eval iter env) (fun xv s₁ => ∃ n P, Rs H0 H env V s₁.heap ∧ IterOf prog w A s₁ xv n P ∧ n ≤ sizeLine ∧
      (∀ cenv i v s₃ E', P i v → Rs H0 H cenv (compV scope env V x v) s₃.heap → cenv.scope = relabel scope env → wpAny (model prog w) A (testsOf ifs cenv) (fun ok s₄ => ok = p v ∧ Keeps s₃ s₄) E' s₃) ∧
      (∀ cenv i v s₃ E', P i v → p v = true → Rs H0 H cenv (compV scope env V x v) s₃.heap → cenv.scope = relabel scope env → wpAny (model prog w) A (eval elt cenv) (fun y s₄ => F v y ∧ Keeps s₃ s₄) E' s₃) ∧
      (∀ D ep ys (vs : List Value) h' tk, Up s₁.heap h' → s₁.heap.get? D = none → h'.get? D = some { cls := .type "list", data := .seq ys ep } → vs.length = n → (∀ j v, vs[j]? = some v → P j v) → Paired F (vs.filter p) ys.toList → Q (.ref D) (uP s₁ h' tk))) E s)
    (hs : ∀ x, foldedSetIterable iter env x = pure x := by intro _; rfl) :
    wpAny (model prog w) A (eval (.ListComp elt [⟨.Name x px, iter, ifs, 0⟩] scope pos) env) Q E s := by
  refine wpAny_ListComp_free p F (clos_of S₀ Z) Z.cell Z.kind Z.loc Z.var (wpAny_mono h (fun xv s₁ h₁ => ?_) fun _ _ q => q) hs
  obtain ⟨n, P, S, it, hn, ht, he, hq⟩ := h₁
  refine it _ _ fun I fp wr WS h' W w0 up new low => ⟨I, fp, wr, n, P, WS, rfl, W, hn, w0, low, ⟨?_, ?_⟩, ?_⟩
  · intro C i v s₃ m₃ E' _ hP hns hm hkp _
    have up₃ : Up s₁.heap s₃.heap := fun b o e => hkp b o (fun m => by rw [new b m] at e; cases e) (up _ _ e)
    exact ht _ i v s₃ E' hP (rs_comp (S.up up₃) Z.kind Z.cell hns hm Z.var) rfl
  · intro C i v s₃ m₃ E' _ hP hp hns hm hkp _
    have up₃ : Up s₁.heap s₃.heap := fun b o e => hkp b o (fun m => by rw [new b m] at e; cases e) (up _ _ e)
    exact he _ i v s₃ E' hP hp (rs_comp (S.up up₃) Z.kind Z.cell hns hm Z.var) rfl
  · intro D h'' tk ys vs hD _ hl hlen hP hF hkp
    have up₃ : Up s₁.heap h'' := fun b o e => hkp b o (fun m => by rw [new b m] at e; cases e) (up _ _ e)
    obtain ⟨ep, e⟩ := hl
    exact hq D ep ys vs h'' tk up₃ (up.none hD) e hlen hP hF
noncomputable abbrev cellO (v : Option Value) : Obj := { cls := .type "cell", data := .cell v }
theorem env_cell {M : Model} {scope : Scope} {n0 x y : Str} {g : Addr} {cl : List (Str × Addr)} {qual : Str} {Q : Env → Shared → Prop} (hn : scope.names = [(n0, .local), (x, .cell), (y, .free)])
    (h : ∀ C CA hm h', Up s.heap hm → s.heap.get? C = none → hm.get? C = some { cls := .type "dict", data := .dict #[] } → Up hm h' → hm.get? CA = none → h'.get? CA = some (cellO none) →
      Q { scope := scope, locals := C, globals := g, cells := (x, CA) :: cl, qual := qual, func := none, code := env.code, frame := env.frame, builtins := env.builtins } (uH s h')) :
    wpAny M A (newFunctionEnv scope g cl [] qual none .none (some env)) Q E s := by
  unfold newFunctionEnv
  rw [hn]
  refine wpAny_bind (wpAny_alloc ?_)
  simp only [List.forIn_cons, List.forIn_nil, bind_assoc, pure_bind]
  have k1 : (NameKind.local == NameKind.cell) = false := rfl
  have k2 : (NameKind.cell == NameKind.cell) = true := rfl
  have k3 : (NameKind.free == NameKind.cell) = false := rfl
  simp only [k1, k2, k3, if_true, Bool.false_eq_true, if_false, pure_bind, bind_assoc]
  refine wpAny_bind (wpAny_alloc ?_)
  have up1 := Up.push s.heap { cls := .type (if (some env).isSome then "dict" else "frame"), data := .dict #[] }
  have e1 := Heap.get?_push_size s.heap (o := { cls := .type (if (some env).isSome then "dict" else "frame"), data := .dict #[] }) rfl
  have f1 : s.heap.get? s.heap.objs.size = none := fresh_of_size (Nat.le_refl _)
  generalize hh1 : s.heap.push { cls := .type (if (some env).isSome then "dict" else "frame"), data := .dict #[] } = h1 at *
  have f2 : h1.get? h1.objs.size = none := fresh_of_size (Nat.le_refl _)
  exact wpAny_pure (h _ h1.objs.size h1 _ up1 f1 e1 (Up.push _ _) f2 (Heap.get?_push_size _ rfl))
end
section
variable {A : Around} {s : Shared}
theorem eq_dict_none {a : Addr} (dT : s.TypeIs (.ref a) "dict") (hu : A.units < cLine) : SeqAt.EqAt A s (.ref a) .none false := fun prog w E Q h => by
  unfold eqBool
  refine wpAny_holding ?_
  refine wpAny_ite_split (fun hab => absurd (eq_of_beq hab) nofun) (fun _ => ?_)
  refine wpAny_bind (SeqAt.rc_eq_decline_or (k := false) dT rfl (by decide) PySem.F.sub_NoneType_dict PySem.F.slot_dict_eq PySem.F.slot_NoneType_eq_refl
    (fun Q' hq => wpAny_call_entry PySem.F.slot_dict_eq dT PySem.F.entry_dict_eq ?_ (PySem.F.args_dict_eq_2 _ _))
    (fun _ hq => call_gives PySem.F.slot_NoneType_eq_refl rfl PySem.F.entry_NoneType_eq (PySem.F.args_NoneType_eq_2 _ _) (SeqAt.NoneType___eq___none_ref_0 a) hq)
    (fun _ hq => wpAny_of_eq (rfl : isSame (.ref a) .none = pure false) hq) (.inr hu) (wpAny_truthy_bool h))
  show wpAny _ _ (Builtin.Dict.dictSlotArgs "__eq__" ⟨[.ref a, .none], []⟩ >>= _) _ _ s
  refine wpAny_bind ?_
  unfold Builtin.Dict.dictSlotArgs
  refine wpAny_bind (wpAny_notOrdered_dict dT ?_)
  show wpAny _ _ (pure (Value.ref a, Value.none)) _ _ s
  refine wpAny_pure ?_
  refine wpAny_bind (wpAny_isInstance (T := "NoneType") (b := false) rfl PySem.F.sub_NoneType_dict ?_)
  simp only [Bool.not_false, if_true]
  refine wpAny_bind (wpAny_rule ?_)
  exact wpAny_bind (wpAny_pure (wpAny_pure ⟨_, rfl, hq⟩))
end
end Mine
end
section
open PySem PySem.W PyProof.Rows PySem.Calls
set_option maxRecDepth 10000
set_option linter.unusedVariables false
namespace Mine
noncomputable def cellV (V : Str → Option Value) (y x : Str) (v : Value) : Str → Option Value := fun z => if z = x then some v else if z = y then V y else none
section
variable {prog : Program} {w : World} {A : Around} {E : Value → Shared → Prop} {s : Shared} {c : Cx} {H H0 : KH} {env : Env} {V : Str → Option Value} {ms : List (Addr × Obj)}
noncomputable abbrev cellEnv (scope : Scope) (env : Env) (C CA : Addr) (x : Str) : Env := { scope := relabel scope env, locals := C, globals := env.globals, cells := (x, CA) :: clOf env scope.names [], qual := env.qual, func := none, code := env.code, frame := env.frame, builtins := env.builtins }
theorem rel_names {scope : Scope} {n0 x y : Str} (fn : env.scope.kind = .function) (hsn : scope.names = [(n0, .local), (x, .cell), (y, .free)]) (hy : env.kindOf y = some .cell) : (relabel scope env).names = [(n0, .local), (x, .cell), (y, .cell)] := by
  unfold relabel
  rw [hsn]
  simp [fn, hy]
theorem rs_cell {scope : Scope} {n0 x y : Str} {v : Value} {C CA : Addr} {oA : Obj} {h : Heap} (S : Rs H0 H env V h) (hkind : scope.kind = .function) (hsn : scope.names = [(n0, .local), (x, .cell), (y, .free)]) (d1 : n0 ≠ x) (d2 : x ≠ y) (d3 : n0 ≠ y) (hy : env.kindOf y = some .cell)
    (eC : h.get? C = some { cls := .type "dict", data := .dict #[] }) (eA : h.get? CA = some oA) (hA : oA.data = .cell (some v)) : Rs H0 H (cellEnv scope env C CA x) (cellV V y x v) h := by
  have hr := rel_names S.rd.fn hsn hy
  refine ⟨⟨hkind, ⟨fun _ => none, ⟨_, #[], 0, eC, rfl, fun e he => by simp at he, fun name => rfl⟩, fun z u kz hz => ?_⟩, fun z kz => ?_⟩, S.b0, S.kn, S.gl⟩
  · have k : (relabel scope env).names.lookup z = some .local := kz
    rw [hr] at k
    unfold cellV at hz
    by_cases q1 : z = x
    · subst q1
      have b1 : (z == n0) = false := beq_eq_false_iff_ne.mpr (Ne.symm d1)
      simp [List.lookup_cons, b1] at k
    · rw [if_neg q1] at hz
      by_cases q2 : z = y
      · subst q2
        have b1 : (z == n0) = false := beq_eq_false_iff_ne.mpr (Ne.symm d3)
        have b2 : (z == x) = false := beq_eq_false_iff_ne.mpr (Ne.symm d2)
        simp [List.lookup_cons, b1, b2] at k
      · rw [if_neg q2] at hz; cases hz
  · have k : (relabel scope env).names.lookup z = some .cell := kz
    rw [hr] at k
    by_cases q1 : z = x
    · subst q1
      refine ⟨CA, some v, ?_, ⟨oA, eA, hA⟩, fun u hu => ?_⟩
      · show List.lookup z ((z, CA) :: _) = _
        rw [List.lookup_cons, show (z == z) = true from beq_iff_eq.mpr rfl]
      · unfold cellV at hu; rw [if_pos rfl] at hu; exact hu
    · by_cases q2 : z = y
      · subst q2
        refine absG fun gG hgG => ?_
        obtain ⟨a, v0, la, ha, r⟩ := S.rd.cl z hy
        refine hgG ?_; clear hgG
        refine ⟨a, v0, ?_, ha, fun u hu => ?_⟩
        · show List.lookup z ((x, CA) :: _) = _
          rw [List.lookup_cons, show (z == x) = false from beq_eq_false_iff_ne.mpr q1]
          show (clOf env scope.names []).lookup z = some a
          rw [clOf_acc env scope.names [] z (.inr (by rw [hsn]; simp)) (fun a e => by cases e), la]; rfl
        · unfold cellV at hu; rw [if_neg q1, if_pos rfl] at hu; exact r u hu
      · have b1 : (z == x) = false := beq_eq_false_iff_ne.mpr q1
        have b2 : (z == y) = false := beq_eq_false_iff_ne.mpr q2
        rw [List.lookup_cons, List.lookup_cons, List.lookup_cons, b1, b2] at k
        split at k <;> cases k
inductive CcE (s₂ : Shared) (H₃ : KH) (h₃ : Heap) (I : Value → Prop) (z : Value) (s₄ : Shared) : Prop
  | mk (H₄ : KH) (h₄ : Heap) (tk₄ : Nat) (e : s₄ = (uP s₂ h₄ tk₄)) (g : Grow H₃ h₃ H₄ h₄) (i : I z)
inductive CcT (s₂ : Shared) (H' : KH) (h' : Heap) (K : KH → Heap → Bool → Shared → Prop) (ok : Bool) (s₃ : Shared) : Prop
  | mk (H₃ : KH) (h₃ : Heap) (tk₃ : Nat) (e : s₃ = (uP s₂ h₃ tk₃)) (g : Grow H' h' H₃ h₃) (k : K H₃ h₃ ok s₃)
inductive CcIn (prog : Program) (w : World) (A : Around) (c : Cx) (env : Env) (scope : Scope) (x y : Str) (px : Pos) (elt : PySem.Expr) (ifs : List PySem.Expr) (Inv : Nat → List Value → Prop) (Q : Value → Shared → Prop) (it : Value) (s₂ : Shared) : Prop
  | mk (n : Nat) (B : Nat → KH → List (Str × Value) → Prop) (H₁ : KH) (V₁ : Str → Option Value) (ms₁ : List (Addr × Obj)) (F : Fresh prog w A c H₁ env V₁ ms₁ (.Name x px) n B it s₂.heap) (sz : n ≤ sizeLine) (i0 : Inv 0 [])
      (turn : ∀ i v cenv H' ys h' tk' (E' : Value → Shared → Prop), i < n → B i H' [(x, v)] → H₁.le H' → Inv i ys → Rs c.H0 H' cenv (cellV V₁ y x v) h' → cenv.scope = relabel scope env →
        wpAny (model prog w) A (testsOf ifs cenv) (CcT s₂ H' h' fun H₃ h₃ ok s₃ =>
          if ok = true then wpAny (model prog w) A (eval elt cenv) (CcE s₂ H₃ h₃ fun z => Inv (i + 1) (ys ++ [z])) E' s₃ else Inv (i + 1) ys) E' (uP s₂ h' tk'))
      (fin : ∀ D ep ys H' h' tk', H₁.le H' → Inv n ys → St c H' env V₁ ((D, lsO ys ep) :: ms₁) h' → D ∉ c.X → Q (.ref D) (uP s₂ h' tk'))
set_option maxHeartbeats 1000000 in
theorem lc_cell {elt iter : PySem.Expr} {x n0 y : Str} {px : Pos} {ifs : List PySem.Expr} {scope : Scope} {pos : Pos} {Q : Value → Shared → Prop} (hh : A.handled = none) (S₀ : St c H env V ms s.heap) (hkind : scope.kind = .function) (hsn : scope.names = [(n0, .local), (x, .cell), (y, .free)]) (d1 : n0 ≠ x) (d2 : x ≠ y) (d3 : n0 ≠ y) (hy : env.kindOf y = some .cell)
    (Inv : Nat → List Value → Prop)
    (h : wpAny (model prog w) A (eval iter env) (fun xv s₁ => wpAny (model prog w) A (pyIter xv) (CcIn prog w A c env scope x y px elt ifs Inv Q) E s₁) E s)
    (hs : ∀ x, foldedSetIterable iter env x = pure x := by intro _; rfl) :
    wpAny (model prog w) A (eval (.ListComp elt [⟨.Name x px, iter, ifs, 0⟩] scope pos) env) Q E s := by
  rw [eval_ListComp]
  have hclos : closureFor scope env = pure (clOf env scope.names []) := closureFor_eq fun n hn => by
    rw [hsn] at hn
    simp at hn
    subst hn
    refine absG fun gG hgG => ?_
    obtain ⟨a, _, l, _⟩ := S₀.toRs.rd.cl n hy
    refine hgG ?_; clear hgG
    rw [l]; rfl
  refine wpAny_comprehension_free (use := none) rfl hs hclos hkind (fun z hz hl => ?_) (wpAny_mono h (fun xv s₁ h₁ => wpAny_mono h₁ (fun it s₂ h₂ => ?_) fun _ _ e => e) fun _ _ e => e)
  · rw [hsn] at hz ⊢
    simp at hz
    rcases hz with rfl | rfl | rfl
    · rw [List.lookup_cons, show (n0 == n0) = true from beq_iff_eq.mpr rfl]
    · cases hl
    · cases hl
  refine absG fun gG hgG => ?_
  obtain ⟨n, B, H₁, V₁, ms₁, ⟨J, os₁, W, j0, S₂, hX⟩, hsz, i0, turn, fin⟩ := h₂
  refine hgG ?_; clear hgG
  refine wpAny_newObj_type ?_
  have frD : s₂.heap.get? s₂.heap.objs.size = none := fresh_of_size (Nat.le_refl _)
  have S₃ := S₂.newAt (h' := s₂.heap.push { cls := .type "list", dict := none, data := .seq ([] : List Value).toArray }) (Up.push _ _) frD (Heap.get?_push_size _ rfl)
  have DX := S₂.notX frD
  generalize s₂.heap.objs.size = D at *
  generalize s₂.heap.push { cls := .type "list", dict := none, data := .seq ([] : List Value).toArray } = h₃ at *
  refine env_cell hsn fun C CA hm h₁ up₁ fC eC up₂ fA eA => ?_
  have CX := S₃.notX fC
  have S₄ : St c H₁ env V₁ ((ms₁ ++ [(D, lsO [] 0)]) ++ (C, { cls := .type "dict", data := .dict #[] }) :: os₁) hm := St.newAt (r := ms₁ ++ [(D, lsO [] 0)]) (by rw [List.append_assoc]; exact S₃) up₁ fC eC
  have AX := S₄.notX fA
  have S₅ : St c H₁ env V₁ ((ms₁ ++ [(D, lsO [] 0), (C, { cls := .type "dict", data := .dict #[] })]) ++ (CA, cellO none) :: os₁) h₁ := St.newAt (r := ms₁ ++ [(D, lsO [] 0), (C, { cls := .type "dict", data := .dict #[] })]) (by simpa using S₄) up₂ fA eA
  have loop : ∀ s₃ : Shared, s₃ = (uH s₂ h₁) →
      codeAny (model prog w) A (.compLoop (.ListComp elt [⟨.Name x px, iter, ifs, 0⟩] scope pos) 0 it (.ref D) (cellEnv scope env C CA x)) (compPost (model prog w) A E none Q (.ref D) C) s₃ := by
    rintro s₃ rfl
    refine compLoop_any (fun k s' => Ex9 fun i os H' ys ep oA ov h' tk' => An10 (s' = (uP s₂ h' tk')) (k = n + 1 - i) (i ≤ n) (ys.length ≤ i) (H₁.le H') (St c H' env V₁ ((ms₁ ++ [(D, lsO ys ep), (C, { cls := .type "dict", data := .dict #[] })]) ++ (CA, oA) :: os) h') (oA.data = .cell ov) ((∀ p ∈ os, p.1 ∉ c.X)) (J i H' os) (Inv i ys)) ?_ (n + 1)
      ⟨0, os₁, H₁, [], 0, cellO none, none, h₁, _, rfl, rfl, Nat.zero_le _, Nat.le_refl _, .refl _, S₅, rfl, hX, j0, i0⟩
    intro k s' rI2 E'
    refine absG fun gG hgG => ?_
    obtain ⟨i, os, H', ys, ep, oA, ov, h', tk', rfl, rfl, hi, hys, le, S', hoA, hX', j, hI⟩ := rI2
    refine hgG ?_; clear hgG
    have own : ∀ p ∈ os, h'.get? p.1 = some p.2 ∧ H' p.1 = none := fun p hp => let ⟨a, b, _⟩ := S'.mu p (List.mem_append_right _ (.tail _ hp)); ⟨a, b⟩
    have Sos : St c H' env V₁ ((ms₁ ++ [(D, lsO ys ep), (C, { cls := .type "dict", data := .dict #[] }), (CA, oA)]) ++ os) h' := by simpa using S'
    rcases Nat.lt_or_ge i n with lt | ge
    · refine W.turn (fun v s₁ q => q) (s := uP s₂ h' tk') lt j S'.kn own fun v H2 os2 h2 tk2 binds M j2 It hB => ?_
      have S2 : St c H2 env V₁ ((ms₁ ++ [(D, lsO ys ep), (C, { cls := .type "dict", data := .dict #[] })]) ++ (CA, oA) :: os2) h2 := by simpa using Sos.moveR M
      have hX2 : ∀ p ∈ os2, p.1 ∉ c.X := fun p hp => by
        have : p.1 ∈ os.map (·.1) := by rw [← M.addr]; exact List.mem_map_of_mem hp
        obtain ⟨p', hp', e⟩ := List.mem_map.mp this
        rw [← e]; exact hX' p' hp'
      cases It
      have hr := rel_names S'.rd.fn hsn hy
      have kx : (cellEnv scope env C CA x).kindOf x = some .cell := by
        show (relabel scope env).names.lookup x = _
        rw [hr, List.lookup_cons, show (x == n0) = false from beq_eq_false_iff_ne.mpr (Ne.symm d1), List.lookup_cons, show (x == x) = true from beq_iff_eq.mpr rfl]
      have lx : (cellEnv scope env C CA x).cells.lookup x = some CA := by
        show List.lookup x ((x, CA) :: _) = _
        rw [List.lookup_cons, show (x == x) = true from beq_iff_eq.mpr rfl]
      have eA2 := (S2.mu (CA, oA) (List.mem_append_right _ (.head _))).1
      refine wpAny_assign_Name (wpAny_storeName_cell (s := uP s₂ h2 tk2) hkind kx lx ⟨oA, eA2, hoA⟩ fun h3 ⟨oA3, eA3, hA3⟩ sb => ?_)
      have S3 := S2.changeAt (fun b o hb e => sb.extBut b o hb e) eA3
      have eC3 := (S3.mu (C, { cls := .type "dict", data := .dict #[] }) (List.mem_append_left _ (by simp))).1
      refine wpAny_mono (turn i v _ H2 ys h3 tk2 E' lt hB (le.trans M.le) hI (rs_cell S3.toRs hkind hsn d1 d2 d3 hy eC3 eA3 hA3) rfl) (fun ok s₃ q => ?_) fun _ _ q => q
      refine absG fun gG hgG => ?_
      obtain ⟨H₃, h₃', tk₃, rfl, G₃, q⟩ := q
      refine hgG ?_; clear hgG
      have S3' := S3.grow G₃
      cases ok with
      | false =>
        exact ⟨_, by lia, i + 1, os2, H₃, ys, ep, oA3, _, h₃', tk₃, rfl, rfl, lt, Nat.le_succ_of_le hys, (le.trans M.le).trans G₃.le, S3', hA3, hX2, W.mono _ _ _ _ j2 G₃.le, q⟩
      | true =>
        rw [if_pos rfl] at q ⊢
        refine wpAny_mono q (fun z s₄ q => ?_) fun _ _ q => q
        refine absG fun gG hgG => ?_
        obtain ⟨H₄, h₄, tk₄, rfl, G₄, hI'⟩ := q
        refine hgG ?_; clear hgG
        have S4 := S3'.grow G₄
        have eD := (S4.mu (D, lsO ys ep) (List.mem_append_left _ (by simp))).1
        refine wpAny_list_append_plain ⟨ep, eD⟩ (fun h₅ hp₅ hs₅ => ?_) (by rw [List.size_toArray]; lia)
        obtain ⟨ep', e5⟩ := hp₅
        have S4b : St c H₄ env V₁ (ms₁ ++ (D, lsO ys ep) :: (C, { cls := .type "dict", data := .dict #[] }) :: (CA, oA3) :: os2) h₄ := by simpa using S4
        have S₅ := S4b.changeAt (fun b o hb e => hs₅.extBut b o hb e) e5
        refine ⟨_, by lia, i + 1, os2, H₄, ys ++ [z], ep', oA3, _, h₅, tk₄, rfl, rfl, lt, by simp; lia, ((le.trans M.le).trans G₃.le).trans G₄.le, ?_, hA3, hX2, W.mono _ _ _ _ j2 (G₃.le.trans G₄.le), hI'⟩
        rw [List.push_toArray] at S₅
        simpa using S₅
    · have e : i = n := Nat.le_antisymm hi ge
      subst e
      refine W.last (s := uP s₂ h' tk') j S'.kn own fun h2 tk2 keep => ?_
      have S6 := Sos.losesR hX' keep
      have eC6 := (S6.mu (C, { cls := .type "dict", data := .dict #[] }) (List.mem_append_right _ (by simp))).1
      refine ⟨fun _ => none, ⟨_, #[], 0, eC6, rfl, fun e he => by simp at he, fun name => rfl⟩, fun h3 hs3 => ?_⟩
      refine fin D ep ys H' h3 tk2 le hI ?_ DX
      have S7 : St c H' env V₁ ((ms₁ ++ [(D, lsO ys ep), (CA, oA)]) ++ [(C, { cls := .type "dict", data := .dict #[] })]) h2 := S6.perm (by
        simpa using List.Perm.append_left ms₁ (List.Perm.cons _ (List.Perm.swap _ _ _)))
      have S8 := S7.losesR (h' := h3) (by simpa using CX) fun b o hb e => hs3.extBut b o (by simpa using hb) e
      have S9 : St c H' env V₁ ((ms₁ ++ [(D, lsO ys ep)]) ++ [(CA, oA)]) h3 := by simpa using S8
      exact (S9.dropR (by simpa using AX)).perm List.perm_append_comm
  have own₁ : ∀ p ∈ os₁, h₁.get? p.1 = some p.2 ∧ H₁ p.1 = none := fun p hp => let ⟨a, b, _⟩ := S₅.mu p (List.mem_append_right _ (.tail _ hp)); ⟨a, b⟩
  exact codeAny_compStart_list (loop _ rfl) (W.self H₁ os₁ _ _ _ j0 S₅.kn own₁ (loop _ rfl))
end
end Mine
end
section
open PySem
set_option maxRecDepth 10000
set_option linter.unusedVariables false
namespace Mine
theorem any_mem {x : Str} {l : List Str} : (l.any (· == x)) = true ↔ x ∈ l := by
  rw [List.any_eq_true]
  exact ⟨fun ⟨y, h, e⟩ => beq_iff_eq.mp e ▸ h, fun h => ⟨x, h, beq_iff_eq.mpr rfl⟩⟩
theorem notAny {x : Str} {l : List Str} : (!(l.any (· == x))) = true ↔ x ∉ l := by
  rw [Bool.not_eq_true', ← any_mem, Bool.not_eq_true]
theorem mem_mergeK {x : Str} : ∀ (b a : List Str), x ∈ mergeK a b ↔ x ∈ a ∨ x ∈ b
  | [], a => by simp [mergeK]
  | k :: r, a => by
    have ih := mem_mergeK (x := x) r (if k ∈ a then a else a ++ [k])
    unfold mergeK at ih ⊢
    rw [List.foldl_cons, ih]
    by_cases h : k ∈ a
    · rw [if_pos h, List.mem_cons]
      constructor
      · rintro (q | q)
        · exact .inl q
        · exact .inr (.inr q)
      · rintro (q | q | q)
        · exact .inl q
        · subst q; exact .inl h
        · exact .inr q
    · rw [if_neg h, List.mem_append, List.mem_singleton, List.mem_cons, or_assoc]
noncomputable def Ok (P : Str → Prop) (o : Option (List Str)) (d : Bool) (sr : Str → Bool) : Prop :=
  match o with
  | none => d = true
  | some ks => d = false ∧ ∀ x, P x → (x ∈ ks ↔ sr x = true)
theorem Ok.mono {P P' : Str → Prop} {o : Option (List Str)} {d : Bool} {sr : Str → Bool} (h : Ok P o d sr) (f : ∀ x, P' x → P x) : Ok P' o d sr := by
  cases o with
  | none => exact h
  | some ks => exact ⟨h.1, fun x hx => h.2 x (f x hx)⟩
theorem Ok.both {P : Str → Prop} {a b : Option (List Str)} {da db : Bool} {sa sb : Str → Bool} (ha : Ok P a da sa) (hb : Ok P b db sb) : Ok P (bothF a b) (da || db) (fun x => sa x || sb x) := by
  cases a with
  | none => have : da = true := ha; subst this; show (true || db) = true; rfl
  | some p =>
    cases b with
    | none => have : db = true := hb; subst this; show (da || true) = true; exact Bool.or_true _
    | some q =>
      obtain ⟨rfl, h1⟩ := ha
      obtain ⟨rfl, h2⟩ := hb
      exact ⟨rfl, fun x hx => by rw [mem_mergeK, h1 x hx, h2 x hx, Bool.or_eq_true]⟩
theorem Ok.without {P : Str → Prop} {a : Option (List Str)} {d : Bool} {s : Str → Bool} {ns : List Str} (h : Ok P a d s) (f : ∀ x, P x → x ∉ ns) : Ok P (withoutF a ns) d s := by
  cases a with
  | none => exact h
  | some ks =>
    refine ⟨h.1, fun x hx => ?_⟩
    rw [List.mem_filter, ← h.2 x hx]
    exact ⟨fun q => q.1, fun q => ⟨q, by simpa using fun y hy (e : y = x) => f x hx (e ▸ hy)⟩⟩
theorem Ok.nil {P : Str → Prop} : Ok P (some []) false fun _ => false := ⟨rfl, fun x _ => by simp⟩
theorem Ok.conv {P : Str → Prop} {o : Option (List Str)} {d d' : Bool} {s s' : Str → Bool} (h : Ok P o d s) (hd : d = d') (hs : ∀ x, s x = s' x) : Ok P o d' s' := by
  subst hd
  rw [show s' = s from (funext hs).symm]; exact h
theorem Ok.prim {P : Str → Prop} {nd : Ex → Option (List Str)} {dead : Ex → Bool} {sr : Str → Ex → Bool} : ∀ (args : List Ex) (acc : Option (List Str)) (d : Bool) (s : Str → Bool), Ok P acc d s → (∀ a ∈ args, Ok P (nd a) (dead a) fun x => sr x a) →
    Ok P (args.foldl (fun acc a => bothF acc (nd a)) acc) (d || args.any dead) (fun x => s x || args.any (sr x))
  | [], acc, d, s, h, _ => h.conv (by simp) fun x => by simp
  | a :: r, acc, d, s, h, hr => by
    have := Ok.prim r _ _ _ (h.both (hr a (.head _))) fun b hb => hr b (.tail _ hb)
    rw [List.foldl_cons]
    exact this.conv (by rw [List.any_cons, Bool.or_assoc]) fun x => by rw [List.any_cons, Bool.or_assoc]
theorem Ok.app {P : Str → Prop} {nd : Ex → Option (List Str)} {dead : Ex → Bool} {sr : Str → Ex → Bool} {ks : List Str} {q : Str → Bool} : ∀ (zs : List (Str × Ex)) (acc : Option (List Str)) (d : Bool) (s : Str → Bool), Ok P acc d s → (∀ p ∈ zs, Ok P (nd p.2) (dead p.2) fun x => sr x p.2) → (∀ p ∈ zs, p.1 ∈ ks ↔ q p.1 = true) →
    Ok P (zs.foldl (flagF nd ks) acc) (d || zs.any fun p => q p.1 && dead p.2) (fun x => s x || zs.any fun p => q p.1 && sr x p.2)
  | [], acc, d, s, h, _, _ => h.conv (by simp) fun x => by simp
  | p :: r, acc, d, s, h, hr, hq => by
    have h0 := hq p (.head _)
    have h1 := hr p (.head _)
    rw [List.foldl_cons]
    unfold flagF
    by_cases hk : p.1 ∈ ks
    · rw [if_pos hk]
      have e := h0.mp hk
      have := Ok.app (dead := dead) (sr := sr) (q := q) r _ _ _ (h.both h1) (fun b hb => hr b (.tail _ hb)) fun b hb => hq b (.tail _ hb)
      exact this.conv (by rw [List.any_cons, e, Bool.true_and, Bool.or_assoc]) fun x => by rw [List.any_cons, e, Bool.true_and, Bool.or_assoc]
    · rw [if_neg hk]
      have e : q p.1 = false := by cases z : q p.1 with
        | false => rfl
        | true => exact absurd (h0.mpr z) hk
      have := Ok.app (dead := dead) (sr := sr) (q := q) r _ _ _ h (fun b hb => hr b (.tail _ hb)) fun b hb => hq b (.tail _ hb)
      exact this.conv (by rw [List.any_cons, e, Bool.false_and, Bool.false_or]) fun x => by rw [List.any_cons, e, Bool.false_and, Bool.false_or]
noncomputable def OkE (P : Str → Prop) (o : Option (List Str)) (d : Bool) (s : Str → Bool) : Prop :=
  match o with
  | none => d = true ∧ ∀ x, s x = true
  | some ks => d = false ∧ ∀ x, P x → (x ∈ ks ↔ s x = true)
theorem OkE.ok {P : Str → Prop} {o : Option (List Str)} {d : Bool} {s : Str → Bool} (h : OkE P o d s) : Ok P o d s := by
  cases o with
  | none => exact h.1
  | some ks => exact h
theorem OkE.step {P : Str → Prop} {acc o : Option (List Str)} {d e : Bool} {s t : Str → Bool} (h : OkE P acc d s) (k : Ok P o e t) : OkE P (eitherStep acc o) (d && e) (fun x => s x && (e || t x)) := by
  cases o with
  | none =>
    have : e = true := k
    subst this
    cases acc with
    | none => exact ⟨by rw [h.1]; rfl, fun x => by show (s x && _) = true; rw [h.2]; rfl⟩
    | some ks => exact ⟨by rw [h.1]; rfl, fun x hx => by rw [h.2 x hx]; simp⟩
  | some ks =>
    obtain ⟨rfl, k2⟩ := k
    cases acc with
    | none => exact ⟨Bool.and_false _, fun x hx => by simp [k2 x hx, h.2]⟩
    | some fs =>
      refine ⟨Bool.and_false _, fun x hx => ?_⟩
      rw [List.mem_filter, h.2 x hx]
      simp [k2 x hx]
theorem OkE.all {P : Str → Prop} {dead : Ex → Bool} {sr : Str → Ex → Bool} {lots : List (Option (List Str))} {ways : List Ex} (h : All2 (fun lot w => Ok P lot (dead w) fun x => sr x w) lots ways) :
    ∀ (acc : Option (List Str)) (d : Bool) (s : Str → Bool), OkE P acc d s → OkE P (lots.foldl eitherStep acc) (d && ways.all dead) (fun x => s x && ways.all fun w => dead w || sr x w) := by
  induction h with
  | nil => intro acc d s h; simpa using h
  | cons k _ ih =>
    intro acc d s h
    have := ih _ _ _ (h.step k)
    simp only [List.all_cons, ← Bool.and_assoc]
    exact this
theorem Ok.either {P : Str → Prop} {dead : Ex → Bool} {sr : Str → Ex → Bool} {lots : List (Option (List Str))} {ways : List Ex} (h : All2 (fun lot w => Ok P lot (dead w) fun x => sr x w) lots ways) :
    Ok P (eitherF lots) (ways.all dead) (fun x => (ways.filter fun w => !(dead w)).all (sr x)) := by
  have := (OkE.all h none true (fun _ => true) ⟨rfl, fun _ => rfl⟩).ok
  refine this.conv (by simp) fun x => ?_
  rw [List.all_filter]
  simp
theorem All2.app {α β : Type} {R : α → β → Prop} {as as' : List α} {bs bs' : List β} (x : All2 R as bs) (y : All2 R as' bs') : All2 R (as ++ as') (bs ++ bs') := by
  induction x with
  | nil => exact y
  | cons h _ ih => exact .cons h ih
theorem All2.maps {α β γ : Type} {R : β → γ → Prop} {f : α → β} {g : α → γ} : ∀ (l : List α), (∀ a ∈ l, R (f a) (g a)) → All2 R (l.map f) (l.map g)
  | [], _ => .nil
  | a :: r, h => .cons (h a (.head _)) (All2.maps r fun b hb => h b (.tail _ hb))
end Mine
end
section
open PySem
set_option maxRecDepth 10000
set_option linter.unusedVariables false
namespace Mine
inductive Reach (sr : Str → Ex → Bool) (binds : List (Str × Ex)) (b : Ex) : Str → Prop
  | base {m : Str} : m ∈ (binds.map fun q : Str × Ex => q.1) → sr m b = true → Reach sr binds b m
  | step {m o : Str} : Reach sr binds b m → o ∈ (binds.map fun q : Str × Ex => q.1) → sr o (rowF binds m) = true → Reach sr binds b o
theorem Reach.mem {sr : Str → Ex → Bool} {binds : List (Str × Ex)} {b : Ex} {m : Str} (h : Reach sr binds b m) : m ∈ (binds.map fun q : Str × Ex => q.1) := by
  cases h with
  | base h _ => exact h
  | step _ h _ => exact h
theorem nodup_len2 : ∀ (l l' : List Str), l.Nodup → (∀ x ∈ l, x ∈ l') → l.length ≤ l'.length
  | [], _, _, _ => Nat.zero_le _
  | a :: r, l', nd, h => by
    rw [List.nodup_cons] at nd
    have ha := h a (.head _)
    have ih := nodup_len2 r (l'.erase a) nd.2 fun x hx => (List.mem_erase_of_ne (fun (q : x = a) => nd.1 (q ▸ hx))).mpr (h x (.tail _ hx))
    rw [List.length_erase_of_mem ha] at ih
    have := List.length_pos_of_mem ha
    rw [List.length_cons]; lia
section
variable {sr : Str → Ex → Bool} {binds : List (Str × Ex)} {b : Ex}
theorem mem_reachAdd {found : List Str} {name o : Str} : o ∈ reachAdd sr binds found name ↔ o ∈ found ∨ (o ∈ (binds.map fun q : Str × Ex => q.1) ∧ o ∉ found ∧ sr o (rowF binds name) = true) := by
  unfold reachAdd
  rw [List.mem_append, List.mem_filter, Bool.and_eq_true]
  rw [notAny]
theorem reach_sound : ∀ (k i : Nat) (found : List Str), (∀ m ∈ found, Reach sr binds b m) → ∀ m ∈ reachLoop sr binds k i found, Reach sr binds b m
  | 0, _, _, h => h
  | k + 1, i, found, h => by
    unfold reachLoop
    split
    · exact h
    · rename_i name e
      refine reach_sound k (i + 1) _ fun m hm => ?_
      rcases mem_reachAdd.mp hm with q | ⟨q1, _, q2⟩
      · exact h m q
      · exact .step (h name (List.mem_of_getElem? e)) q1 q2
theorem reach_closed (ndb : (binds.map fun q : Str × Ex => q.1).Nodup) : ∀ (k i : Nat) (found : List Str), found.Nodup → (∀ m ∈ found, m ∈ (binds.map fun q : Str × Ex => q.1)) → i ≤ found.length → binds.length + 1 ≤ i + k →
    (∀ j m, j < i → found[j]? = some m → ∀ o ∈ (binds.map fun q : Str × Ex => q.1), sr o (rowF binds m) = true → o ∈ found) →
    (∀ m ∈ found, m ∈ reachLoop sr binds k i found) ∧ ∀ m ∈ reachLoop sr binds k i found, ∀ o ∈ (binds.map fun q : Str × Ex => q.1), sr o (rowF binds m) = true → o ∈ reachLoop sr binds k i found
  | 0, i, found, nd, sub, hi, hk, _ => by
    have := nodup_len2 _ _ nd sub
    rw [List.length_map] at this
    lia
  | k + 1, i, found, nd, sub, hi, hk, cl => by
    unfold reachLoop
    split
    · rename_i e
      refine ⟨fun m h => h, fun m hm o ho hs => ?_⟩
      obtain ⟨j, hj⟩ := List.getElem?_of_mem hm
      have hl : found.length ≤ i := List.getElem?_eq_none_iff.mp e
      have hj' : j < found.length := by
        rcases Nat.lt_or_ge j found.length with q | q
        · exact q
        · rw [List.getElem?_eq_none_iff.mpr q] at hj; cases hj
      exact cl j m (by lia) hj o ho hs
    · rename_i name e
      have hl : i < found.length := by
        rcases Nat.lt_or_ge i found.length with q | q
        · exact q
        · rw [List.getElem?_eq_none_iff.mpr q] at e; cases e
      have key := reach_closed ndb k (i + 1) (reachAdd sr binds found name) ?_ (fun m hm => ?_) ?_ (by lia) ?_
      · exact ⟨fun m hm => key.1 m (mem_reachAdd.mpr (.inl hm)), key.2⟩
      · unfold reachAdd
        rw [List.nodup_append]
        refine ⟨nd, ndb.sublist List.filter_sublist, fun x hx y hy q => ?_⟩
        subst q
        have := (List.mem_filter.mp hy).2
        rw [Bool.and_eq_true] at this
        have h2 : x ∉ found := notAny.mp this.1
        exact h2 hx
      · rcases mem_reachAdd.mp hm with q | q
        · exact sub m q
        · exact q.1
      · unfold reachAdd; rw [List.length_append]; lia
      · intro j m hj hm o ho hs
        have hjl : j < found.length := by lia
        have hm' : found[j]? = some m := by
          unfold reachAdd at hm
          rwa [List.getElem?_append_left hjl] at hm
        rcases Nat.lt_or_ge j i with q | q
        · exact mem_reachAdd.mpr (.inl (cl j m q hm' o ho hs))
        · have : j = i := by lia
          subst this
          rw [e] at hm'; cases hm'
          by_cases hf : o ∈ found
          · exact mem_reachAdd.mpr (.inl hf)
          · exact mem_reachAdd.mpr (.inr ⟨ho, hf, hs⟩)
theorem mem_reachedF (ndb : (binds.map fun q : Str × Ex => q.1).Nodup) {m : Str} : m ∈ reachedF sr binds b ↔ Reach sr binds b m := by
  have h0 : ∀ m ∈ ((binds.map fun q : Str × Ex => q.1).filter fun n => sr n b), Reach sr binds b m := fun m hm => .base (List.mem_filter.mp hm).1 (List.mem_filter.mp hm).2
  have key := reach_closed (sr := sr) ndb (binds.length + 1) 0 ((binds.map fun q : Str × Ex => q.1).filter fun n => sr n b) (ndb.sublist List.filter_sublist) (fun m hm => (List.mem_filter.mp hm).1) (Nat.zero_le _) (by lia) (fun j m hj => by lia)
  refine ⟨fun h => reach_sound _ _ _ h0 m h, fun h => ?_⟩
  unfold reachedF
  induction h with
  | base h1 h2 => exact key.1 _ (List.mem_filter.mpr ⟨h1, h2⟩)
  | step _ h1 h2 ih => exact key.2 _ ih _ h1 h2
theorem lookup_wait {picked : List Str} {name : Str} : ∀ (l : List (Str × Ex)), (l.filter fun p => !(picked.any (· == p.1))).lookup name = if name ∈ picked then none else l.lookup name
  | [] => by simp
  | (k, e) :: r => by
    have ih := lookup_wait (picked := picked) (name := name) r
    by_cases h : k ∈ picked
    · have : (!(picked.any (· == (k, e).1))) = false := by rw [any_mem.mpr h]; rfl
      rw [List.filter_cons, if_neg (by rw [this]; simp), ih]
      by_cases hn : name ∈ picked
      · rw [if_pos hn, if_pos hn]
      · rw [if_neg hn, if_neg hn, List.lookup_cons]
        have : (name == k) = false := by simpa using fun q : name = k => hn (q ▸ h)
        rw [this]
    · have : (!(picked.any (· == (k, e).1))) = true := notAny.mpr h
      rw [List.filter_cons, if_pos this, List.lookup_cons, ih, List.lookup_cons]
      cases hq : name == k with
      | true =>
        have : name = k := by simpa using hq
        subst this
        simp only [if_neg h]
      | false => by_cases hn : name ∈ picked <;> simp [hn]
theorem lookup_mem {name : Str} : ∀ {l : List (Str × Ex)}, name ∈ (l.map fun q : Str × Ex => q.1) → ∃ e, l.lookup name = some e
  | [], h => by simp at h
  | (k, e) :: r, h => by
    rw [List.lookup_cons]
    cases hq : name == k with
    | true => exact ⟨e, rfl⟩
    | false =>
      have hne : name ≠ k := by simpa using hq
      rw [List.map_cons, List.mem_cons] at h
      exact lookup_mem (h.resolve_left hne)
theorem mem_of_lookupE {name : Str} {e : Ex} : ∀ {l : List (Str × Ex)}, l.lookup name = some e → (name, e) ∈ l
  | [], h => by simp at h
  | (k, e') :: r, h => by
    rw [List.lookup_cons] at h
    cases hq : name == k with
    | true =>
      have : name = k := by simpa using hq
      subst this
      rw [hq] at h; cases h; exact .head _
    | false => rw [hq] at h; exact .tail _ (mem_of_lookupE h)
theorem rowF_mem {name : Str} (h : name ∈ (binds.map fun q : Str × Ex => q.1)) : (name, rowF binds name) ∈ binds := by
  obtain ⟨e, he⟩ := lookup_mem h
  have := mem_of_lookupE he
  unfold rowF
  rw [he]; exact this
variable {nd : Ex → Option (List Str)} {dead : Ex → Bool} {P : Str → Prop}
structure PickInv (nd : Ex → Option (List Str)) (dead : Ex → Bool) (P : Str → Prop) (sr : Str → Ex → Bool) (binds : List (Str × Ex)) (b : Ex) (picked : List Str) (s : Bs) : Prop where
  wait : s.wait = binds.filter fun p => !(picked.any (· == p.1))
  reach : ∀ m ∈ picked, Reach sr binds b m
  none : s.needs = none → dead b = true ∨ ∃ m, Reach sr binds b m ∧ dead (rowF binds m) = true
  some : ∀ ks, s.needs = some ks → dead b = false ∧ (∀ m ∈ picked, dead (rowF binds m) = false) ∧ ∀ x, P x → (x ∈ ks ↔ sr x b = true ∨ ∃ m ∈ picked, sr x (rowF binds m) = true)
theorem PickInv.step {picked : List Str} {s : Bs} {name : Str} (hr : ∀ p ∈ binds, Ok P (nd p.2) (dead p.2) fun x => sr x p.2) (hP : ∀ p ∈ binds, P p.1) (I : PickInv nd dead P sr binds b picked s) :
    ∃ picked', PickInv nd dead P sr binds b picked' (bindStep nd s name) := by
  unfold bindStep
  split
  · rename_i e ks hw hn
    split
    · rename_i hk
      rw [I.wait, lookup_wait] at hw
      have hnp : name ∉ picked := fun q => by rw [if_pos q] at hw; cases hw
      rw [if_neg hnp] at hw
      have hm := mem_of_lookupE hw
      have hmn : name ∈ (binds.map fun q : Str × Ex => q.1) := List.mem_map_of_mem (f := fun q : Str × Ex => q.1) hm
      have hrow : rowF binds name = e := by unfold rowF; rw [hw]; rfl
      obtain ⟨i1, i2, i3⟩ := I.some ks hn
      have hR : Reach sr binds b name := by
        rcases (i3 name (hP _ hm)).mp hk with q | ⟨m, hm', q⟩
        · exact .base hmn q
        · exact .step (I.reach m hm') hmn q
      have ho : Ok P (nd e) (dead e) fun x => sr x e := hr _ hm
      refine ⟨name :: picked, ⟨?_, fun m h => ?_, fun h => ?_, fun ks' h => ?_⟩⟩
      · show s.wait.filter (fun p => !(p.1 == name)) = _
        rw [I.wait, List.filter_filter]
        refine List.filter_congr fun p _ => ?_
        rw [List.any_cons, Bool.not_or]
        congr 1
        rw [show (p.1 == name) = (name == p.1) from by rw [Bool.eq_iff_iff, beq_iff_eq, beq_iff_eq]; exact eq_comm]
      · rcases List.mem_cons.mp h with rfl | h
        · exact hR
        · exact I.reach m h
      · refine .inr ⟨name, hR, ?_⟩
        have h' : bothF (Option.some ks) (nd e) = Option.none := h
        cases hne : nd e with
        | none => rw [hne] at ho; rw [hrow]; exact ho
        | some q => rw [hne] at h'; cases h'
      · have h' : bothF (Option.some ks) (nd e) = Option.some ks' := h
        cases hne : nd e with
        | none => rw [hne] at h'; cases h'
        | some q =>
          rw [hne] at h' ho
          cases h'
          refine ⟨i1, fun m hm' => ?_, fun x hx => ?_⟩
          · rcases List.mem_cons.mp hm' with rfl | hm'
            · rw [hrow]; exact ho.1
            · exact i2 m hm'
          · rw [mem_mergeK, i3 x hx, ho.2 x hx, or_assoc]
            refine or_congr_right ⟨fun z => ?_, fun z => ?_⟩
            · rcases z with ⟨m, h1, h2⟩ | z
              · exact ⟨m, .tail _ h1, h2⟩
              · exact ⟨name, .head _, by rw [hrow]; exact z⟩
            · obtain ⟨m, h1, h2⟩ := z
              rcases List.mem_cons.mp h1 with rfl | h1
              · rw [hrow] at h2; exact .inr h2
              · exact .inl ⟨m, h1, h2⟩
    · exact ⟨picked, I⟩
  · exact ⟨picked, I⟩
theorem PickInv.pass (hr : ∀ p ∈ binds, Ok P (nd p.2) (dead p.2) fun x => sr x p.2) (hP : ∀ p ∈ binds, P p.1) : ∀ (l : List Str) (picked : List Str) (s : Bs), PickInv nd dead P sr binds b picked s → ∃ picked', PickInv nd dead P sr binds b picked' (l.foldl (bindStep nd) s)
  | [], picked, s, I => ⟨picked, I⟩
  | name :: r, picked, s, I => let ⟨p', I'⟩ := I.step (name := name) hr hP; PickInv.pass hr hP r p' _ I'
theorem PickInv.loop (hr : ∀ p ∈ binds, Ok P (nd p.2) (dead p.2) fun x => sr x p.2) (hP : ∀ p ∈ binds, P p.1) (known : List Str) : ∀ (k : Nat) (picked : List Str) (s : Bs), PickInv nd dead P sr binds b picked s → ∃ picked', PickInv nd dead P sr binds b picked' (bindLoop nd known k s)
  | 0, picked, s, I => ⟨picked, I⟩
  | k + 1, picked, s, I => by
    unfold bindLoop
    split
    · exact ⟨picked, I⟩
    · split
      · have I' : PickInv nd dead P sr binds b picked { s with more := false } := ⟨I.wait, I.reach, I.none, I.some⟩
        obtain ⟨p', I2⟩ := I'.pass hr hP known
        exact PickInv.loop hr hP known k p' _ I2
      · exact ⟨picked, I⟩
noncomputable def Done (known : List Str) (s : Bs) : Prop := ∀ ks, s.needs = some ks → ∀ name ∈ known, name ∈ ks → s.wait.lookup name = none
theorem step_more {s : Bs} {name : Str} (h : s.more = true) : (bindStep nd s name).more = true := by
  unfold bindStep
  split
  · split
    · rfl
    · exact h
  · exact h
theorem pass_more : ∀ (l : List Str) {s : Bs}, s.more = true → (l.foldl (bindStep nd) s).more = true
  | [], _, h => h
  | _ :: r, _, h => pass_more r (step_more h)
theorem pass_still : ∀ (l : List Str) (s : Bs), (l.foldl (bindStep nd) s).more = false → l.foldl (bindStep nd) s = s ∧ Done l s
  | [], s, h => ⟨rfl, fun _ _ _ hm => by simp at hm⟩
  | name :: r, s, h => by
    rw [List.foldl_cons] at h ⊢
    have hs : bindStep nd s name = s ∧ (∀ ks, s.needs = some ks → name ∈ ks → s.wait.lookup name = none) := by
      have hm : (bindStep nd s name).more = false := by
        cases q : (bindStep nd s name).more with
        | false => rfl
        | true => rw [pass_more r q] at h; cases h
      unfold bindStep at hm ⊢
      split
      · rename_i e ks hw hn
        rw [hw, hn] at hm
        dsimp only at hm
        split
        · rename_i hk; rw [if_pos hk] at hm; cases hm
        · rename_i hk; exact ⟨rfl, fun ks' h1 h2 => by rw [hn] at h1; cases h1; exact absurd h2 hk⟩
      · rename_i hno
        refine ⟨rfl, fun ks h1 h2 => ?_⟩
        cases hw : s.wait.lookup name with
        | none => rfl
        | some e => exact absurd h1 (hno e ks hw)
    rw [hs.1] at h ⊢
    obtain ⟨e, D⟩ := pass_still r s h
    refine ⟨e, fun ks h1 n hn h2 => ?_⟩
    rcases List.mem_cons.mp hn with rfl | hn
    · exact hs.2 ks h1 h2
    · exact D ks h1 n hn h2
theorem step_wait {s : Bs} {name : Str} : (bindStep nd s name).wait.length ≤ s.wait.length ∧ (s.more = false → (bindStep nd s name).more = true → (bindStep nd s name).wait.length < s.wait.length) := by
  unfold bindStep
  split
  · rename_i e ks hw hn
    split
    · have lt : (s.wait.filter fun p => !(p.1 == name)).length < s.wait.length := by
        rcases Nat.lt_or_ge (s.wait.filter fun p => !(p.1 == name)).length s.wait.length with q | q
        · exact q
        · have := List.length_filter_eq_length_iff.mp (Nat.le_antisymm (List.length_filter_le _ _) q) _ (mem_of_lookupE hw)
          simp at this
      exact ⟨Nat.le_of_lt lt, fun _ _ => lt⟩
    · exact ⟨Nat.le_refl _, fun a b => by rw [a] at b; cases b⟩
  · exact ⟨Nat.le_refl _, fun a b => by rw [a] at b; cases b⟩
theorem pass_wait : ∀ (l : List Str) (s : Bs), (l.foldl (bindStep nd) s).wait.length ≤ s.wait.length ∧ (s.more = false → (l.foldl (bindStep nd) s).more = true → (l.foldl (bindStep nd) s).wait.length < s.wait.length)
  | [], s => ⟨Nat.le_refl _, fun a b => by rw [List.foldl_nil, a] at b; cases b⟩
  | name :: r, s => by
    rw [List.foldl_cons]
    obtain ⟨h1, h2⟩ := step_wait (nd := nd) (s := s) (name := name)
    obtain ⟨h3, h4⟩ := pass_wait r (bindStep nd s name)
    refine ⟨Nat.le_trans h3 h1, fun a c => ?_⟩
    cases q : (bindStep nd s name).more with
    | true => exact Nat.lt_of_le_of_lt h3 (h2 a q)
    | false => exact Nat.lt_of_lt_of_le (h4 q c) h1
theorem loop_done (known : List Str) : ∀ (k : Nat) (s : Bs), (s.more = true ∧ s.wait.length + 2 ≤ k ∨ s.more = false ∧ Done known s) → Done known (bindLoop nd known k s)
  | 0, s, h => by
    rcases h with h | h
    · lia
    · exact h.2
  | k + 1, s, h => by
    unfold bindLoop
    split
    · rename_i hn
      intro ks hk; rw [hn] at hk; cases hk
    · rename_i ks0 hn
      rcases h with ⟨hm, hk⟩ | ⟨hm, D⟩
      · rw [if_pos hm]
        refine loop_done known k _ ?_
        unfold bindPass
        cases q : (known.foldl (bindStep nd) { s with more := false }).more with
        | true =>
          have := (pass_wait (nd := nd) known { s with more := false }).2 rfl q
          have : (known.foldl (bindStep nd) { s with more := false }).wait.length < s.wait.length := this
          exact .inl ⟨rfl, by lia⟩
        | false =>
          obtain ⟨e, D⟩ := pass_still known _ q
          refine .inr ⟨rfl, ?_⟩
          rw [e]; exact D
      · rw [if_neg (by rw [hm]; simp)]; exact D
theorem Ok.let_ (ndb : (binds.map fun q : Str × Ex => q.1).Nodup) (hP : ∀ p ∈ binds, P p.1) (hb : Ok P (nd b) (dead b) fun x => sr x b) (hr : ∀ p ∈ binds, Ok P (nd p.2) (dead p.2) fun x => sr x p.2) :
    Ok (fun x => P x ∧ x ∉ (binds.map fun q : Str × Ex => q.1)) (letF nd binds b) (dead b || (reachedF sr binds b).any fun m => dead (rowF binds m)) (fun x => sr x b || (reachedF sr binds b).any fun m => sr x (rowF binds m)) := by
  have I0 : PickInv nd dead P sr binds b [] ⟨nd b, binds, true⟩ := ⟨(List.filter_eq_self.mpr fun _ _ => rfl).symm, fun m h => by simp at h, fun h => by
    have h' : nd b = none := h
    rw [h'] at hb; exact .inl hb, fun ks h => by
    have h' : nd b = some ks := h
    rw [h'] at hb
    exact ⟨hb.1, fun m h => by simp at h, fun x hx => by rw [hb.2 x hx]; simp⟩⟩
  obtain ⟨picked, I⟩ := I0.loop hr hP (binds.map (·.1)) (binds.length + 2)
  have D := loop_done (nd := nd) (binds.map (·.1)) (binds.length + 2) ⟨nd b, binds, true⟩ (.inl ⟨rfl, Nat.le_refl _⟩)
  unfold letF
  generalize bindLoop nd (binds.map (·.1)) (binds.length + 2) ⟨nd b, binds, true⟩ = s at *
  cases hn : s.needs with
  | none =>
    show _ = true
    rcases I.none hn with q | ⟨m, hm, q⟩
    · rw [q]; rfl
    · rw [Bool.or_eq_true]
      exact .inr (List.any_eq_true.mpr ⟨m, (mem_reachedF ndb).mpr hm, q⟩)
  | some ks =>
    obtain ⟨i1, i2, i3⟩ := I.some ks hn
    have pk : ∀ o, o ∈ (binds.map fun q : Str × Ex => q.1) → o ∈ ks → o ∈ picked := fun o ho hk => by
      have := D ks hn o ho hk
      rw [I.wait, lookup_wait] at this
      by_cases hp : o ∈ picked
      · exact hp
      · rw [if_neg hp] at this
        obtain ⟨e, he⟩ := lookup_mem ho
        rw [he] at this; cases this
    have sub : ∀ m, Reach sr binds b m → m ∈ picked := fun m hm => by
      induction hm with
      | base h1 h2 =>
        rename_i m
        exact pk m h1 ((i3 m (hP _ (rowF_mem h1))).mpr (.inl h2))
      | step _ h1 h2 ih =>
        rename_i m o _
        exact pk o h1 ((i3 o (hP _ (rowF_mem h1))).mpr (.inr ⟨m, ih, h2⟩))
    refine ⟨?_, fun x hx => ?_⟩
    · rw [i1, Bool.false_or, List.any_eq_false]
      intro m hm
      rw [i2 m (sub m ((mem_reachedF ndb).mp hm))]; simp
    · rw [List.mem_filter, i3 x hx.1, Bool.or_eq_true, List.any_eq_true]
      have h3 : (!((binds.map (·.1)).any (· == x))) = true := by
        have := hx.2
        rw [Bool.not_eq_true', List.any_eq_false]
        intro y hy q
        have : y = x := by simpa using q
        subst this
        exact hx.2 hy
      constructor
      · rintro ⟨q | ⟨m, h1, h2⟩, _⟩
        · exact .inl q
        · exact .inr ⟨m, (mem_reachedF ndb).mpr (I.reach m h1), h2⟩
      · rintro (q | ⟨m, h1, h2⟩)
        · exact ⟨.inl q, h3⟩
        · exact ⟨.inr ⟨m, sub m ((mem_reachedF ndb).mp h1), h2⟩, h3⟩
end
end Mine
end
section
open PySem
set_option maxRecDepth 10000
set_option linter.unusedVariables false
namespace Mine
theorem need_ok : ∀ (n : Nat) (e : Ex), Few n e → UB n e → Ok (fun x => NB n x e) (needF n e) (deadF n e) (fun x => sureF n x e)
  | 0, _, h, _ => h.elim
  | n + 1, .var x, _, _ => ⟨rfl, fun y _ => by
      show y ∈ [x] ↔ (x == y) = true
      rw [List.mem_singleton, beq_iff_eq]; exact eq_comm⟩
  | n + 1, .lit, _, _ => Ok.nil
  | n + 1, .con, _, _ => Ok.nil
  | n + 1, .appv f _, _, _ => ⟨rfl, fun y _ => by
      show y ∈ [f] ↔ (f == y) = true
      rw [List.mem_singleton, beq_iff_eq]; exact eq_comm⟩
  | n + 1, .prim true args, _, _ => by
      show (true || args.any (deadF n)) = true
      rfl
  | n + 1, .prim false args, hF, hU =>
      (Ok.prim (P := fun x => NB (n + 1) x (.prim false args)) (nd := needF n) (dead := deadF n) (sr := sureF n) args (some []) false (fun _ => false) Ok.nil fun a ha => (need_ok n a (hF.2 a ha) (hU a ha)).mono fun x hx => hx a ha).conv rfl fun x => Bool.false_or _
  | n + 1, .case e c alts o, hF, hU => by
      obtain ⟨f1, f2, f3, f4, f5⟩ := hF
      obtain ⟨u1, u2, u3⟩ := hU
      have he := (need_ok n e f1 u1).mono (P' := fun x => NB (n + 1) x (.case e c alts o)) fun x hx => hx.1
      have hw : All2 (fun lot w => Ok (fun x => NB (n + 1) x (.case e c alts o)) lot (deadF n w) fun x => sureF n x w) (alts.map (fun p => withoutF (needF n p.2) (p.1 ++ [c])) ++ (o.map fun e => withoutF (needF n e) [c]).toList) (waysF alts o) := by
        refine All2.app (All2.maps alts fun p hp => ?_) ?_
        · refine ((need_ok n p.2 (f3 p hp) (u2 p hp)).mono fun x hx => (hx.2.2.1 p hp).2).without fun x hx => ?_
          rw [List.mem_append, List.mem_singleton]
          rintro (q | q)
          · exact (hx.2.2.1 p hp).1 q
          · exact hx.2.1 q
        · cases o with
          | none => exact .nil
          | some w =>
            refine .cons (((need_ok n w (f4 w rfl) (u3 w rfl)).mono fun x hx => hx.2.2.2 w rfl).without fun x hx => ?_) .nil
            rw [List.mem_singleton]; exact hx.2.1
      exact (he.both (Ok.either hw)).conv rfl fun x => rfl
  | n + 1, .let_ binds b r, hF, hU => by
      obtain ⟨f1, f2, f3, f4⟩ := hF
      obtain ⟨u1, u2, u3, u4⟩ := hU
      have := Ok.let_ (P := fun x => NB n x b ∧ ∀ p ∈ binds, NB n x p.2) (nd := needF n) (dead := deadF n) (sr := sureF n) (b := b) f2 (fun p hp => ⟨u2 p hp, fun q hq => u1 p hp q hq⟩) ((need_ok n b f4 u4).mono fun x hx => hx.1) fun p hp => (need_ok n p.2 (f3 p hp) (u3 p hp)).mono fun x hx => hx.2 p hp
      refine (this.mono (P' := fun x => NB (n + 1) x (.let_ binds b r)) fun x hx => ⟨⟨hx.2, fun p hp => (hx.1 p hp).2⟩, fun hm => ?_⟩).conv rfl fun x => rfl
      obtain ⟨p, hp, e⟩ := List.mem_map.mp hm
      exact (hx.1 p hp).1 e.symm
  | n + 1, .appl ps b args, hF, hU => by
      obtain ⟨f1, f2, f3, f4⟩ := hF
      obtain ⟨u1, u2, u3⟩ := hU
      have e1 : needF (n + 1) (.appl ps b args) = appF (needF n) ps b args := rfl
      have e2 : deadF (n + 1) (.appl ps b args) = if args.length < ps.length then false else deadF n b || (ps.zip args).any fun p => sureF n p.1 b && deadF n p.2 := rfl
      have e3 : ∀ x, sureF (n + 1) x (.appl ps b args) = if args.length < ps.length then false else if sureF n x b then true else (ps.zip args).any fun p => sureF n p.1 b && sureF n x p.2 := fun x => rfl
      rw [e1, e2]
      unfold appF
      by_cases hc : args.length < ps.length
      · rw [if_pos hc, if_pos hc]
        exact Ok.nil.conv rfl fun x => by rw [e3, if_pos hc]
      · rw [if_neg hc, if_neg hc]
        have hb := need_ok n b f2 u2
        cases hn : needF n b with
        | none =>
          rw [hn] at hb
          have : deadF n b = true := hb
          show (deadF n b || _) = true
          rw [this]; rfl
        | some ks =>
          rw [hn] at hb
          dsimp only
          have hb' : Ok (fun x => NB (n + 1) x (.appl ps b args)) (some ks) (deadF n b) (fun x => sureF n x b) := hb.mono fun x hx => hx.2.1
          have h0 := Ok.nil.both (hb'.without (ns := ps) fun x hx => hx.1)
          have := Ok.app (nd := needF n) (dead := deadF n) (sr := sureF n) (ks := ks) (q := fun p => sureF n p b) (ps.zip args) _ _ _ h0 (fun p hp => (need_ok n p.2 (f4 _ (List.of_mem_zip hp).2) (u3 _ (List.of_mem_zip hp).2)).mono fun x hx => hx.2.2 _ (List.of_mem_zip hp).2) fun p hp => hb.2 p.1 (u1 _ (List.of_mem_zip hp).1)
          refine this.conv (by rw [Bool.false_or]) fun x => ?_
          rw [e3, if_neg hc, Bool.false_or]
          cases sureF n x b <;> rfl
noncomputable def InS (Γ : List Str) (o : Option (List Str)) : Prop := ∀ ks, o = some ks → ∀ k ∈ ks, k ∈ Γ
theorem InS.both {Γ : List Str} {a b : Option (List Str)} (ha : InS Γ a) (hb : InS Γ b) : InS Γ (bothF a b) := by
  intro ks h k hk
  cases a with
  | none => cases h
  | some p =>
    cases b with
    | none => cases h
    | some q =>
      cases h
      exact ((mem_mergeK _ _).mp hk).elim (ha _ rfl k) (hb _ rfl k)
theorem InS.without {Γ ns Δ : List Str} {a : Option (List Str)} (ha : InS Δ a) (h : ∀ x ∈ Δ, x ∉ ns → x ∈ Γ) : InS Γ (withoutF a ns) := by
  intro ks e k hk
  cases a with
  | none => cases e
  | some p =>
    cases e
    have := List.mem_filter.mp hk
    exact h k (ha _ rfl k this.1) (notAny.mp this.2)
theorem InS.either {Γ : List Str} : ∀ (lots : List (Option (List Str))) (acc : Option (List Str)), InS Γ acc → (∀ l ∈ lots, InS Γ l) → InS Γ (lots.foldl eitherStep acc)
  | [], _, h, _ => h
  | l :: r, acc, h, hl => by
    refine InS.either r _ ?_ fun m hm => hl m (.tail _ hm)
    have h2 := hl l (.head _)
    unfold eitherStep
    split
    · exact h
    · exact h2
    · intro ks e k hk
      cases e
      exact h _ rfl k (List.mem_filter.mp hk).1
theorem InS.prim {Γ : List Str} {nd : Ex → Option (List Str)} : ∀ (args : List Ex) (acc : Option (List Str)), InS Γ acc → (∀ a ∈ args, InS Γ (nd a)) → InS Γ (args.foldl (fun acc a => bothF acc (nd a)) acc)
  | [], _, h, _ => h
  | a :: r, acc, h, hr => InS.prim r _ (h.both (hr a (.head _))) fun b hb => hr b (.tail _ hb)
theorem InS.app {Γ ks : List Str} {nd : Ex → Option (List Str)} : ∀ (zs : List (Str × Ex)) (acc : Option (List Str)), InS Γ acc → (∀ p ∈ zs, InS Γ (nd p.2)) → InS Γ (zs.foldl (flagF nd ks) acc)
  | [], _, h, _ => h
  | p :: r, acc, h, hr => by
    refine InS.app r _ ?_ fun b hb => hr b (.tail _ hb)
    unfold flagF
    split
    · exact h.both (hr p (.head _))
    · exact h
theorem InS.step {Γ : List Str} {nd : Ex → Option (List Str)} {s : Bs} {name : Str} (h : InS Γ s.needs) (hw : ∀ p ∈ s.wait, InS Γ (nd p.2)) : InS Γ (bindStep nd s name).needs ∧ ∀ p ∈ (bindStep nd s name).wait, InS Γ (nd p.2) := by
  unfold bindStep
  split
  · rename_i e ks h1 h2
    split
    · rw [h2] at h
      exact ⟨h.both (hw _ (mem_of_lookupE h1)), fun p hp => hw p (List.mem_filter.mp hp).1⟩
    · exact ⟨h, hw⟩
  · exact ⟨h, hw⟩
theorem InS.pass {Γ : List Str} {nd : Ex → Option (List Str)} : ∀ (l : List Str) (s : Bs), InS Γ s.needs → (∀ p ∈ s.wait, InS Γ (nd p.2)) → InS Γ (l.foldl (bindStep nd) s).needs ∧ ∀ p ∈ (l.foldl (bindStep nd) s).wait, InS Γ (nd p.2)
  | [], _, h, hw => ⟨h, hw⟩
  | name :: r, s, h, hw => let ⟨h1, h2⟩ := InS.step (name := name) h hw; InS.pass r _ h1 h2
theorem InS.loop {Γ known : List Str} {nd : Ex → Option (List Str)} : ∀ (k : Nat) (s : Bs), InS Γ s.needs → (∀ p ∈ s.wait, InS Γ (nd p.2)) → InS Γ (bindLoop nd known k s).needs
  | 0, _, h, _ => h
  | k + 1, s, h, hw => by
    unfold bindLoop
    split
    · exact h
    · split
      · obtain ⟨h1, h2⟩ := InS.pass (nd := nd) known { s with more := false } h hw
        exact InS.loop k _ h1 h2
      · exact h
theorem need_sc : ∀ (n : Nat) (e : Ex) (Γ : List Str), Sc n Γ e → InS Γ (needF n e)
  | 0, _, _, _ => fun _ h => by cases h
  | n + 1, .var x, Γ, h => fun ks e k hk => by cases e; rw [List.mem_singleton.mp hk]; exact h
  | n + 1, .lit, Γ, h => fun ks e k hk => by cases e; simp at hk
  | n + 1, .con, Γ, h => fun ks e k hk => by cases e; simp at hk
  | n + 1, .appv f _, Γ, h => fun ks e k hk => by cases e; rw [List.mem_singleton.mp hk]; exact h
  | n + 1, .prim true args, Γ, h => fun ks e => by cases e
  | n + 1, .prim false args, Γ, h => InS.prim args _ (fun ks e k hk => by cases e; simp at hk) fun a ha => need_sc n a Γ (h a ha)
  | n + 1, .case e c alts o, Γ, h => by
      obtain ⟨h1, h2, h3⟩ := h
      refine InS.both (need_sc n e Γ h1) (InS.either _ none (fun ks e => by cases e) fun l hl => ?_)
      rcases List.mem_append.mp hl with hl | hl
      · obtain ⟨p, hp, rfl⟩ := List.mem_map.mp hl
        refine (need_sc n p.2 _ (h2 p hp)).without fun x hx hn => ?_
        rw [List.mem_append, List.mem_singleton] at hn
        rcases List.mem_append.mp hx with q | q
        · exact q
        · rcases List.mem_cons.mp q with q | q
          · exact absurd (.inr q) hn
          · exact absurd (.inl q) hn
      · cases o with
        | none => simp at hl
        | some w =>
          rw [List.mem_singleton.mp (show l ∈ [withoutF (needF n w) [c]] from by simpa using hl)]
          refine (need_sc n w _ (h3 w rfl)).without fun x hx hn => ?_
          exact (List.mem_append.mp hx).resolve_right hn
  | n + 1, .let_ binds b r, Γ, h => by
      obtain ⟨h1, h2, h3⟩ := h
      refine InS.without (Δ := Γ ++ (binds.map fun q : Str × Ex => q.1)) (InS.loop _ _ (need_sc n b _ h3) fun p hp => ?_) fun x hx hn => (List.mem_append.mp hx).resolve_right hn
      have := need_sc n p.2 _ (h2 p hp)
      cases r with
      | true => exact this
      | false => exact fun ks e k hk => List.mem_append_left _ (this ks e k hk)
  | n + 1, .appl ps b args, Γ, h => by
      obtain ⟨h1, h2⟩ := h
      show InS Γ (appF (needF n) ps b args)
      unfold appF
      split
      · intro ks e k hk; cases e; simp at hk
      · split
        · intro ks e; cases e
        · rename_i ks hk
          have hb := need_sc n b _ h1
          rw [hk] at hb
          refine InS.app _ _ (InS.both (fun ks e k hk => by cases e; simp at hk) (hb.without fun x hx hn => (List.mem_append.mp hx).resolve_right hn)) fun p hp => need_sc n p.2 Γ (h2 _ (List.of_mem_zip hp).2)
end Mine
end
section
open PySem
set_option maxRecDepth 10000
set_option linter.unusedVariables false
namespace Mine
theorem goneStep_mem {cm : Ex → List Str → Bool} {binds : List (Str × Ex)} {r : Bool} {lost gone : List Str} {x : Str} : x ∈ goneStep cm binds r lost gone ↔ x ∈ lost ∨ ∃ p ∈ binds, p.1 = x ∧ cm p.2 (if r then gone else lost) = false := by
  unfold goneStep
  rw [List.mem_append, List.mem_map]
  refine or_congr_right ⟨fun ⟨p, hp, e⟩ => ?_, fun ⟨p, hp, e, h⟩ => ⟨p, List.mem_filter.mpr ⟨hp, by rw [h]; rfl⟩, e⟩⟩
  have := List.mem_filter.mp hp
  exact ⟨p, this.1, e, by simpa using this.2⟩
theorem gone_lost {cm : Ex → List Str → Bool} {binds : List (Str × Ex)} {r : Bool} {lost : List Str} {x : Str} (h : x ∈ lost) : ∀ k, x ∈ goneF cm binds r lost k
  | 0 => h
  | k + 1 => goneStep_mem.mpr (.inl h)
noncomputable def Anti (cm : Ex → List Str → Bool) : Prop := ∀ e l l', (∀ x ∈ l, x ∈ l') → cm e l' = true → cm e l = true
theorem Anti.f {cm : Ex → List Str → Bool} (h : Anti cm) {e : Ex} {l l' : List Str} (s : ∀ x ∈ l, x ∈ l') (k : cm e l = false) : cm e l' = false := by
  cases q : cm e l' with
  | false => rfl
  | true => rw [h e l l' s q] at k; cases k
theorem gone_sub {cm : Ex → List Str → Bool} (hc : Anti cm) {binds : List (Str × Ex)} {r : Bool} {l l' : List Str} (s : ∀ x ∈ l, x ∈ l') : ∀ k, ∀ x ∈ goneF cm binds r l k, x ∈ goneF cm binds r l' k
  | 0 => s
  | k + 1 => fun x hx => by
    have ih := gone_sub hc (binds := binds) (r := r) s k
    rcases goneStep_mem.mp hx with q | ⟨p, hp, e, q⟩
    · exact goneStep_mem.mpr (.inl (s x q))
    · refine goneStep_mem.mpr (.inr ⟨p, hp, e, ?_⟩)
      cases r with
      | true => exact hc.f ih q
      | false => exact hc.f s q
theorem gone_mono {cm : Ex → List Str → Bool} (hc : Anti cm) {binds : List (Str × Ex)} {r : Bool} {l : List Str} : ∀ k, ∀ x ∈ goneF cm binds r l k, x ∈ goneF cm binds r l (k + 1)
  | 0 => fun x hx => gone_lost hx _
  | k + 1 => fun x hx => by
    have ih := gone_mono hc (binds := binds) (r := r) (l := l) k
    rcases goneStep_mem.mp hx with q | ⟨p, hp, e, q⟩
    · exact goneStep_mem.mpr (.inl q)
    · refine goneStep_mem.mpr (.inr ⟨p, hp, e, ?_⟩)
      cases r with
      | true => exact hc.f ih q
      | false => exact q
theorem comes_anti : ∀ (n : Nat), Anti (comesF n)
  | 0 => fun _ _ _ _ _ => rfl
  | n + 1 => by
    have ih := comes_anti n
    intro e l l' s h
    cases e with
    | var x => exact notAny.mpr fun q => notAny.mp h (s x q)
    | lit => rfl
    | con => rfl
    | appv f args => exact notAny.mpr fun q => notAny.mp h (s f q)
    | prim err args =>
      have h' : (!err && args.all fun a => comesF n a l') = true := h
      show (!err && args.all fun a => comesF n a l) = true
      rw [Bool.and_eq_true, List.all_eq_true] at h' ⊢
      exact ⟨h'.1, fun a ha => ih a l l' s (h'.2 a ha)⟩
    | case e c alts o =>
      have h' : (comesF n e l' && (waysF alts o).any fun w => comesF n w l') = true := h
      show (comesF n e l && (waysF alts o).any fun w => comesF n w l) = true
      rw [Bool.and_eq_true, List.any_eq_true] at h' ⊢
      obtain ⟨h1, w, h2, h3⟩ := h'
      exact ⟨ih e l l' s h1, w, h2, ih w l l' s h3⟩
    | let_ binds b r =>
      have h' : comesF n b (goneF (comesF n) binds r l' (binds.length + 1)) = true := h
      exact ih b _ _ (gone_sub ih s _) h'
    | appl ps b args =>
      have e1 : ∀ l, comesF (n + 1) (.appl ps b args) l = if args.length < ps.length then true else comesF n b (l ++ ((ps.zip args).filter fun p => !(comesF n p.2 l)).map fun q : Str × Ex => q.1) := fun l => rfl
      rw [e1] at h ⊢
      split
      · rfl
      · rename_i hc
        rw [if_neg hc] at h
        refine ih b _ _ (fun x hx => ?_) h
        rcases List.mem_append.mp hx with q | q
        · exact List.mem_append_left _ (s x q)
        · refine List.mem_append_right _ ?_
          obtain ⟨p, hp, e⟩ := List.mem_map.mp q
          have := List.mem_filter.mp hp
          exact List.mem_map.mpr ⟨p, List.mem_filter.mpr ⟨this.1, by rw [ih.f s (by simpa using this.2)]; rfl⟩, e⟩
theorem gone_fix {cm : Ex → List Str → Bool} (hc : Anti cm) {binds : List (Str × Ex)} {l : List Str} : ∀ p ∈ binds, cm p.2 (goneF cm binds true l (binds.length + 1)) = false → p.1 ∈ goneF cm binds true l (binds.length + 1) := by
  let f : Nat → List (Str × Ex) := fun k => binds.filter fun p => !(cm p.2 (goneF cm binds true l k))
  have key : ∀ k, (k ≤ (f k).length) ∨ ∀ p ∈ binds, cm p.2 (goneF cm binds true l k) = false → p.1 ∈ goneF cm binds true l k := by
    intro k
    induction k with
    | zero => exact .inl (Nat.zero_le _)
    | succ k ih =>
      have sub : ∀ p ∈ binds, cm p.2 (goneF cm binds true l k) = false → cm p.2 (goneF cm binds true l (k + 1)) = false := fun p _ h => hc.f (gone_mono hc k) h
      by_cases q : ∀ p ∈ binds, cm p.2 (goneF cm binds true l (k + 1)) = false → cm p.2 (goneF cm binds true l k) = false
      · refine .inr fun p hp h => ?_
        exact goneStep_mem.mpr (.inr ⟨p, hp, rfl, q p hp h⟩)
      · rcases ih with ih | ih
        · refine .inl ?_
          have lt : (f k).length < (f (k + 1)).length := by
            have e : f k = (f (k + 1)).filter fun p => !(cm p.2 (goneF cm binds true l k)) := by
              show binds.filter _ = (binds.filter _).filter _
              rw [List.filter_filter]
              refine List.filter_congr fun p hp => ?_
              cases z : cm p.2 (goneF cm binds true l k) with
              | true => rfl
              | false => rw [sub p hp z]; rfl
            rcases Nat.lt_or_ge (f k).length (f (k + 1)).length with z | z
            · exact z
            · exfalso
              rw [e] at z
              have all := List.length_filter_eq_length_iff.mp (Nat.le_antisymm (List.length_filter_le _ _) z)
              refine q fun p hp h => ?_
              have := all p (List.mem_filter.mpr ⟨hp, by rw [h]; rfl⟩)
              simpa using this
          lia
        · exfalso
          refine q fun p hp h => ?_
          have same : ∀ x ∈ goneF cm binds true l (k + 1), x ∈ goneF cm binds true l k := fun x hx => by
            rcases goneStep_mem.mp hx with z | ⟨p', hp', e, z⟩
            · exact gone_lost z k
            · rw [← e]; exact ih p' hp' z
          exact hc.f same h
  rcases key (binds.length + 1) with h | h
  · have : (f (binds.length + 1)).length ≤ binds.length := List.length_filter_le _ _
    lia
  · exact h
theorem not_comes : ∀ (n : Nat) (e : Ex) (Γ : List Str), Few n e → UB n e → Sc n Γ e → (deadF n e = true → ∀ lost, comesF n e lost = false) ∧ ∀ x, NB n x e → sureF n x e = true → ∀ lost, x ∈ lost → comesF n e lost = false
  | 0, _, _, h, _, _ => h.elim
  | n + 1, .var y, Γ, _, _, _ => ⟨fun h => (nomatch h), fun x _ h lost hl => by
      have e : y = x := by simpa using (show (y == x) = true from h)
      show (!(lost.any (· == y))) = false
      rw [e, any_mem.mpr hl]; rfl⟩
  | n + 1, .lit, Γ, _, _, _ => ⟨fun h => (nomatch h), fun x _ h => (nomatch h)⟩
  | n + 1, .con, Γ, _, _, _ => ⟨fun h => (nomatch h), fun x _ h => (nomatch h)⟩
  | n + 1, .appv y _, Γ, _, _, _ => ⟨fun h => (nomatch h), fun x _ h lost hl => by
      have e : y = x := by simpa using (show (y == x) = true from h)
      show (!(lost.any (· == y))) = false
      rw [e, any_mem.mpr hl]; rfl⟩
  | n + 1, .prim err args, Γ, hF, hU, hS => by
      have ih := fun a (ha : a ∈ args) => not_comes n a Γ (hF.2 a ha) (hU a ha) (hS a ha)
      have none_ : ∀ lost, (∃ a ∈ args, comesF n a lost = false) → comesF (n + 1) (.prim err args) lost = false := fun lost ⟨a, ha, h⟩ => by
        show (!err && args.all fun a => comesF n a lost) = false
        have : (args.all fun a => comesF n a lost) = false := List.all_eq_false.mpr ⟨a, ha, by rw [h]; simp⟩
        rw [this, Bool.and_false]
      refine ⟨fun h lost => ?_, fun x hx h lost hl => ?_⟩
      · have h' : (err || args.any (deadF n)) = true := h
        cases err with
        | true => rfl
        | false =>
          obtain ⟨a, ha, hd⟩ := List.any_eq_true.mp (by simpa using h')
          exact none_ lost ⟨a, ha, (ih a ha).1 hd lost⟩
      · obtain ⟨a, ha, hd⟩ := List.any_eq_true.mp (show args.any (sureF n x) = true from h)
        exact none_ lost ⟨a, ha, (ih a ha).2 x (hx a ha) hd lost hl⟩
  | n + 1, .case e c alts o, Γ, hF, hU, hS => by
      obtain ⟨f1, f2, f3, f4, f5⟩ := hF
      obtain ⟨u1, u2, u3⟩ := hU
      obtain ⟨s1, s2, s3⟩ := hS
      have ihe := not_comes n e Γ f1 u1 s1
      have ihw : ∀ w ∈ waysF alts o, (deadF n w = true → ∀ lost, comesF n w lost = false) ∧ ∀ x, NB (n + 1) x (.case e c alts o) → sureF n x w = true → ∀ lost, x ∈ lost → comesF n w lost = false := by
        intro w hw
        rcases List.mem_append.mp hw with hw | hw
        · obtain ⟨p, hp, rfl⟩ := List.mem_map.mp hw
          have := not_comes n p.2 _ (f3 p hp) (u2 p hp) (s2 p hp)
          exact ⟨this.1, fun x hx => this.2 x (hx.2.2.1 p hp).2⟩
        · have hw' : o = some w := by simpa using hw
          have := not_comes n w _ (f4 w hw') (u3 w hw') (s3 w hw')
          exact ⟨this.1, fun x hx => this.2 x (hx.2.2.2 w hw')⟩
      have e1 : ∀ lost, comesF (n + 1) (.case e c alts o) lost = (comesF n e lost && (waysF alts o).any fun w => comesF n w lost) := fun _ => rfl
      have wayless : ∀ lost, (∀ w ∈ waysF alts o, comesF n w lost = false) → comesF (n + 1) (.case e c alts o) lost = false := fun lost h => by
        rw [e1, List.any_eq_false.mpr fun w hw => by rw [h w hw]; simp, Bool.and_false]
      refine ⟨fun h lost => ?_, fun x hx h lost hl => ?_⟩
      · have h' : (deadF n e || (waysF alts o).all (deadF n)) = true := h
        rcases Bool.or_eq_true _ _ ▸ h' with q | q
        · rw [e1, ihe.1 q lost, Bool.false_and]
        · exact wayless lost fun w hw => (ihw w hw).1 (List.all_eq_true.mp q w hw) lost
      · have h' : (sureF n x e || ((waysF alts o).filter fun w => !(deadF n w)).all (sureF n x)) = true := h
        rcases Bool.or_eq_true _ _ ▸ h' with q | q
        · rw [e1, ihe.2 x hx.1 q lost hl, Bool.false_and]
        · refine wayless lost fun w hw => ?_
          cases hd : deadF n w with
          | true => exact (ihw w hw).1 hd lost
          | false => exact (ihw w hw).2 x hx (List.all_eq_true.mp q w (List.mem_filter.mpr ⟨hw, by rw [hd]; rfl⟩)) lost hl
  | n + 1, .let_ binds b r, Γ, hF, hU, hS => by
      obtain ⟨f1, f2, f3, f4⟩ := hF
      obtain ⟨u1, u2, u3, u4⟩ := hU
      obtain ⟨s1, s2, s3⟩ := hS
      have ihb := not_comes n b _ f4 u4 s3
      have ihr := fun p (hp : p ∈ binds) => not_comes n p.2 _ (f3 p hp) (u3 p hp) (s2 p hp)
      have hc := comes_anti n
      have e1 : ∀ lost, comesF (n + 1) (.let_ binds b r) lost = comesF n b (goneF (comesF n) binds r lost (binds.length + 1)) := fun _ => rfl
      have fix : ∀ lost, ∀ p ∈ binds, comesF n p.2 (if r then goneF (comesF n) binds r lost (binds.length + 1) else lost) = false → p.1 ∈ goneF (comesF n) binds r lost (binds.length + 1) := fun lost p hp h => by
        cases r with
        | true => exact gone_fix hc p hp h
        | false => exact goneStep_mem.mpr (.inr ⟨p, hp, rfl, h⟩)
      have chain : ∀ lost m, Reach (sureF n) binds b m → m ∈ goneF (comesF n) binds r lost (binds.length + 1) → comesF (n + 1) (.let_ binds b r) lost = false := fun lost m hm => by
        induction hm with
        | base h1 h2 =>
          intro hg
          rw [e1]
          exact ihb.2 _ (u2 _ (rowF_mem h1)) h2 _ hg
        | step hm' h1 h2 ih =>
          rename_i m o
          intro hg
          have hp := rowF_mem hm'.mem
          refine ih (fix lost (m, rowF binds m) hp ?_)
          cases r with
          | true => exact (ihr _ hp).2 o (u1 _ (rowF_mem h1) _ hp) h2 _ hg
          | false =>
            cases hd : deadF n (rowF binds m) with
            | true => exact (ihr _ hp).1 hd lost
            | false =>
              exfalso
              have ok := need_ok n (rowF binds m) (f3 _ hp) (u3 _ hp)
              have sc := need_sc n (rowF binds m) Γ (s2 _ hp)
              cases hn : needF n (rowF binds m) with
              | none => rw [hn] at ok; have : deadF n (rowF binds m) = true := ok; rw [hd] at this; cases this
              | some ks =>
                rw [hn] at ok
                have : o ∈ ks := (ok.2 o (u1 _ (rowF_mem h1) _ hp)).mpr h2
                exact s1 _ (rowF_mem h1) (sc ks hn o this)
      have row : ∀ lost m, Reach (sureF n) binds b m → (∀ l, (∀ x ∈ lost, x ∈ l) → comesF n (rowF binds m) l = false) → comesF (n + 1) (.let_ binds b r) lost = false := fun lost m hm h => by
        refine chain lost m hm (fix lost (m, rowF binds m) (rowF_mem hm.mem) (h _ fun x hx => ?_))
        cases r with
        | true => exact gone_lost hx _
        | false => exact hx
      refine ⟨fun h lost => ?_, fun x hx h lost hl => ?_⟩
      · have h' : (deadF n b || (reachedF (sureF n) binds b).any fun m => deadF n (rowF binds m)) = true := h
        rcases Bool.or_eq_true _ _ ▸ h' with q | q
        · rw [e1]; exact ihb.1 q _
        · obtain ⟨m, hm, hd⟩ := List.any_eq_true.mp q
          have hR := (mem_reachedF f2).mp hm
          exact row lost m hR fun l _ => (ihr _ (rowF_mem hR.mem)).1 hd l
      · have h' : (sureF n x b || (reachedF (sureF n) binds b).any fun m => sureF n x (rowF binds m)) = true := h
        rcases Bool.or_eq_true _ _ ▸ h' with q | q
        · rw [e1]; exact ihb.2 x hx.2 q _ (gone_lost hl _)
        · obtain ⟨m, hm, hd⟩ := List.any_eq_true.mp q
          have hR := (mem_reachedF f2).mp hm
          exact row lost m hR fun l hs => (ihr _ (rowF_mem hR.mem)).2 x (hx.1 _ (rowF_mem hR.mem)).2 hd l (hs x hl)
  | n + 1, .appl ps b args, Γ, hF, hU, hS => by
      obtain ⟨f1, f2, f3, f4⟩ := hF
      obtain ⟨u1, u2, u3⟩ := hU
      obtain ⟨s1, s2⟩ := hS
      have ihb := not_comes n b _ f2 u2 s1
      have iha := fun a (ha : a ∈ args) => not_comes n a Γ (f4 a ha) (u3 a ha) (s2 a ha)
      have e2 : deadF (n + 1) (.appl ps b args) = if args.length < ps.length then false else deadF n b || (ps.zip args).any fun p => sureF n p.1 b && deadF n p.2 := rfl
      have e3 : ∀ x, sureF (n + 1) x (.appl ps b args) = if args.length < ps.length then false else if sureF n x b then true else (ps.zip args).any fun p => sureF n p.1 b && sureF n x p.2 := fun x => rfl
      have e1 : ∀ l, comesF (n + 1) (.appl ps b args) l = if args.length < ps.length then true else comesF n b (l ++ ((ps.zip args).filter fun p => !(comesF n p.2 l)).map fun q : Str × Ex => q.1) := fun l => rfl
      by_cases hc : args.length < ps.length
      · exact ⟨fun h => by (rw [e2, if_pos hc] at h; cases h), fun x _ h => by (rw [e3, if_pos hc] at h; cases h)⟩
      · have arg : ∀ lost, ∀ p ∈ ps.zip args, sureF n p.1 b = true → comesF n p.2 lost = false → comesF (n + 1) (.appl ps b args) lost = false := fun lost p hp h1 h2 => by
          rw [e1, if_neg hc]
          exact ihb.2 p.1 (u1 _ (List.of_mem_zip hp).1) h1 _ (List.mem_append_right _ (List.mem_map.mpr ⟨p, List.mem_filter.mpr ⟨hp, by rw [h2]; rfl⟩, rfl⟩))
        refine ⟨fun h lost => ?_, fun x hx h lost hl => ?_⟩
        · rw [e2, if_neg hc, Bool.or_eq_true] at h
          rcases h with q | q
          · rw [e1, if_neg hc]; exact ihb.1 q _
          · obtain ⟨p, hp, q⟩ := List.any_eq_true.mp q
            rw [Bool.and_eq_true] at q
            exact arg lost p hp q.1 ((iha _ (List.of_mem_zip hp).2).1 q.2 lost)
        · rw [e3, if_neg hc] at h
          cases hs : sureF n x b with
          | true =>
            rw [e1, if_neg hc]; exact ihb.2 x hx.2.1 hs _ (List.mem_append_left _ hl)
          | false =>
            rw [hs, if_neg (by simp)] at h
            obtain ⟨p, hp, q⟩ := List.any_eq_true.mp h
            rw [Bool.and_eq_true] at q
            exact arg lost p hp q.1 ((iha _ (List.of_mem_zip hp).2).2 x (hx.2.2 _ (List.of_mem_zip hp).2) q.2 lost hl)
theorem plain_law {n : Nat} {e : Ex} {Γ : List Str} (hF : Few n e) (hU : UB n e) (hS : Sc n Γ e) (hN : ∀ y ∈ Γ, NB n y e) :
    (needF n e).isNone = deadF n e ∧ (needF n e = none → comesF n e [] = false) ∧ ∀ ks, needF n e = some ks → (∀ k ∈ ks, k ∈ Γ) ∧ ∀ x ∈ Γ, decide (x ∈ ks) = sureF n x e ∧ (x ∈ ks → comesF n e [x] = false) := by
  have ok := need_ok n e hF hU
  have nc := not_comes n e Γ hF hU hS
  have sc := need_sc n e Γ hS
  cases hn : needF n e with
  | none =>
    rw [hn] at ok
    have hd : deadF n e = true := ok
    exact ⟨hd.symm, fun _ => nc.1 hd [], fun ks h => by cases h⟩
  | some ks =>
    rw [hn] at ok
    refine ⟨ok.1.symm, fun h => by (cases h), fun ks' h => ?_⟩
    cases h
    refine ⟨sc ks hn, fun x hx => ⟨?_, fun hk => nc.2 x (hN x hx) ((ok.2 x (hN x hx)).mp hk) _ (.head _)⟩⟩
    rw [Bool.eq_iff_iff, decide_eq_true_eq]
    exact ok.2 x (hN x hx)
end Mine
end
section
open PySem PySem.W PyProof.Rows PySem.Calls
set_option maxRecDepth 10000
set_option linter.unusedVariables false
namespace Mine
noncomputable def abc : List Str := ["a", "b", "c"]
noncomputable def LotOk (o : Option (List Str)) : Prop := ∀ ks, o = some ks → ks.Sublist abc
theorem abc_nodup : abc.Nodup := by decide +kernel
theorem sorted_words : ∀ (x y z : Str), x ∈ abc → y ∈ abc → z ∈ abc →
    ((x ≠ y → sortedS [x, y] = true → [x, y] = abc.filter fun t => decide (t ∈ [x, y])) ∧ [x] = (abc.filter fun t => decide (t ∈ [x])) ∧
    (x ≠ y → x ≠ z → y ≠ z → sortedS [x, y, z] = true → [x, y, z] = abc.filter fun t => decide (t ∈ [x, y, z]))) := by
  have h : ∀ x ∈ abc, ∀ y ∈ abc, ∀ z ∈ abc, ((x ≠ y → sortedS [x, y] = true → [x, y] = abc.filter fun t => decide (t ∈ [x, y])) ∧ [x] = (abc.filter fun t => decide (t ∈ [x])) ∧
    (x ≠ y → x ≠ z → y ≠ z → sortedS [x, y, z] = true → [x, y, z] = abc.filter fun t => decide (t ∈ [x, y, z]))) := by decide +kernel
  exact fun x y z hx hy hz => h x hx y hy z hz
theorem sorted_abc {ks : List Str} (nd : ks.Nodup) (sub : ∀ x ∈ ks, x ∈ abc) (hs : sortedS ks = true) : ks = abc.filter fun t => decide (t ∈ ks) := by
  have hl := nodup_len2 ks abc nd sub
  have hl3 : abc.length = 3 := rfl
  match ks, nd, sub, hs, hl with
  | [], _, _, _, _ => simp [abc]
  | [x], _, sub, _, _ => exact (sorted_words x x x (sub x (by simp)) (sub x (by simp)) (sub x (by simp))).2.1
  | [x, y], nd, sub, hs, _ => exact (sorted_words x y x (sub x (by simp)) (sub y (by simp)) (sub x (by simp))).1 (by simp at nd; exact nd) hs
  | [x, y, z], nd, sub, hs, _ => exact (sorted_words x y z (sub x (by simp)) (sub y (by simp)) (sub z (by simp))).2.2 (by simp at nd; exact nd.1.1) (by simp at nd; exact nd.1.2) (by simp at nd; exact nd.2) hs
  | x :: y :: z :: t :: r, _, _, _, hl => simp [hl3] at hl
theorem sorted_perm_abc {ks l : List Str} (p : ks.Perm l) (nd : l.Nodup) (sub : ∀ x ∈ l, x ∈ abc) (hs : sortedS ks = true) {q : Str → Bool} (hq : ∀ x ∈ abc, q x = true ↔ x ∈ l) : ks = abc.filter q := by
  rw [sorted_abc (p.nodup_iff.mpr nd) (fun x hx => sub x (p.mem_iff.mp hx)) hs]
  refine List.filter_congr fun x hx => ?_
  rw [Bool.eq_iff_iff, decide_eq_true_eq, p.mem_iff]
  exact (hq x hx).symm
theorem mem_ddL {x : Str} (l : List Str) : x ∈ ddL l ↔ x ∈ l := by
  have : ddL l = mergeK [] l := rfl
  rw [this, mem_mergeK]; simp
theorem mergeK_nodup : ∀ (b a : List Str), a.Nodup → (mergeK a b).Nodup
  | [], a, h => h
  | k :: r, a, h => by
    have : mergeK a (k :: r) = mergeK (if k ∈ a then a else a ++ [k]) r := rfl
    rw [this]
    refine mergeK_nodup r _ ?_
    split
    · exact h
    · rename_i hk
      rw [List.nodup_append]
      refine ⟨h, by simp, fun x hx y hy q => ?_⟩
      rw [List.mem_singleton.mp hy] at q
      subst q; exact hk hx
theorem either_facts : ∀ (lots : List (Option (List Str))) (acc : Option (List Str)), LotOk acc → (∀ l ∈ lots, LotOk l) →
    LotOk (lots.foldl eitherStep acc) ∧ (lots.foldl eitherStep acc = none ↔ acc = none ∧ ∀ l ∈ lots, l = none) ∧
    ∀ fs, lots.foldl eitherStep acc = some fs → ∀ x, x ∈ fs ↔ (∀ k, acc = some k → x ∈ k) ∧ ∀ l ∈ lots, ∀ k, l = some k → x ∈ k
  | [], acc, h, _ => by
    refine ⟨h, by simp, fun fs e x => ?_⟩
    have e' : acc = some fs := e
    subst e'
    exact ⟨fun hx => ⟨fun k e => by cases e; exact hx, fun l hl => by simp at hl⟩, fun hx => hx.1 fs rfl⟩
  | l :: r, acc, h, hl => by
    have hl0 := hl l (.head _)
    have hstep : LotOk (eitherStep acc l) := by
      unfold eitherStep
      split
      · exact h
      · exact hl0
      · intro ks e
        cases e
        exact List.Sublist.trans List.filter_sublist (h _ rfl)
    obtain ⟨a1, a2, a3⟩ := either_facts r (eitherStep acc l) hstep fun m hm => hl m (.tail _ hm)
    refine ⟨a1, ?_, fun fs e x => ?_⟩
    · rw [List.foldl_cons, a2]
      cases l with
      | none => simp [eitherStep]
      | some k =>
        constructor
        · intro q; cases acc <;> simp [eitherStep] at q
        · intro q; have := q.2 (some k) (.head _); cases this
    · rw [List.foldl_cons] at e
      rw [a3 fs e x]
      cases l with
      | none => simp [eitherStep]
      | some k =>
        cases acc with
        | none => simp [eitherStep]
        | some f => simp [eitherStep, and_assoc]
end Mine
end
section
open PySem PySem.W PyProof.Rows PySem.Calls
set_option maxRecDepth 10000
set_option linter.unusedVariables false
namespace Mine
section
variable {prog : Program} {w : World} {A : Around} {E : Value → Shared → Prop} {s : Shared} {c : Cx} {H H0 : KH} {env : Env} {V : Str → Option Value} {ms r : List (Addr × Obj)}
theorem ev_takeR {SL : Addr} {oS : Obj} {top : Nat} {p p1 p2 pos : Pos} {kd : Nat} {Q : Value → Shared → Prop} (B : Base (KW w) H0) (R : Rs H0 H env V s.heap) (own : s.heap.get? SL = some oS ∧ H SL = none) (R0 : Room A 3) (hS : SrcOk oS) (h1 : 1 ≤ top) (h2 : top ≤ 1000) (vs : V "source" = some (.ref SL)) (ks : env.kindOf "source" = some .local ∨ env.kindOf "source" = some .cell) (kf : env.kindOf "_law_take" = some .globalImplicit)
    (h : ∀ rr t oS' H' h' tk', Move H s.heap [(SL, oS)] H' h' [(SL, oS')] → SrcOk oS' → rr < top → Q (.int ((rr : Nat) : Int) t) (uP s h' tk')) :
    wpAny (model prog w) A (eval (.Call (.Name "_law_take" p) [.Name "source" p1, .Constant (.int ((top : Nat) : Int)) kd p2] [] pos) env) Q E s := by
  refine ev_callK B R rfl kf rfl (wpAny_items_cons (ev_var R vs (wpAny_items_cons (wpAny_Constant_int (wpAny_items_nil ⟨R.inK B, ?_⟩))) ks))
  refine take_spec B R.b0 R0 hS h1 h2 _ _ _ R.kn (fun p hp => ?_) (by simp) fun v H' h' tk' os' M ⟨⟨oS', e1, hS'⟩, rr, t, e2, hr⟩ => ?_
  · rw [List.mem_singleton.mp hp]; exact own
  · subst e1; subst e2
    exact h rr t oS' H' h' tk' M hS' hr
theorem ev_abc {k1 k2 k3 : Nat} {p1 p2 p3 pos : Pos} {Q : Value → Shared → Prop} (S : St c H env V ms s.heap) (h : ∀ a vs H' h' tk', H.le H' → St c H' env V ms h' → ListH H' a vs → StrsAre vs abc → Q (.ref a) (uP s h' tk')) :
    wpAny (model prog w) A (eval (.List [.Constant (.str "a") k1 p1, .Constant (.str "b") k2 p2, .Constant (.str "c") k3 p3] pos) env) Q E s := by
  refine List_ (wpAny_items_cons (wpAny_Constant_str (wpAny_items_cons (wpAny_Constant_str (wpAny_items_cons (wpAny_Constant_str (wpAny_items_nil ?_)))))))
  refine newLX S (by simp) fun a h₁ S₁ aX => ?_
  have S₂ := S₁.freeze aX
  exact h a _ _ h₁ _ (addH_le (S₁.mu _ (.head _)).2.1) S₂ ⟨0, addH_self⟩ (.cons _ _ (.cons _ _ (.cons _ _ .nil)))
theorem compVB_get {scope : Scope} {x y : Str} {v u : Value} (hx : (x == y) = false) (hk : (relabel scope env).names.lookup x = some NameKind.cell) (hV : V x = some u) : compVB scope env V [(y, v)] x = some u := by
  unfold compVB
  have e : bindV [(y, v)] (fun _ => none) x = none := by
    show (if x = y then _ else _) = _
    rw [if_neg (by simpa using hx)]
  rw [e]
  show (if compKind scope env x = some .cell then V x else none) = _
  rw [if_pos (show compKind scope env x = some .cell from hk)]; exact hV
theorem compVB_own {scope : Scope} {y : Str} {v : Value} : compVB scope env V [(y, v)] y = some v := by
  unfold compVB
  have e : bindV [(y, v)] (fun _ => none) y = some v := if_pos rfl
  rw [e]
theorem pick_turn {SL : Addr} {scope : Scope} {s₂ : Shared} {p p1 p2 p3 p4 pos pos' : Pos} {kd kd' : Nat} {H₁ : KH} {vs : List Value} (B : Base (KW w) c.H0) (R0 : Room A 3) (vb : V "source" = some (.ref SL)) (kb : (relabel scope env).names.lookup ("source" : Str) = some NameKind.cell) (kf : (relabel scope env).names.lookup ("_law_take" : Str) = some NameKind.globalImplicit) (kn : (relabel scope env).names.lookup ("name" : Str) = some NameKind.local) (hv : StrsAre vs abc) :
    LcTurn prog w A c H₁ env V scope [.Compare (.Call (.Name "_law_take" p) [.Name "source" p1, .Constant (.int 2) kd p2] [] pos) [.Eq] [.Constant (.int 0) kd' p3] pos'] (.Name "name" p4) vs.length (fun i _ binds => ∃ v, binds = [(("name" : Str), v)] ∧ vs[i]? = some v)
      (fun i H' ys ms' => ∃ oS' zs, ms' = (SL, oS') :: r ∧ SrcOk oS' ∧ StrsAre ys zs ∧ zs.Sublist (abc.take i)) s₂ := by
  intro i bs T cenv H' ys ms' h' tk' E' hi rI11 le rI13 S' hsc view
  refine absG fun gG hgG => ?_
  obtain ⟨v, rfl, hvi⟩ := rI11
  obtain ⟨oS', zs, rfl, hS, hy, hz⟩ := rI13
  refine hgG ?_; clear hgG
  refine absG fun gG hgG => ?_
  obtain ⟨y, t, hyi, rfl⟩ := strsAt hv hvi
  refine hgG ?_; clear hgG
  have eT : abc.take (i + 1) = abc.take i ++ [y] := by rw [List.take_add_one, hyi]; rfl
  have hSL : (SL, oS') ∈ ((SL, oS') :: r) ++ T := .head _
  refine tests_one (wpAny_isTrue_Compare1 ?_ rfl)
  refine ev_takeR (s := uP s₂ h' tk') (top := 2) B (view _ _ _ S') ⟨(S'.mu _ hSL).1, (S'.mu _ hSL).2.1⟩ R0 hS (by lia) (by lia) (compVB_get (by decide) kb vb) (.inr (lk hsc kb)) (lk hsc kf) fun rr t' oS2 H2 h2 tk2 M hS2 hr => ?_
  have S2 : St c H2 env V (((SL, oS2) :: r) ++ T) h2 := St.moveL (os := [(SL, oS')]) (r := r ++ T) S' M
  refine wpAny_Constant_int (eq_int (wpAny_truthy_bool ⟨H2, (SL, oS2) :: r, h2, _, rfl, M.le, S2, ?_⟩))
  unfold LcK
  split
  · exact ev_var (s := uP s₂ h2 _) (view _ _ _ S2) compVB_own ⟨H2, (SL, oS2) :: r, h2, _, rfl, .refl _, S2, oS2, zs ++ [y], rfl, hS2, strs_append hy (.cons y t .nil), by rw [eT]; exact hz.append (List.Sublist.refl _)⟩ (.inl (lk hsc kn))
  · exact ⟨oS2, zs, rfl, hS2, hy, by rw [eT]; exact hz.trans (List.sublist_append_left _ _)⟩
noncomputable def TruePairs (H : KH) (ys : List Value) (zs : List Str) : Prop := All2 (fun y z => ∃ t tk, y = Value.ref t ∧ TupH H t [.str z tk, .bool true]) ys zs
theorem TruePairs.pairs {H : KH} {h : Heap} {ys : List Value} {zs : List Str} (x : TruePairs H ys zs) (k : InH H h) : PairsAt h ys (zs.map keyT) := by
  refine ⟨by rw [List.length_map]; exact All2.len x, fun i v hv => ?_⟩
  refine absG fun gG hgG => ?_
  obtain ⟨z, hz, t, tk, e, hT⟩ := All2.at x hv
  refine hgG ?_; clear hgG
  refine ⟨t, z, tk, .bool true, e, hT.w.at k, ?_⟩
  rw [List.getElem?_map, hz]; rfl
theorem true_turn {scope : Scope} {s₂ : Shared} {p p1 pos : Pos} {kd k2 : Nat} {H₁ : KH} {vs : List Value} {zs : List Str} (kn : (relabel scope env).names.lookup ("name" : Str) = some NameKind.local) (hv : StrsAre vs zs) :
    LcTurn prog w A c H₁ env V scope [] (.Tuple [.Name "name" p, .Constant (.bool true) kd p1] k2 pos) vs.length (fun i _ binds => ∃ v, binds = [(("name" : Str), v)] ∧ vs[i]? = some v)
      (fun i H' ys ms' => ms' = ms ∧ TruePairs H' ys (zs.take i)) s₂ := by
  intro i bs T cenv H' ys ms' h' tk' E' hi rI11 le rI13 S' hsc view
  refine absG fun gG hgG => ?_
  obtain ⟨v, rfl, hvi⟩ := rI11
  obtain ⟨rfl, hy⟩ := rI13
  refine hgG ?_; clear hgG
  refine absG fun gG hgG => ?_
  obtain ⟨y, t, hyi, rfl⟩ := strsAt hv hvi
  refine hgG ?_; clear hgG
  have eT : zs.take (i + 1) = zs.take i ++ [y] := by rw [List.take_add_one, hyi]; rfl
  refine tests_nil ⟨H', _, h', tk', rfl, .refl _, S', ?_⟩
  unfold LcK
  rw [if_pos rfl]
  refine Tuple_ (wpAny_items_cons (ev_var (s := uP s₂ h' tk') (view _ _ _ S') compVB_own (wpAny_items_cons (wpAny_Constant_bool (wpAny_items_nil ?_))) (.inl (lk hsc kn))))
  refine newTX (s := uP s₂ h' tk') S' (by simp) fun a h₂ S₂ aX => ?_
  have S₃ := S₂.freeze aX
  have l3 := addH_le (o := tupObj [.str y t, .bool true]) (S₂.mu _ (.head _)).2.1
  refine ⟨_, ms', h₂, _, rfl, l3, S₃, rfl, ?_⟩
  rw [eT]
  exact All2.snoc (All2.imp hy fun y z ⟨t, tk, e, hT⟩ => ⟨t, tk, e, hT.le l3⟩) ⟨a, t, rfl, 0, addH_self⟩
noncomputable def LotH (prog : Program) (w : World) (H : KH) (v : Value) (o : Option (List Str)) : Prop := NeedsH prog w H v o ∧ LotOk o
theorem LotH.le {H' : KH} {v : Value} {o : Option (List Str)} (x : LotH prog w H v o) (l : H.le H') : LotH prog w H' v o := ⟨x.1.le l, x.2⟩
end
end Mine
end
section
open PySem PySem.W PyProof.Rows PySem.Calls
set_option maxRecDepth 10000
set_option linter.unusedVariables false
namespace Mine
section
variable {prog : Program} {w : World} {A : Around} {E : Value → Shared → Prop} {s : Shared} {c : Cx} {H H0 : KH} {env : Env} {V : Str → Option Value} {ms r : List (Addr × Obj)}
theorem DictH.datAt {d : Addr} {kvs : List (Str × Value)} {h : Heap} (D : DictH prog w H d kvs) (k : InH H h) : ∃ ep, h.DictAt (strKind prog w) d kvs ep := let ⟨o, es, ep, e, r⟩ := D.at k; ⟨ep, o, es, e, r⟩
theorem list_dictX {d : Addr} {ks : List Str} {Q : Value → Shared → Prop} (hh : A.handled = none) (S : St c H env V ms s.heap) (D : DictH prog w H d (ks.map keyT)) (hl : ks.length ≤ 1000)
    (h : ∀ a us ep h' tk', St c H env V ((a, lsO us ep) :: ms) h' → a ∉ c.X → StrsAre us ks → Q (.ref a) (uP s h' tk')) : wpAny (model prog w) A (call (.type "list") [.ref d]) Q E s := by
  obtain ⟨ep, dat⟩ := D.datAt S.kn
  have K := src_dict (prog := prog) (w := w) (r := d) (kvs := ks.map keyT) (ep := ep) (beq_eq_false_iff_ne.mpr D.1) (by rw [List.length_map]; exact hl)
  refine call_listX K hh dat fun h' tk dr acc' c' hdr up eA hG => ?_
  subst hdr
  rw [keysT_fst] at hG
  have fr : s.heap.get? s.heap.objs.size = none := fresh_of_size (Nat.le_refl _)
  exact h _ acc'.toList c' h' tk (S.new up fr (by rw [eA])) (S.notX fr) hG
theorem sorted_dictX {d : Addr} {ks : List Str} {Q : Value → Shared → Prop} (hh : A.handled = none) (S : St c H env V ms s.heap) (D : DictH prog w H d (ks.map keyT)) (hl : ks.length < 64)
    (h : ∀ a us ks' ep h' tk', St c H env V ((a, lsO us ep) :: ms) h' → a ∉ c.X → StrsAre us ks' → ks'.Perm ks → sortedS ks' = true → Q (.ref a) (uP s h' tk')) : wpAny (model prog w) A (call (.builtin "sorted") [.ref d]) Q E s := by
  obtain ⟨ep, dat⟩ := D.datAt S.kn
  have K := src_dict (prog := prog) (w := w) (r := d) (kvs := ks.map keyT) (ep := ep) (beq_eq_false_iff_ne.mpr D.1) (by rw [List.length_map]; lia)
  refine call_sortedX (D := ks) (K.imp fun vs hv => ⟨ks, by rwa [keysT_fst] at hv, List.Perm.refl _⟩) hh dat hl fun h' tk dr l us ks' n hdr up el fr hu hp hs => ?_
  subst hdr
  have fr' : s.heap.get? l = none := by
    cases q : s.heap.get? l with
    | none => rfl
    | some o => exact (fr o q).elim
  exact h l us ks' n h' tk (S.new up fr' el) (S.notX fr') hu hp hs
theorem sorted_setX {l : Addr} {us : List Value} {ss : List Str} {ep : Nat} {Q : Value → Shared → Prop} (hh : A.handled = none) (S : St c H env V ms s.heap) (hl : s.heap.get? l = some (lsO us ep)) (hu : StrsAre us ss) (hz : ss.length < 64)
    (h : ∀ a us' ks' ep h' tk' d, St c H env V ((a, lsO us' ep) :: ms) h' → a ∉ c.X → StrsAre us' ks' → ks'.Perm (ddL ss) → sortedS ks' = true → Q (.ref a) (uD s h' tk' d)) :
    wpAny (model prog w) A (call (.type "set") [.ref l]) (fun v s₁ => wpAny (model prog w) A (call (.builtin "sorted") [v]) Q E s₁) E s := by
  have hsb : scanBound > 100 := by decide +kernel
  refine call_setX (items := us.toArray) hh ⟨_, hl, rfl, ep, rfl⟩ hu (by lia) fun h' tk hX up => ?_
  have S₁ := S.up up
  refine call_sortedX (s := uP s h' tk) (src_set (prog := prog) (w := w) (ss := ss) (by lia)) hh hX (Nat.lt_of_le_of_lt (ddL_len ss) hz) fun h₂ tk₂ dr l' us' ks' n hdr up₂ el fr hu' hp hs => ?_
  have fr' : h'.get? l' = none := by
    cases q : h'.get? l' with
    | none => rfl
    | some o => exact (fr o q).elim
  exact h l' us' ks' n h₂ tk₂ dr (S₁.new up₂ fr' el) (S₁.notX fr') hu' hp hs
noncomputable def ResV (H : KH) (v : Value) : Option (List Str) → Prop
  | none => v = .none
  | some l => NamesH H v l
theorem ResV.le {H' : KH} {v : Value} {o : Option (List Str)} (x : ResV H v o) (l : H.le H') : ResV H' v o := by
  cases o with
  | none => exact x
  | some l' => exact NamesH.le x l
theorem eq_same {v u : Value} {o : Option (List Str)} (kn : InH H s.heap) (hv : ResV H v o) (hu : ResV H u o) (hun : A.units < cLine) : SeqAt.EqAt A s v u true := by
  cases o with
  | none =>
    have e1 : v = .none := hv
    have e2 : u = .none := hu
    subst e1; subst e2; exact SeqAt.EqAt.same _
  | some l =>
    obtain ⟨a, vs, rfl, la, sa⟩ := hv
    obtain ⟨b, us, rfl, lb, sb⟩ := hu
    by_cases hab : a = b
    · subst hab; exact SeqAt.EqAt.same _
    · have e1 := strsLen sa
      have e2 := strsLen sb
      have := SeqAt.RcAt.lists (A := A) (s := s) (e := fun _ => true) (la.at kn) (lb.at kn) (by rw [List.size_toArray, List.size_toArray, e1, e2]) hun fun j h1 h2 => ?_
      · rw [show ((List.range vs.toArray.size).all fun _ => true) = true from List.all_eq_true.mpr fun _ _ => rfl] at this
        exact SeqAt.EqAt.of_refs hab this
      · have h1' : j < vs.length := h1
        have h2' : j < us.length := h2
        obtain ⟨x, t, hx, ex⟩ := strsAt sa (show vs[j]? = some vs[j] by simp)
        obtain ⟨y, t', hy, ey⟩ := strsAt sb (show us[j]? = some us[j] by simp)
        rw [hx] at hy; cases hy
        show SeqAt.EqAt _ _ (vs[j]) (us[j]) true
        rw [ex, ey]
        have := SeqAt.EqAt.str_str (A := A.in1) (s := s) x t x t'
        rwa [show (x == x) = true from beq_iff_eq.mpr rfl] at this
theorem lot_eq {v : Value} {n : Option (List Str)} (kn : InH H s.heap) (h : NeedsH prog w H v n) (hu : A.units < cLine) : SeqAt.EqAt A s v .none (v == .none) ∧ (v == .none) = n.isNone := by
  cases n with
  | none =>
    have e : v = .none := h
    subst e
    exact ⟨SeqAt.EqAt.same _, rfl⟩
  | some ks =>
    obtain ⟨d, rfl, D⟩ := h
    exact ⟨eq_dict_none ((D.at kn).typeIs) hu, rfl⟩
end
noncomputable def canonF (o : Option (List Str)) : Option (List Str) := o.map fun ks => abc.filter fun x => decide (x ∈ ks)
noncomputable def pairF : Option (List Str) → Option (List Str) → Option (List Str)
  | some a, some b => some (abc.filter fun x => decide (x ∈ a ++ b))
  | _, _ => none
noncomputable def commonF (ns : List (Option (List Str))) : Option (List Str) :=
  if ns.all (·.isNone) then none else some (abc.filter fun x => (ns.filterMap id).all fun k => decide (x ∈ k))
noncomputable def lessF (o : Option (List Str)) : Option (List Str) := o.map fun ks => abc.filter fun x => decide (x ∈ ks) && !(x == "b")
theorem pair_canon (a b : Option (List Str)) : pairF a b = canonF (bothF a b) := by
  cases a <;> cases b <;> try rfl
  rename_i a b
  show some _ = some _
  congr 1
  refine List.filter_congr fun x _ => ?_
  rw [Bool.eq_iff_iff, decide_eq_true_eq, decide_eq_true_eq, List.mem_append, mem_mergeK]
theorem common_canon (ns : List (Option (List Str))) (h : ∀ n ∈ ns, LotOk n) : commonF ns = canonF (eitherF ns) := by
  obtain ⟨_, h2, h3⟩ := either_facts ns none (fun ks e => by cases e) h
  unfold commonF eitherF
  cases he : ns.foldl eitherStep none with
  | none =>
    have := (h2.mp he).2
    rw [if_pos (List.all_eq_true.mpr fun n hn => by rw [this n hn]; rfl)]; rfl
  | some fs =>
    rw [if_neg fun q => by
      have : ns.foldl eitherStep none = none := h2.mpr ⟨rfl, fun l hl => Option.isNone_iff_eq_none.mp (List.all_eq_true.mp q l hl)⟩
      rw [he] at this; cases this]
    show some _ = some _
    congr 1
    refine List.filter_congr fun x _ => ?_
    rw [Bool.eq_iff_iff, decide_eq_true_eq, h3 fs he x, List.all_eq_true]
    constructor
    · intro q
      exact ⟨fun k e => by (cases e), fun l hl k e => by
        have := q k (List.mem_filterMap.mpr ⟨l, hl, e⟩)
        simpa using this⟩
    · rintro ⟨_, q⟩ k hk
      obtain ⟨l, hl, e⟩ := List.mem_filterMap.mp hk
      exact decide_eq_true (q l hl k e)
theorem less_canon (o : Option (List Str)) : lessF o = canonF (withoutF o ["b", "z"]) := by
  cases o with
  | none => rfl
  | some ks =>
    show some _ = some _
    congr 1
    refine List.filter_congr fun x hx => ?_
    have hz : x ≠ "z" := by
      have : ∀ x ∈ abc, x ≠ "z" := by decide +kernel
      exact this x hx
    rw [Bool.eq_iff_iff, Bool.and_eq_true, decide_eq_true_eq, decide_eq_true_eq, List.mem_filter]
    refine and_congr_right fun _ => ?_
    rw [notAny]
    simp [hz]
theorem canon_sorted {o : Option (List Str)} {ks ks' : List Str} (e : o = some ks) (nd : ks.Nodup) (sub : ∀ x ∈ ks, x ∈ abc) (p : ks'.Perm ks) (hs : sortedS ks' = true) : canonF o = some ks' := by
  subst e
  show some _ = some _
  congr 1
  exact (sorted_perm_abc p nd sub hs fun x _ => decide_eq_true_iff).symm
end Mine
end
section
open PySem PySem.W PyProof.Rows PySem.Calls
set_option maxRecDepth 10000
set_option linter.unusedVariables false
namespace Mine
section
variable {prog : Program} {w : World} {A : Around} {E : Value → Shared → Prop} {s : Shared} {c : Cx} {H H0 : KH} {env : Env} {V : Str → Option Value} {ms r : List (Addr × Obj)}
theorem ne_strB {x y : Str} {t u : Tok} {Q : Value → Shared → Prop} (h : Q (.bool (!(x == y))) s) : wpAny (model prog w) A (compareOp .NotEq (.str x t) (.str y u)) Q E s := by
  refine PySem.P.ne_str ?_
  have e : (x.cps.toList == y.cps.toList) = (x == y) := by
    rw [Bool.eq_iff_iff, beq_iff_eq, beq_iff_eq]
    refine ⟨fun q => ?_, fun q => by rw [q]⟩
    have q' : x.cps = y.cps := Array.ext' q
    cases x; cases y
    cases q'; rfl
  show Q (.bool (!(x.cps.toList == y.cps.toList))) s
  rw [e]; exact h
theorem relabel_free {scope : Scope} {x : Str} (hl : scope.names.lookup x = some .free) (fn : env.scope.kind = .function) (hk : env.kindOf x = some .cell) : compKind scope env x = some .cell := by
  unfold compKind relabel
  have e := lookup_map_kind (names := scope.names) (x := x) (f := fun n k => if (k == .free && env.scope.kind == .function && env.kindOf n == some .cell) = true then .cell else k)
  have h' : (scope.names.map fun y => (y.1, if (y.2 == .free && env.scope.kind == .function && env.kindOf y.1 == some .cell) = true then NameKind.cell else y.2)).lookup x = some .cell := by
    rw [e, hl]
    show some (if _ = true then NameKind.cell else NameKind.free) = _
    rw [if_pos (by rw [fn, hk]; rfl)]
  refine Eq.trans (congrArg (List.lookup x) (List.map_congr_left fun y _ => ?_)) h'
  obtain ⟨n, k⟩ := y
  dsimp only
  generalize (k == NameKind.free && env.scope.kind == ScopeKind.function && env.kindOf n == some NameKind.cell) = b
  cases b <;> rfl
theorem all2_id {α : Type} : ∀ {es ys : List α}, All2 (fun e y => y = e) es ys → ys = es
  := by
  intro es ys h
  induction h with
  | nil => rfl
  | cons h _ ih => subst h; rw [ih]
noncomputable def aliveL (vs : List Value) : List Value := vs.filter fun v => !(v == .none)
theorem alive_facts {pk : Value → Option (List Str)} : ∀ (vs : List Value), (∀ v ∈ vs, LotH prog w H v (pk v)) →
    (aliveL vs = [] ↔ (vs.map pk).all (·.isNone) = true) ∧ ((vs.map pk).filterMap id) = (aliveL vs).map (fun v => (pk v).getD []) ∧ ∀ v ∈ aliveL vs, ∃ k, pk v = some k
  | [], _ => ⟨by simp [aliveL], rfl, fun v h => by simp [aliveL] at h⟩
  | v :: r, h => by
    obtain ⟨i1, i2, i3⟩ := alive_facts r fun u hu => h u (.tail _ hu)
    have hv := (h v (.head _)).1
    cases hp : pk v with
    | none =>
      rw [hp] at hv
      have e : v = .none := hv
      subst e
      have ea : aliveL (Value.none :: r) = aliveL r := rfl
      rw [ea]
      refine ⟨?_, ?_, i3⟩
      · rw [i1, List.map_cons, List.all_cons, hp]; simp
      · rw [List.map_cons, hp, ← i2]; rfl
    | some k =>
      rw [hp] at hv
      obtain ⟨d, e, _⟩ := hv
      subst e
      have ea : aliveL (Value.ref d :: r) = Value.ref d :: aliveL r := rfl
      rw [ea]
      refine ⟨?_, ?_, fun u hu => ?_⟩
      · rw [List.map_cons, List.all_cons, hp]; simp
      · rw [List.map_cons, List.map_cons, hp, ← i2]; rfl
      · rcases List.mem_cons.mp hu with rfl | hu
        · exact ⟨k, hp⟩
        · exact i3 u hu
theorem lot_in {v : Value} {k : List Str} {x : Str} {t : Tok} {Q : Value → Shared → Prop} (h : NeedsH prog w H v (some k)) (kn : InH H s.heap) (hq : ∀ tk, Q (.bool (decide (x ∈ k))) (uT s tk)) :
    wpAny (model prog w) A (compareOp .In (.str x t) v) Q E s := by
  obtain ⟨d, rfl, D⟩ := h
  exact in_dictT D kn hq
theorem needs_sorted {v : Value} {o : Option (List Str)} {ks : List Str} (e : o = some ks) (h : NeedsH prog w H v o) : ∃ d, v = .ref d ∧ DictH prog w H d (ks.map keyT) := by subst e; exact h
end
end Mine
end
section
open PySem PySem.W PyProof.Rows PySem.Calls
set_option maxRecDepth 10000
set_option linter.unusedVariables false
namespace Mine
section
variable {prog : Program} {w : World} {A : Around} {E : Value → Shared → Prop} {s : Shared} {c : Cx} {H H0 : KH} {env : Env} {V : Str → Option Value} {ms r : List (Addr × Obj)}
inductive MidD (c : Cx) (env : Env) (s : Shared) (H : KH) (Mid : KH → (Str → Option Value) → List (Addr × Obj) → Prop) (f : Flow) (s' : Shared) : Prop
  | mk (ef : f = .next) (H3 : KH) (V3 : Str → Option Value) (ms3 : List (Addr × Obj)) (h3 : Heap) (tk3 : Nat) (d3 : PySem.Drawn) (e : s' = (uD s h3 tk3 d3)) (l : H.le H3) (S : St c H3 env V3 ms3 h3) (i : Mid H3 V3 ms3)
theorem midD {M : Model} {m : Sem Flow} {h0 : Heap} {Q : Flow → Shared → Prop} (S : St c H env V ms h0) (Mid : KH → (Str → Option Value) → List (Addr × Obj) → Prop)
    (h1 : wpAny M A m (MidD c env s H Mid) E s)
    (h2 : ∀ H3 V3 ms3 h3 tk3 d3, H.le H3 → St c H3 env V3 ms3 h3 → Mid H3 V3 ms3 → Q .next (uD s h3 tk3 d3)) : wpAny M A m Q E s :=
  wpAny_mono h1 (fun f s' ⟨e, H3, V3, ms3, h3, tk3, d3, e', l, S3, q⟩ => by subst e; subst e'; exact h2 H3 V3 ms3 h3 tk3 d3 l S3 q) fun _ _ q => q
theorem asg2n {x y : Str} {px py tp tp' pos : Pos} {k k' : Nat} {e1 e2 : PySem.Expr} {Q : Flow → Shared → Prop} (hh : A.handled = none)
    (h : wpAny (model prog w) A (eval e1 env) (fun v1 s₁ => wpAny (model prog w) A (eval e2 env) (fun v2 s₂ => Ex4 fun c H' V' ms' => St c H' env V' ms' s₂.heap ∧
      ∀ H'' h' tk', H'.le H'' → St c H'' env (setV (setV V' x v1) y v2) ms' h' → Q .next (uP s₂ h' tk')) E s₁) E s)
    (hx : env.kindOf x = some .local ∨ env.kindOf x = some .cell) (hy : env.kindOf y = some .local ∨ env.kindOf y = some .cell)
    (he1 : starEach [e1, e2] env = (false, eval e1 env) :: starEach [e2] env := by rfl) (he2 : starEach [e2] env = (false, eval e2 env) :: starEach [] env := by rfl)
    (hs : swapsWithSole [.Tuple [.Name x px, .Name y py] k tp] (.Tuple [e1, e2] k' tp') pos.line env = pure false := by rfl)
    (hw : swappedStores [.Tuple [.Name x px, .Name y py] k tp] (.Tuple [e1, e2] k' tp') env = pure none := by kernel_rfl) :
    wpAny (model prog w) A (exec (.Assign [.Tuple [.Name x px, .Name y py] k tp] (.Tuple [e1, e2] k' tp') pos) env) Q E s := by
  refine Assign_Tuple (Tuple_ (wpAny_items_cons (he := he1) (wpAny_mono h (fun v1 s₁ h₁ => wpAny_items_cons (he := he2) (wpAny_mono h₁ (fun v2 s₂ h₂ => wpAny_items_nil ?_) fun _ _ q => q)) fun _ _ q => q))) hs hw
  refine absG fun gG hgG => ?_
  obtain ⟨c, H', V', ms', S, hq⟩ := h₂
  refine hgG ?_; clear hgG
  refine newTX S (by simp) fun t h₃ S₃ tX => ?_
  have S₄ := S₃.freeze tX
  have l4 := addH_le (o := tupObj [v1, v2]) (S₃.mu _ (.head _)).2.1
  refine St.asg (s := uH s₂ h₃) hh S₄ (.pair x y px py tp k t v1 v2 ⟨_, addH_self, rfl, 0, rfl⟩) (fun p hp => ?_) fun h' tk' S₅ => hq _ h' tk' l4 S₅
  rcases List.mem_cons.mp hp with rfl | hp
  · exact hx
  · rw [List.mem_singleton.mp hp]; exact hy
theorem St.freezeLe {a : Addr} {o : Obj} {h : Heap} (S : St c H env V ((a, o) :: ms) h) : H.le (addH H a o) := addH_le (S.mu _ (.head _)).2.1
noncomputable def Srt (o : Option (List Str)) : Prop := ∀ ks, o = some ks → ks.Nodup ∧ ∀ x ∈ ks, x ∈ abc
theorem Srt.of {o : Option (List Str)} (h : LotOk o) : Srt o := fun ks e => ⟨abc_nodup.sublist (h ks e), fun x hx => (h ks e).subset hx⟩
theorem Srt.both {a b : Option (List Str)} (ha : LotOk a) (hb : LotOk b) : Srt (bothF a b) := fun ks e => by
  cases a with
  | none => cases e
  | some p =>
    cases b with
    | none => cases e
    | some q =>
      cases e
      refine ⟨mergeK_nodup _ _ ((Srt.of ha) _ rfl).1, fun x hx => ?_⟩
      rcases (mem_mergeK _ _).mp hx with h | h
      · exact (ha _ rfl).subset h
      · exact (hb _ rfl).subset h
theorem LotOk.without {a : Option (List Str)} {ns : List Str} (h : LotOk a) : LotOk (withoutF a ns) := fun ks e => by
  cases a with
  | none => cases e
  | some p => cases e; exact List.Sublist.trans List.filter_sublist (h _ rfl)
theorem LotOk.len {a : Option (List Str)} (h : LotOk a) : lenF a ≤ 3 := by
  cases a with
  | none => exact Nat.zero_le _
  | some p => exact (h _ rfl).length_le
theorem sort_turn {scope : Scope} {s₂ : Shared} {p p1 p2 p3 p4 p5 pos : Pos} {kd : Nat} {H₁ : KH} {vs : List Value} {ts : List (Option (List Str))} (B : Base (KW w) c.H0) (hh : A.handled = none) (kn : (relabel scope env).names.lookup ("lot" : Str) = some NameKind.local) (ks : (relabel scope env).names.lookup ("sorted" : Str) = some NameKind.globalImplicit)
    (hA : All2 (fun v o => NeedsH prog w H₁ v o) vs ts) (hT : ∀ o ∈ ts, Srt o) :
    LcTurn prog w A c H₁ env V scope [] (.IfExp (.Compare (.Name "lot" p) [.Is] [.Constant .none kd p1] p2) (.Constant .none kd p3) (.Call (.Name "sorted" p4) [.Name "lot" p5] [] pos) pos) vs.length (fun i _ binds => ∃ v, binds = [(("lot" : Str), v)] ∧ vs[i]? = some v)
      (fun i H' ys ms' => ms' = ms ∧ All2 (fun o y => ResV H' y (canonF o)) (ts.take i) ys) s₂ := by
  intro i binds T cenv H' ys ms' h' tk' E' hi rI11 le rI13 S' hsc view
  refine absG fun gG hgG => ?_
  obtain ⟨v, rfl, hv⟩ := rI11
  obtain ⟨rfl, hy⟩ := rI13
  refine hgG ?_; clear hgG
  obtain ⟨o, ho, hno⟩ := All2.at hA hv
  have eT : ts.take (i + 1) = ts.take i ++ [o] := by rw [List.take_add_one, ho]; rfl
  refine tests_nil ⟨H', _, h', tk', rfl, .refl _, S', ?_⟩
  unfold LcK
  rw [if_pos rfl]
  refine wpAny_IfExp (t_isNone (s := uP s₂ h' tk') (view _ _ _ S') compVB_own (.inl (lk hsc kn)) ?_)
  cases o with
  | none =>
    have e : v = .none := hno
    subst e
    refine wpAny_Constant_none ⟨H', _, h', tk', rfl, .refl _, S', rfl, ?_⟩
    rw [eT]
    exact All2.snoc hy rfl
  | some k =>
    obtain ⟨d, rfl, D⟩ := NeedsH.le hno le
    have hs := hT _ (List.mem_of_getElem? ho) k rfl
    have hl : k.length ≤ 3 := nodup_len2 k abc hs.1 hs.2
    show wpAny _ _ (eval (.Call (.Name "sorted" p4) [.Name "lot" p5] [] pos) cenv) _ _ _
    refine ev_callB (s := uP s₂ h' tk') B (view _ _ _ S') rfl rfl (lk hsc ks) (wpAny_items_cons (ev_var (s := uP s₂ h' tk') (view _ _ _ S') compVB_own (wpAny_items_nil ?_) (.inl (lk hsc kn))))
    refine sorted_dictX (s := uP s₂ h' tk') hh S' D (by first | decide | lia) fun a us ks' ep h₂ tk₂ S₂ aX hu hp hso => ?_
    have S₃ := S₂.freeze aX
    have l3 := addH_le (o := lsO us ep) (S₂.mu _ (.head _)).2.1
    refine ⟨_, ms', h₂, tk₂, rfl, l3, S₃, rfl, ?_⟩
    rw [eT]
    refine All2.snoc (All2.imp hy fun o y r => r.le l3) ?_
    rw [canon_sorted rfl hs.1 hs.2 hp hso]
    exact ⟨a, us, rfl, ⟨ep, addH_self⟩, hu⟩
theorem LotH.at {H : KH} {vs : List Value} {ns : List (Option (List Str))} (x : All2 (fun v n => LotH prog w H v n) vs ns) : ∀ v ∈ vs, ∃ n, LotH prog w H v n := fun v hv => by
  obtain ⟨i, hi⟩ := List.getElem?_of_mem hv
  obtain ⟨n, _, h⟩ := All2.at x hi
  exact ⟨n, h⟩
set_option maxHeartbeats 4000000 in
theorem sets_spec {SL : Addr} {oS : Obj} (B : Base (KW w) H0) (l0 : H0.le H) (R : Room A 12) (hS : SrcOk oS) (kn : InH H s.heap) (own : s.heap.get? SL = some oS ∧ H SL = none) {Q : Value → Shared → Prop}
    (hQ : ∀ h' tk d, (∀ b o, b ≠ SL → s.heap.get? b = some o → h'.get? b = some o) → Q (.bool true) (uD s h' tk d)) : wpAny (model prog w) A (call (.ref 572) [.ref SL]) Q E s := by
  refine call_fn (ms := [(SL, oS)]) (binds := [("source", .ref SL)]) B l0 kn (fun p hp => by rw [List.mem_singleton.mp hp]; exact own) (by simp) R.depth rfl rfl rfl rfl rfl rfl rfl ?_
  intro Lc h₁ tk S
  have R' : ∀ env, Room (A.deeper env) 11 := fun _ => R.deeper
  refine xs (wpAny_Assign_Name (List_ (wpAny_items_nil ?_)))
  refine newLX (s := uP s h₁ tk) S (by simp) fun LT h₂ S₂ LX => ?_
  refine St.store (s := uP s h₂ tk) S₂ (by walk_at "VK") fun h₃ tk₃ S₃ => ?_
  refine xs (mid (s := uP s h₃ tk₃) S₃ (fun H3 V3 ms3 => V3 "source" = some (.ref SL) ∧ ∃ vs oS3, An6 (V3 "lots" = some (.ref LT)) (ms3 = [(SL, oS3)]) (SrcOk oS3) (ListH H3 LT vs) (vs.length = 3) (∀ v ∈ vs, ∃ n, LotH prog w H3 v n)) ?_ ?_)
  · refine for_it (c := ⟨H0, H, s.heap, [SL]⟩) R.hd (fun i H' V' ms' => V' "source" = some (.ref SL) ∧ V' "lots" = some (.ref LT) ∧ Ex3 fun vs ep oS' => An4 (ms' = [(LT, lsO vs ep), (SL, oS')]) (SrcOk oS') (vs.length = i) (∀ v ∈ vs, ∃ n, LotH prog w H' v n)) ?_ (by intro H1 H2 i V' ms' l h; obtain ⟨a1, a2, vs, ep, oS', a3, a4, a5, a6⟩ := h; exact ⟨a1, a2, vs, ep, oS', a3, a4, a5, fun v hv => let ⟨n, hn⟩ := a6 v hv; ⟨n, hn.le l⟩⟩)
    refine ev_callT (s := uP s h₃ tk₃) B S₃.toRs rfl rfl rfl (wpAny_items_cons (wpAny_Constant_int (wpAny_items_nil ?_)))
    refine call_rng (n := 3) (s := uP s h₃ _) fun rv h₄ tk₄ up₄ hr => ?_
    have S₄ := S₃.up up₄
    refine it_rng (s := uP s h₄ tk₄) R.hd (by first | decide | lia) S₄ hr fun it h₅ hFr => ?_
    obtain ⟨J, os, Wr, j0, S₅, hX⟩ := hFr "turn" _
    refine ⟨_, J, _, H, _, _, os, Wr, j0, S₅, hX, ⟨rfl, rfl, [], 0, oS, rfl, hS, rfl, fun v hv => by simp at hv⟩, ?_, ?_⟩
    · intro i bs os' H' V' ms' h' tk' hi rI9 le hX' rI12 S'
      refine absG fun gG hgG => ?_
      obtain ⟨t', rfl⟩ := rI9
      obtain ⟨w1, w2, vs, ep, oS', rfl, hS', w3, w4⟩ := rI12
      refine hgG ?_; clear hgG
      have w1' : (bindV [("turn", Value.int i t')] V') "source" = some (.ref SL) := w1
      have w2' : (bindV [("turn", Value.int i t')] V') "lots" = some (.ref LT) := w2
      refine xs ?_
      have S'a : St ⟨H0, H, s.heap, [SL]⟩ H' _ (bindV [("turn", Value.int i t')] V') ((SL, oS') :: (LT, lsO vs ep) :: os') h' := S'.perm (List.Perm.swap _ _ _)
      refine lc_assign (s := uP s h' tk') R.hd S'a (.of rfl) rfl (by walk_at "VK") (fun i H' ys ms' => ∃ oS' zs, ms' = (SL, oS') :: (LT, lsO vs ep) :: os' ∧ SrcOk oS' ∧ StrsAre ys zs ∧ zs.Sublist (abc.take i)) (fun _ _ _ _ _ _ h => h) ?_
      refine ev_abc (s := uP s h' tk') S'a fun la lvs H₆ h₆ tk₆ le₆ S₆ hla hls => ?_
      refine it_list (s := uP s h₆ tk₆) R.hd S₆ hla fun it h₇ hF => ?_
      obtain ⟨J2, os2, W2, j2, S₇, hX2⟩ := hF "name" _
      have e3 : lvs.length = 3 := strsLen hls
      refine ⟨_, J2, _, H₆, _, _, os2, W2, le_line (by first | decide | lia), j2, S₇, hX2, ⟨oS', [], rfl, hS', .nil, List.nil_sublist _⟩, pick_turn B ((R' _).mo) w1' rfl rfl rfl hls, ?_⟩
      intro Dn epn ysn H₈ ms₈ h₈ tk₈ le₈ rI8 S₈ DnX
      refine absG fun gG hgG => ?_
      obtain ⟨oS₈, zs, rfl, hS₈, hys, hzs⟩ := rI8
      refine hgG ?_; clear hgG
      have S₉ := S₈.freeze DnX
      have l89 := addH_le (o := lsO ysn epn) (S₈.mu _ (.head _)).2.1
      have hDn : ListH (addH H₈ Dn (lsO ysn epn)) Dn ysn := ⟨epn, addH_self⟩
      have l9 := (le₆.trans le₈).trans l89
      have hzsub : zs.Sublist abc := hzs.trans (List.take_sublist _ _)
      have hzl : zs.length ≤ 3 := by have := hzsub.length_le; exact this
      have hyl := strsLen hys
      generalize addH H₈ Dn (lsO ysn epn) = H₉ at *
      have S₉a : St ⟨H0, H, s.heap, [SL]⟩ H₉ _ (setV (bindV [("turn", Value.int i t')] V') "names" (.ref Dn)) ((LT, lsO vs ep) :: (SL, oS₈) :: os') h₈ := S₉.perm (List.Perm.swap _ _ _)
      refine xs (wpAny_Expr (wpAny_Call_method1_late rfl rfl rfl (ev_var (s := uP s h₈ tk₈) S₉a.toRs w2' (meth_append (s := uP s h₈ tk₈) (S₉a.mu _ (.head _)).1 ⟨rfl, rfl⟩ ?_) (by walk_at "VK"))))
      refine wpAny_IfExp (wpAny_isTrue_Compare1 (ev_take (s := uP s h₈ tk₈) (top := 4) B S₉ ((R' _).mo) hS₈ (by first | decide | lia) (by first | decide | lia) w1' (by walk_at "VK") rfl fun r2 t2 oS₁₀ H₁₀ h₁₀ tk₁₀ le₁₀ S₁₀ hS₁₀ hr2 => wpAny_Constant_int (eq_int (wpAny_truthy_bool ?_))) rfl)
      have l10 := l9.trans le₁₀
      cases hb : (((r2 : Nat) : Int) == 0) with
      | true =>
        refine wpAny_Constant_none ⟨_, H₁₀, _, _, _, vs, ep, S₁₀.perm (List.Perm.swap _ _ _), by lia, fun h₁₁ ep₁₁ S₁₁ => ?_⟩
        refine wpAny_execs_nil ⟨H₁₀, setV (bindV [("turn", Value.int i t')] V') "names" (.ref Dn), [(LT, lsO (vs ++ [Value.none]) ep₁₁), (SL, oS₁₀)], h₁₁, _, rfl, l10, S₁₁, w1, w2, _, _, _, rfl, hS₁₀, by simp [w3], fun v hv => ?_⟩
        rcases List.mem_append.mp hv with hv | hv
        · obtain ⟨n, hn⟩ := w4 v hv; exact ⟨n, hn.le l10⟩
        · rw [List.mem_singleton.mp hv]; exact ⟨none, rfl, fun ks e => by cases e⟩
      | false =>
        refine ev_callT (s := uP s h₁₀ _) B S₁₀.toRs rfl rfl rfl (wpAny_items_cons ?_)
        refine lc (s := uP s h₁₀ _) R.hd S₁₀ (.of rfl) (fun i H' ys ms' => ms' = (SL, oS₁₀) :: (LT, lsO vs ep) :: os' ∧ TruePairs H' ys (zs.take i)) (fun _ _ _ _ _ l h => ⟨h.1, All2.imp h.2 fun y z ⟨t, tk, e, hT⟩ => ⟨t, tk, e, hT.le l⟩⟩) ?_
        refine ev_var (s := uP s h₁₀ _) S₁₀.toRs rfl ?_ (by walk_at "VK")
        refine it_list (s := uP s h₁₀ _) R.hd S₁₀ (hDn.le le₁₀) fun it h₁₁ hF3 => ?_
        obtain ⟨J3, os3, W3, j3, S₁₁, hX3⟩ := hF3 "name" _
        refine ⟨_, J3, _, H₁₀, _, _, os3, W3, le_line (by first | decide | lia), j3, S₁₁, hX3, ⟨rfl, .nil⟩, true_turn rfl hys, ?_⟩
        intro Dp epp ysp H₁₂ ms₁₂ h₁₂ tk₁₂ le₁₂ rI8 S₁₂ DpX
        refine absG fun gG hgG => ?_
        obtain ⟨rfl, hyp⟩ := rI8
        refine hgG ?_; clear hgG
        rw [hyl, List.take_length] at hyp
        refine wpAny_items_nil ?_
        refine call_dict_pairs (s := uP s h₁₂ tk₁₂) (by exact R.hd) (S₁₂.mu _ (.head _)).1 (hyp.pairs S₁₂.kn) (by rw [keysT_fst]; exact abc_nodup.sublist hzsub) (le_line (by rw [List.length_map]; lia)) fun Dd oD h₁₃ tk₁₃ up₁₃ frD eD2 oDd => ?_
        have S₁₃ := (S₁₂.drop DpX).new up₁₃ frD eD2
        have DdX := (S₁₂.drop DpX).notX frD
        have hm := S₁₂.toRs.noMod B frD
        have S₁₄ := S₁₃.freeze DdX
        have l1314 := addH_le (o := oD) (S₁₃.mu _ (.head _)).2.1
        have hlot : LotH prog w (addH H₁₂ Dd oD) (.ref Dd) (some zs) := ⟨⟨Dd, rfl, hm, oD, addH_self, oDd⟩, fun ks e => by cases e; exact hzsub⟩
        have l14 := (l10.trans le₁₂).trans l1314
        refine ⟨_, _, _, _, _, vs, ep, S₁₄.perm (List.Perm.swap _ _ _), by lia, fun h₁₅ ep₁₅ S₁₅ => ?_⟩
        refine wpAny_execs_nil ⟨_, setV (bindV [("turn", Value.int i t')] V') "names" (.ref Dn), [(LT, lsO (vs ++ [Value.ref Dd]) ep₁₅), (SL, oS₁₀)], h₁₅, _, rfl, l14, S₁₅, w1, w2, _, _, _, rfl, hS₁₀, by simp [w3], fun v hv => ?_⟩
        rcases List.mem_append.mp hv with hv | hv
        · obtain ⟨n, hn⟩ := w4 v hv; exact ⟨n, hn.le l14⟩
        · rw [List.mem_singleton.mp hv]; exact ⟨some zs, hlot⟩
    · intro H' V' ms' h' tk' le rI6 S'
      refine absG fun gG hgG => ?_
      obtain ⟨w1, w2, vs, ep, oS', rfl, hS', w3, w4⟩ := rI6
      refine hgG ?_; clear hgG
      have S'' := S'.freeze LX
      have l2 := addH_le (o := lsO vs ep) (S'.mu _ (.head _)).2.1
      exact ⟨rfl, _, _, _, h', tk', rfl, le.trans l2, S'', w1, vs, oS', w2, rfl, hS', ⟨ep, addH_self⟩, w3, fun v hv => let ⟨n, hn⟩ := w4 v hv; ⟨n, hn.le l2⟩⟩
  · intro H₂₀ V₂₀ ms₂₀ h₂₀ tk₂₀ le₂₀ S₂₀ rI7
    refine absG fun gG hgG => ?_
    obtain ⟨w1, vs, oS₂₀, w2, rfl, hS₂₀, hlots, hlen, hlot⟩ := rI7
    refine hgG ?_; clear hgG
    obtain ⟨v0, v1, v2, rfl⟩ : Ex3 fun v0 v1 v2 => vs = [v0, v1, v2] := by
      match vs, hlen with
      | [a, b, c], _ => exact ⟨a, b, c, rfl⟩
    obtain ⟨pk, hpk⟩ : ∃ pk : Value → Option (List Str), ∀ v ∈ [v0, v1, v2], LotH prog w H₂₀ v (pk v) := by
      classical
      refine ⟨fun v => if h : ∃ n, LotH prog w H₂₀ v n then Classical.choose h else none, fun v hv => ?_⟩
      have h := hlot v hv
      dsimp only
      rw [dif_pos h]; exact Classical.choose_spec h
    have p0 := hpk v0 (.head _)
    have p1 := hpk v1 (.tail _ (.head _))
    have p2 := hpk v2 (.tail _ (.tail _ (.head _)))
    have len3 : ∀ v ∈ [v0, v1, v2], ∀ ks, pk v = some ks → ks.length ≤ 3 := fun v hv ks e => ((hpk v hv).2 ks e).length_le
    have hu1 : ∀ env, (A.deeper env).in1.units < cLine := fun env => ((R' env).mono (Nat.le_refl 11)).in1.units
    refine xs ?_
    refine asg2n R.hd ?_ (by walk_at "VK") (by walk_at "VK")
    refine ev_src (s := uP s h₂₀ tk₂₀) S₂₀.toRs w2 (by walk_at "VK") (hlots.at S₂₀.kn) (by decide) (by decide) rfl fun tk1 => ev_src (s := uP s h₂₀ tk1) S₂₀.toRs w2 (by walk_at "VK") (hlots.at S₂₀.kn) (by decide) (by decide) rfl fun tk2 => ⟨_, H₂₀, _, _, S₂₀, fun H₂₁ h₂₁ tk₂₁ le₂₁ S₂₁ => ?_⟩
    have x2 : (setV (setV V₂₀ "one" v0) "other" v1) "lots" = some (.ref LT) := w2
    have p0 := p0.le le₂₁
    have p1 := p1.le le₂₁
    have p2 := p2.le le₂₁
    have hlots := hlots.le le₂₁
    refine xs (midD (s := uP s h₂₁ tk₂₁) S₂₁ (fun H3 V3 ms3 => An5 (V3 "lots" = some (.ref LT)) (V3 "one" = some v0) (V3 "other" = some v1) ((∃ pv, V3 "pair" = some pv ∧ ResV H3 pv (pairF (pk v0) (pk v1)))) (ms3 = [(SL, oS₂₀)])) ?_ ?_)
    · refine wpAny_Assign_Name (wpAny_IfExp (wpAny_isTrue_Compare1 (wpAny_Constant_none (List_ (wpAny_items_cons (ev_var (s := uP s h₂₁ tk₂₁) S₂₁.toRs rfl (wpAny_items_cons (ev_var (s := uP s h₂₁ tk₂₁) S₂₁.toRs rfl (wpAny_items_nil ?_) (by walk_at "VK"))) (by walk_at "VK"))))) rfl))
      refine newLX (s := uP s h₂₁ tk₂₁) S₂₁ (by simp) fun l2 h₂₂ S₂₂ lX => ?_
      refine SeqAt.in_listAt (s := uP s h₂₂ tk₂₁) (items := #[v0, v1]) (fun y => y == Value.none) ⟨_, (S₂₂.mu _ (.head _)).1, rfl, 0, rfl⟩ (fun y hy => ?_) (wpAny_truthy_bool ?_)
      · have hy' : y = v0 ∨ y = v1 := by simpa using hy
        rcases hy' with rfl | rfl
        · exact (lot_eq (s := uP s h₂₂ tk₂₁) S₂₂.kn p0.1 (hu1 _)).1
        · exact (lot_eq (s := uP s h₂₂ tk₂₁) S₂₂.kn p1.1 (hu1 _)).1
      · have e0 := (lot_eq (s := uP s h₂₂ tk₂₁) S₂₂.kn p0.1 (hu1 default)).2
        have e1 := (lot_eq (s := uP s h₂₂ tk₂₁) S₂₂.kn p1.1 (hu1 default)).2
        have eany : (#[v0, v1].any fun y => y == Value.none) = ((pk v0).isNone || (pk v1).isNone) := by
          rw [← e0, ← e1]; simp
        rw [eany]
        have S₂₃ := S₂₂.drop lX
        cases hb : ((pk v0).isNone || (pk v1).isNone) with
        | true =>
          refine wpAny_Constant_none (St.store (s := uP s h₂₂ tk₂₁) S₂₃ (by walk_at "VK") fun h₂₄ tk₂₄ S₂₄ => ?_)
          refine ⟨rfl, H₂₁, _, _, h₂₄, tk₂₄, s.drawn, rfl, .refl _, S₂₄, x2, rfl, rfl, ⟨.none, rfl, ?_⟩, rfl⟩
          cases ha : pk v0 with
          | none => rfl
          | some a => cases hb' : pk v1 with
            | none => rfl
            | some b => rw [ha, hb'] at hb; cases hb
        | false =>
          cases ha : pk v0 with
          | none => rw [ha] at hb; cases hb
          | some a =>
            cases hb' : pk v1 with
            | none => rw [ha, hb'] at hb; cases hb
            | some b =>
              have p0' := p0.1
              rw [ha] at p0'
              obtain ⟨d0, ev0, D0⟩ := p0'
              have p1' := p1.1
              rw [hb'] at p1'
              obtain ⟨d1, ev1, D1⟩ := p1'
              have la := len3 v0 (.head _) a ha
              have lb := len3 v1 (.tail _ (.head _)) b hb'
              subst ev0; subst ev1
              refine ev_callB (s := uP s h₂₂ tk₂₁) B S₂₃.toRs rfl rfl rfl (wpAny_items_cons ?_)
              refine ev_callT (s := uP s h₂₂ tk₂₁) B S₂₃.toRs rfl rfl rfl (wpAny_items_cons (wpAny_BinOp ?_))
              refine ev_callT (s := uP s h₂₂ tk₂₁) B S₂₃.toRs rfl rfl rfl (wpAny_items_cons (ev_var (s := uP s h₂₂ tk₂₁) S₂₃.toRs rfl (wpAny_items_nil ?_) (by walk_at "VK")))
              refine list_dictX (s := uP s h₂₂ tk₂₁) R.hd S₂₃ D0 (by first | decide | lia) fun c1 us1 ep1 h₂₄ tk₂₄ S₂₄ X1 hu1' => ?_
              refine ev_callT (s := uP s h₂₄ tk₂₄) B S₂₄.toRs rfl rfl rfl (wpAny_items_cons (ev_var (s := uP s h₂₄ tk₂₄) S₂₄.toRs rfl (wpAny_items_nil ?_) (by walk_at "VK")))
              refine list_dictX (s := uP s h₂₄ tk₂₄) R.hd S₂₄ D1 (by first | decide | lia) fun c2 us2 ep2 h₂₅ tk₂₅ S₂₅ X2 hu2' => ?_
              have e1 := strsLen hu1'
              have e2 := strsLen hu2'
              refine list_add (s := uP s h₂₅ tk₂₅) S₂₅ (S₂₅.mu (c1, lsO us1 ep1) (.tail _ (.head _))).1 (S₂₅.mu _ (.head _)).1 (by first | decide | lia) fun c3 h₂₆ S₂₆ X3 => wpAny_items_nil ?_
              have hu3 := strs_append hu1' hu2'
              refine wpAny_mono (sorted_setX (s := uP s h₂₆ tk₂₅) (E := fun _ _ => False) R.hd S₂₆ (S₂₆.mu _ (.head _)).1 hu3 (by rw [List.length_append]; lia) fun c4 us4 ks4 ep4 h₂₇ tk₂₇ d₂₇ S₂₇ X4 hu4 hp4 hs4 => ?_) (fun v s' q => wpAny_items_nil q) fun _ _ q => q
              have S₂₈ := (((S₂₇.freeze X4).drop X3).drop X2).drop X1
              have l28 := addH_le (o := lsO us4 ep4) (S₂₇.mu _ (.head _)).2.1
              refine St.store (s := uD s h₂₇ tk₂₇ d₂₇) S₂₈ (by walk_at "VK") fun h₂₉ tk₂₉ S₂₉ => ?_
              refine ⟨rfl, _, _, _, h₂₉, tk₂₉, d₂₇, rfl, l28, S₂₉, x2, rfl, rfl, ⟨_, rfl, c4, us4, rfl, ⟨ep4, addH_self⟩, ?_⟩, rfl⟩
              have : ks4 = abc.filter fun x => decide (x ∈ a ++ b) := sorted_perm_abc hp4 (ddL_nodup _) (fun x hx => by
                rw [mem_ddL, List.mem_append] at hx
                rcases hx with hx | hx
                · exact (p0.2 a ha).subset hx
                · exact (p1.2 b hb').subset hx) hs4 fun x _ => by rw [decide_eq_true_eq, mem_ddL]
              rw [← this]; exact hu4
    · intro H₃₀ V₃₀ ms₃₀ h₃₀ tk₃₀ d₃₀ le₃₀ S₃₀ rI8
      refine absG fun gG hgG => ?_
      obtain ⟨y1, y2, y3, ⟨pv, y4, hpv⟩, rfl⟩ := rI8
      refine hgG ?_; clear hgG
      have p0 := p0.le le₃₀
      have p1 := p1.le le₃₀
      have p2 := p2.le le₃₀
      have hlots := hlots.le le₃₀
      have hall : ∀ v ∈ [v0, v1, v2], LotH prog w H₃₀ v (pk v) := fun v hv => by
        rcases List.mem_cons.mp hv with rfl | hv
        · exact p0
        · rcases List.mem_cons.mp hv with rfl | hv
          · exact p1
          · rw [List.mem_singleton.mp hv]; exact p2
      obtain ⟨af1, af2, af3⟩ := alive_facts [v0, v1, v2] hall
      have af4 : ∀ v ∈ aliveL [v0, v1, v2], v ∈ [v0, v1, v2] := fun v hv => (List.mem_filter.mp hv).1
      have af5 : (aliveL [v0, v1, v2]).length ≤ 3 := List.length_filter_le _ _
      refine xs (wpAny_Assign_Name ?_)
      refine lc (s := uD s h₃₀ tk₃₀ d₃₀) R.hd S₃₀ (.of rfl) (fun i H' ys ms' => ms' = [(SL, oS₂₀)] ∧ All2 (fun e y => y = e) (([v0, v1, v2].take i).filter fun v => !(v == .none)) ys) (fun _ _ _ _ _ _ h => h) ?_
      refine ev_var (s := uD s h₃₀ tk₃₀ d₃₀) S₃₀.toRs y1 ?_ (by walk_at "VK")
      refine it_list (s := uD s h₃₀ tk₃₀ d₃₀) R.hd S₃₀ hlots fun it h₃₁ hF => ?_
      obtain ⟨J, os, W, j0, S₃₁, hX⟩ := hF "lot" _
      refine ⟨_, J, _, H₃₀, _, _, os, W, le_line (by simp), j0, S₃₁, hX, ⟨rfl, .nil⟩, LcTurn.pure [v0, v1, v2] (fun v => !(v == .none)) (fun e y => y = e) ?_ ?_ (fun _ _ _ _ h _ => h), ?_⟩
      · intro i e binds cenv H' s₃ E' he rI8 le Rc own' hsc
        refine absG fun gG hgG => ?_
        obtain ⟨v, rfl, hv⟩ := rI8
        refine hgG ?_; clear hgG
        rw [hv] at he; cases he
        exact tests_one (t_notNone Rc compVB_own (.inl (lk hsc rfl)) ⟨rfl, grow_refl' Rc.kn⟩)
      · intro i e binds cenv H' s₃ E' he ht rI9 le Rc own' hsc
        refine absG fun gG hgG => ?_
        obtain ⟨v, rfl, hv⟩ := rI9
        refine hgG ?_; clear hgG
        rw [hv] at he; cases he
        exact ev_var Rc compVB_own ⟨rfl, grow_refl' Rc.kn⟩ (.inl (lk hsc rfl))
      intro Da epa ysa H₃₂ ms₃₂ h₃₂' tk₃₂' le₃₂ rI8 S₃₂' DaX
      refine absG fun gG hgG => ?_
      obtain ⟨rfl, hya⟩ := rI8
      refine hgG ?_; clear hgG
      refine St.store (s := uD s h₃₂' tk₃₂' d₃₀) S₃₂' (by walk_at "VK") fun h₃₂ tk₃₂ S₃₂ => ?_
      have eya : ysa = aliveL [v0, v1, v2] := all2_id hya
      subst eya
      have S₃₃ := S₃₂.freeze DaX
      have l33 := le₃₂.trans (addH_le (o := lsO (aliveL [v0, v1, v2]) epa) (S₃₂.mu _ (.head _)).2.1)
      have hal : ListH (addH H₃₂ Da (lsO (aliveL [v0, v1, v2]) epa)) Da (aliveL [v0, v1, v2]) := ⟨epa, addH_self⟩
      generalize addH H₃₂ Da (lsO (aliveL [v0, v1, v2]) epa) = H₃₃ at *
      have y1' : (setV V₃₀ "alive" (.ref Da)) "lots" = some (.ref LT) := y1
      have y2' : (setV V₃₀ "alive" (.ref Da)) "one" = some v0 := y2
      have y3' : (setV V₃₀ "alive" (.ref Da)) "other" = some v1 := y3
      have y4' : (setV V₃₀ "alive" (.ref Da)) "pair" = some pv := y4
      have hpv := hpv.le l33
      have hall3 : ∀ v ∈ [v0, v1, v2], LotH prog w H₃₃ v (pk v) := fun v hv => (hall v hv).le l33
      have hlots := hlots.le l33
      refine xs (mid (s := uD s h₃₂ tk₃₂ d₃₀) S₃₃ (fun H3 V3 ms3 => An6 (V3 "lots" = some (.ref LT)) (V3 "one" = some v0) (V3 "other" = some v1) (V3 "pair" = some pv) ((∃ cv, V3 "common" = some cv ∧ ResV H3 cv (commonF [pk v0, pk v1, pk v2]))) (ms3 = [(SL, oS₂₀)])) ?_ ?_)
      · have ecom : commonF [pk v0, pk v1, pk v2] = if aliveL [v0, v1, v2] = [] then none else some (abc.filter fun x => (aliveL [v0, v1, v2]).all fun v => decide (x ∈ (pk v).getD [])) := by
          unfold commonF
          have e1 : [v0, v1, v2].map pk = [pk v0, pk v1, pk v2] := rfl
          rw [← e1, af2]
          by_cases hz : aliveL [v0, v1, v2] = []
          · rw [if_pos (af1.mp hz), if_pos hz]
          · rw [if_neg (fun q => hz (af1.mpr q)), if_neg hz]
            simp only [List.all_map, Function.comp_def]
        refine wpAny_Assign_Name (wpAny_IfExp (wpAny_isTrue_Compare1 (ev_var (s := uD s h₃₂ tk₃₂ d₃₀) S₃₃.toRs rfl (List_ (wpAny_items_nil ?_)) (by walk_at "VK")) rfl))
        refine newLX (s := uD s h₃₂ tk₃₂ d₃₀) S₃₃ (by simp) fun le₀ h₃₄ S₃₄ leX => ?_
        have hle : (uD s h₃₄ tk₃₂ d₃₀ : Shared).heap.IsList le₀ #[] := ⟨_, (S₃₄.mu _ (.head _)).1, rfl, 0, rfl⟩
        have S₃₅ := S₃₄.drop leX
        have hal5 := hal.at S₃₅.kn
        by_cases hz : aliveL [v0, v1, v2] = []
        · rw [if_pos hz] at ecom
          refine SeqAt.eq_listAt (s := uD s h₃₄ tk₃₂ d₃₀) (e := fun _ => true) hal5 hle (by rw [hz]) (((R' _).mono (Nat.le_refl 11)).units) (fun j h1 h2 => by simp at h2) (wpAny_truthy_bool ?_)
          rw [show ((List.range (aliveL [v0, v1, v2]).toArray.size).all fun _ => true) = true from List.all_eq_true.mpr fun _ _ => rfl]
          refine wpAny_Constant_none (St.store (s := uD s h₃₄ tk₃₂ d₃₀) S₃₅ (by walk_at "VK") fun h₃₆ tk₃₆ S₃₆ => ?_)
          exact ⟨rfl, H₃₃, _, _, h₃₆, tk₃₆, rfl, .refl _, S₃₆, y1', y2', y3', y4', ⟨.none, rfl, by rw [ecom]; rfl⟩, rfl⟩
        · rw [if_neg hz] at ecom
          refine SeqAt.eq_list_lengthsAt (s := uD s h₃₄ tk₃₂ d₃₀) hal5 hle (by
            rw [List.size_toArray]
            have : (aliveL [v0, v1, v2]).length ≠ 0 := fun q => hz (List.length_eq_zero_iff.mp q)
            simpa using this) (((R' _).mono (Nat.le_refl 11)).units) (wpAny_truthy_bool ?_)
          refine lc_cell (s := uD s h₃₄ tk₃₂ d₃₀) R.hd S₃₅ rfl rfl (by decide) (by decide) (by decide) rfl (fun i ys => ∃ zs, StrsAre ys zs ∧ zs = (abc.take i).filter fun x => (aliveL [v0, v1, v2]).all fun v => decide (x ∈ (pk v).getD [])) ?_
          refine ev_abc (s := uD s h₃₄ tk₃₂ d₃₀) S₃₅ fun la lvs H₃₆ h₃₆ tk₃₆ le₃₆ S₃₆ hla hls => ?_
          refine it_list (s := uD s h₃₆ tk₃₆ d₃₀) R.hd S₃₆ hla fun it h₃₇ hF6 => ?_
          have e3 : lvs.length = 3 := strsLen hls
          refine ⟨_, _, H₃₆, _, _, hF6 "name" _, le_line (by first | decide | lia), ⟨[], .nil, rfl⟩, ?_, ?_⟩
          · intro i v cenv H' ys h' tk' E' hi rI9 le rI11 Rc hsc
            refine absG fun gG hgG => ?_
            obtain ⟨v', ev', hv⟩ := rI9
            obtain ⟨zs, hys, hzs⟩ := rI11
            refine hgG ?_; clear hgG
            cases ev'
            refine absG fun gG hgG => ?_
            obtain ⟨x, t, hx, rfl⟩ := strsAt hls hv
            refine hgG ?_; clear hgG
            have kal : cenv.kindOf "alive" = some .cell := lk hsc rfl
            have knm : cenv.kindOf "name" = some .cell := lk hsc rfl
            have fnc : cenv.scope.kind = .function := by rw [hsc]; rfl
            have l3 := le₃₆.trans le
            refine tests_one (wpAny_isTrue_Compare1 (wpAny_Constant_bool ?_) rfl)
            refine lcompR (s := uD s h' tk' d₃₀) Rc ⟨rfl, by decide, by decide, rfl, fun y hy hf => ?_⟩ (fun _ => true) (fun u y => y = .bool (decide (x ∈ (pk u).getD []))) ?_
            · simp at hy
              rcases hy with rfl | rfl | rfl
              · cases hf
              · cases hf
              · exact knm
            refine ev_var (s := uD s h' tk' d₃₀) Rc rfl ?_ (.inr kal)
            refine ⟨_, _, Rc, iter_list (s := uD s h' tk' d₃₀) R.hd ((hal.le l3).at Rc.kn), le_line (by rw [List.size_toArray]; lia), fun cenv2 j u s₃ E2 _ _ _ => tests_nil ⟨rfl, keeps_refl⟩, ?_, ?_⟩
            · intro cenv2 j u s₃ E2 hu _ Rc2 hsc2
              have hu' : u ∈ aliveL [v0, v1, v2] := by
                have : (aliveL [v0, v1, v2])[j]? = some u := by simpa using hu
                exact List.mem_of_getElem? this
              obtain ⟨k, hk⟩ := af3 u hu'
              have hn := (hall3 u (af4 u hu')).1.le l3
              rw [hk] at hn
              have kn2 := relabel_free (env := cenv) (scope := { kind := .function, names := [(".0", .local), ("lot", .local), ("name", .free)], isGenerator := false, isCoroutine := false, more := [] }) (x := "name") rfl fnc knm
              refine wpAny_Compare1 (ev_var (v := Value.str x t) Rc2 ?_ (ev_var (v := u) Rc2 (if_pos rfl) (lot_in hn Rc2.kn fun tk2 => ?_) (.inl (lk hsc2 (lookup_relabel_local rfl)))) (.inr (lk hsc2 kn2))) rfl
              · show (if ("name" : Str) = "lot" then _ else if _ then _ else _) = _
                rw [if_neg (by decide), if_pos kn2]; rfl
              · refine ⟨?_, keeps_of (.refl _)⟩
                rw [hk]; rfl
            · intro D ep ys2 us h2 tk2 up2 fD eD hul hus hF2
              have eus : us = aliveL [v0, v1, v2] := by
                apply List.ext_getElem?
                intro j
                cases q : us[j]? with
                | some u => have := hus j u q; simpa using this.symm
                | none =>
                  rw [List.getElem?_eq_none_iff] at q
                  rw [List.size_toArray] at hul
                  exact (List.getElem?_eq_none_iff.mpr (by first | decide | lia)).symm
              subst eus
              rw [List.filter_eq_self.mpr (fun _ _ => rfl)] at hF2
              have hA2 : All2 (fun u y => y = Value.bool (decide (x ∈ (pk u).getD []))) (aliveL [v0, v1, v2]) ys2.toList := by
                clear hus hul eD
                generalize ys2.toList = zs2 at hF2
                generalize aliveL [v0, v1, v2] = us2 at hF2
                induction hF2 with
                | nil => exact .nil
                | cons a _ ih => exact .cons a ih
              refine notin_bools (s := uD s h2 tk2 d₃₀) (f := fun u => decide (x ∈ (pk u).getD [])) (x := false) ⟨_, eD, rfl, ep, by rw [Array.toArray_toList]⟩ hA2 (wpAny_truthy_bool ⟨H', h2, tk2, rfl, .up' Rc.kn up2, ?_⟩)
              have eq : (!((aliveL [v0, v1, v2]).any fun u => decide (x ∈ (pk u).getD []) == false)) = ((aliveL [v0, v1, v2]).all fun v => decide (x ∈ (pk v).getD [])) := by
                rw [List.not_any_eq_all_not]
                congr 1
                funext u
                cases decide (x ∈ (pk u).getD []) <;> rfl
              rw [eq]
              have eT : abc.take (i + 1) = abc.take i ++ [x] := by rw [List.take_add_one, hx]; rfl
              cases hq : (aliveL [v0, v1, v2]).all fun v => decide (x ∈ (pk v).getD []) with
              | true =>
                rw [if_pos rfl]
                refine ev_var (s := uD s h2 tk2 d₃₀) (Rc.up up2) rfl ⟨H', h2, tk2, rfl, .refl (Rc.kn.up up2), zs ++ [x], strs_append hys (.cons x t .nil), ?_⟩ (.inr knm)
                rw [eT, List.filter_append, ← hzs, List.filter_cons, if_pos hq]; rfl
              | false =>
                rw [if_neg (by simp)]
                refine ⟨zs, hys, ?_⟩
                rw [eT, List.filter_append, ← hzs, List.filter_cons, if_neg (by rw [hq]; simp)]; simp
          · intro D ep ys H' h' tk' le rI7 S' DX
            refine absG fun gG hgG => ?_
            obtain ⟨zs, hys, hzs⟩ := rI7
            refine hgG ?_; clear hgG
            have S'' := S'.freeze DX
            have l2 := addH_le (o := lsO ys ep) (S'.mu _ (.head _)).2.1
            refine St.store (s := uD s h' tk' d₃₀) S'' (by walk_at "VK") fun h₃₈ tk₃₈ S₃₈ => ?_
            refine ⟨rfl, _, _, _, h₃₈, tk₃₈, rfl, (le₃₆.trans le).trans l2, S₃₈, y1', y2', y3', y4', ⟨_, rfl, ?_⟩, rfl⟩
            rw [ecom]
            refine ⟨D, ys, rfl, ⟨ep, addH_self⟩, ?_⟩
            rw [hzs, e3] at hys
            exact hys
      · intro H₄₀ V₄₀ ms₄₀ h₄₀ tk₄₀ le₄₀ S₄₀ rI7
        refine absG fun gG hgG => ?_
        obtain ⟨z1, z2, z3, z4, ⟨cv, z5, hcv⟩, rfl⟩ := rI7
        refine hgG ?_; clear hgG
        have l40 := l33.trans le₄₀
        have hpv := hpv.le le₄₀
        have hlots := hlots.le le₄₀
        have q0 := (hall3 v0 (.head _)).le le₄₀
        have q1 := (hall3 v1 (.tail _ (.head _))).le le₄₀
        have q2 := (hall3 v2 (.tail _ (.tail _ (.head _)))).le le₄₀
        refine xs (mid (s := uD s h₄₀ tk₄₀ d₃₀) S₄₀ (fun H3 V3 ms3 => An7 (V3 "lots" = some (.ref LT)) (V3 "one" = some v0) (V3 "other" = some v1) (V3 "pair" = some pv) (V3 "common" = some cv) ((∃ xv, V3 "less" = some xv ∧ ResV H3 xv (lessF (pk v0)))) (ms3 = [(SL, oS₂₀)])) ?_ ?_)
        · refine wpAny_Assign_Name (wpAny_IfExp (t_isNone (s := uD s h₄₀ tk₄₀ d₃₀) S₄₀.toRs z2 (by walk_at "VK") ?_))
          rw [(lot_eq (A := A.deeper default) (s := uD s h₄₀ tk₄₀ d₃₀) S₄₀.kn q0.1 (((R' _).mono (Nat.le_refl 11)).units)).2]
          cases h0 : pk v0 with
          | none =>
            refine wpAny_Constant_none (St.store (s := uD s h₄₀ tk₄₀ d₃₀) S₄₀ (by walk_at "VK") fun h₄₁ tk₄₁ S₄₁ => ?_)
            exact ⟨rfl, H₄₀, _, _, h₄₁, tk₄₁, rfl, .refl _, S₄₁, z1, z2, z3, z4, z5, ⟨.none, rfl, rfl⟩, rfl⟩
          | some k0 =>
            have hn0 := q0.1
            rw [h0] at hn0
            refine lc (s := uD s h₄₀ tk₄₀ d₃₀) R.hd S₄₀ (.of rfl) (fun i H' ys ms' => ms' = [(SL, oS₂₀)] ∧ All2 (fun x y => ∃ t, y = Value.str x t) ((abc.take i).filter fun x => decide (x ∈ k0) && !(x == "b")) ys) (fun _ _ _ _ _ _ h => h) ?_
            refine ev_abc (s := uD s h₄₀ tk₄₀ d₃₀) S₄₀ fun la lvs H₄₁ h₄₁ tk₄₁ le₄₁ S₄₁ hla hls => ?_
            refine it_list (s := uD s h₄₁ tk₄₁ d₃₀) R.hd S₄₁ hla fun it h₄₂ hF => ?_
            obtain ⟨J, os, W, j0, S₄₂, hX⟩ := hF "name" _
            have e3 : lvs.length = 3 := strsLen hls
            rw [e3] at W
            refine ⟨3, J, _, H₄₁, _, _, os, W, le_line (by simp), j0, S₄₂, hX, ⟨rfl, .nil⟩, LcTurn.pure abc (fun x => decide (x ∈ k0) && !(x == "b")) (fun x y => ∃ t, y = Value.str x t) ?_ ?_ (fun _ _ _ _ h _ => h), ?_⟩
            · intro i e binds cenv H' s₃ E' he rI8 le Rc own' hsc
              refine absG fun gG hgG => ?_
              obtain ⟨v, rfl, hv⟩ := rI8
              refine hgG ?_; clear hgG
              refine absG fun gG hgG => ?_
              obtain ⟨x, t, hx, rfl⟩ := strsAt hls hv
              refine hgG ?_; clear hgG
              rw [hx] at he; cases he
              refine tests_one (wpAny_isTrue_BoolOp (wpAny_allTrue_And_cons (wpAny_isTrue_Compare1 (ev_var Rc compVB_own (ev_var Rc (compVB_get (u := v0) (by decide) (relabel_free rfl rfl rfl) z2) (lot_in (hn0.le (le₄₁.trans le)) Rc.kn fun tk2 => wpAny_truthy_bool ?_) (.inr (lk hsc (relabel_free rfl rfl rfl)))) (.inl (lk hsc rfl))) rfl)))
              have hg := grow_refl' (s := uT s₃ tk2) (H := H') Rc.kn
              cases hm : decide (e ∈ k0) with
              | false => exact ⟨rfl, H', s₃.heap, tk2, rfl, .refl Rc.kn⟩
              | true =>
                refine wpAny_allTrue_And_cons (wpAny_isTrue_Compare1 (ev_var (s := uT s₃ tk2) Rc compVB_own (wpAny_Constant_str (ne_strB (wpAny_truthy_bool ?_))) (.inl (lk hsc rfl))) rfl)
                cases hb : !(e == "b") with
                | false => exact ⟨rfl, H', s₃.heap, _, rfl, .refl Rc.kn⟩
                | true => exact wpAny_allTrue_And_nil ⟨rfl, H', s₃.heap, _, rfl, .refl Rc.kn⟩
            · intro i e binds cenv H' s₃ E' he ht rI9 le Rc own' hsc
              refine absG fun gG hgG => ?_
              obtain ⟨v, rfl, hv⟩ := rI9
              refine hgG ?_; clear hgG
              refine absG fun gG hgG => ?_
              obtain ⟨x, t, hx, rfl⟩ := strsAt hls hv
              refine hgG ?_; clear hgG
              rw [hx] at he; cases he
              exact ev_var Rc compVB_own ⟨⟨t, rfl⟩, grow_refl' Rc.kn⟩ (.inl (lk hsc rfl))
            intro D ep ys H' ms' h' tk' le rI8 S' DX
            refine absG fun gG hgG => ?_
            obtain ⟨rfl, hy⟩ := rI8
            refine hgG ?_; clear hgG
            have S'' := S'.freeze DX
            have l2 := addH_le (o := lsO ys ep) (S'.mu _ (.head _)).2.1
            refine St.store (s := uD s h' tk' d₃₀) S'' (by walk_at "VK") fun h₄₃ tk₄₃ S₄₃ => ?_
            refine ⟨rfl, _, _, _, h₄₃, tk₄₃, rfl, (le₄₁.trans le).trans l2, S₄₃, z1, z2, z3, z4, z5, ⟨_, rfl, D, ys, rfl, ⟨ep, addH_self⟩, ?_⟩, rfl⟩
            have := strs_of_all2 (f := id) hy
            rwa [List.map_id] at this
        · intro H₅₀ V₅₀ ms₅₀ h₅₀ tk₅₀ le₅₀ S₅₀ rI7
          refine absG fun gG hgG => ?_
          obtain ⟨u1, u2, u3, u4, u5, ⟨xv, u6, hxv⟩, rfl⟩ := rI7
          refine hgG ?_; clear hgG
          have hpv := hpv.le le₅₀
          have hcv := hcv.le le₅₀
          have hlots := hlots.le le₅₀
          have q0 := q0.le le₅₀
          have q1 := q1.le le₅₀
          have q2 := q2.le le₅₀
          have m0 := q0.2.len
          have m1 := q1.2.len
          have m2 := q2.2.len
          refine xs (wpAny_Assign_Name (List_ (wpAny_items_cons ?_)))
          refine ev_callK (s := uD s h₅₀ tk₅₀ d₃₀) B S₅₀.toRs rfl rfl rfl (wpAny_items_cons (ev_var (s := uD s h₅₀ tk₅₀ d₃₀) S₅₀.toRs u2 (wpAny_items_cons (ev_var (s := uD s h₅₀ tk₅₀ d₃₀) S₅₀.toRs u3 (wpAny_items_nil ⟨S₅₀.inK B, ?_⟩) (by walk_at "VK"))) (by walk_at "VK")))
          refine both_spec B S₅₀.b0 ((R' _).mo) q0.1 q1.1 (by first | decide | lia) _ _ _ S₅₀.kn fun t0 H₅₁ h₅₁ tk₅₁ G₅₁ ht0 => wpAny_items_cons ?_
          have S₅₁ := S₅₀.grow G₅₁
          refine ev_callK (s := uD s h₅₁ tk₅₁ d₃₀) B S₅₁.toRs rfl rfl rfl (wpAny_items_cons (ev_var (s := uD s h₅₁ tk₅₁ d₃₀) S₅₁.toRs u1 (wpAny_items_nil ⟨S₅₁.inK B, ?_⟩) (by walk_at "VK")))
          refine either_spec (ns := [pk v0, pk v1, pk v2]) B S₅₁.b0 ((R' _).mo) (hlots.le G₅₁.le) (.cons (q0.1.le G₅₁.le) (.cons (q1.1.le G₅₁.le) (.cons (q2.1.le G₅₁.le) .nil))) (fun n hn => ?_) _ _ _ S₅₁.kn fun t1 H₅₂ h₅₂ tk₅₂ G₅₂ ht1 => wpAny_items_cons ?_
          · rcases List.mem_cons.mp hn with rfl | hn
            · lia
            · rcases List.mem_cons.mp hn with rfl | hn
              · lia
              · rw [List.mem_singleton.mp hn]; lia
          have S₅₂ := S₅₁.grow G₅₂
          refine ev_callK (s := uD s h₅₂ tk₅₂ d₃₀) B S₅₂.toRs rfl rfl rfl (wpAny_items_cons (ev_var (s := uD s h₅₂ tk₅₂ d₃₀) S₅₂.toRs u2 (wpAny_items_cons (List_ (wpAny_items_cons (wpAny_Constant_str (wpAny_items_cons (wpAny_Constant_str (wpAny_items_nil ?_))))))) (by walk_at "VK")))
          refine newLX (s := uD s h₅₂ _ d₃₀) S₅₂ (by simp) fun lb h₅₃ S₅₃ lbX => wpAny_items_nil ⟨S₅₃.inK B, ?_⟩
          have S₅₄ := S₅₃.freeze lbX
          have l54 := S₅₃.freezeLe
          have hq0 := ((q0.1.le G₅₁.le).le G₅₂.le).le l54
          refine without_spec (ns := ["b", "z"]) B S₅₄.b0 ((R' _).mo) hq0 ⟨lb, _, rfl, ⟨0, addH_self⟩, .cons _ _ (.cons _ _ .nil)⟩ (by first | decide | lia) _ _ _ S₅₄.kn fun t2 H₅₅ h₅₅ tk₅₅ G₅₅ ht2 => wpAny_items_nil ?_
          have S₅₅ := S₅₄.grow G₅₅
          refine newLX (s := uD s h₅₅ tk₅₅ d₃₀) S₅₅ (by simp) fun lt h₅₆ S₅₆ ltX => ?_
          have S₅₇ := S₅₆.freeze ltX
          have l57 := addH_le (o := lsO [t0, t1, t2] 0) (S₅₆.mu _ (.head _)).2.1
          have hlt : ListH (addH H₅₅ lt (lsO [t0, t1, t2] 0)) lt [t0, t1, t2] := ⟨0, addH_self⟩
          have l5 := ((((G₅₁.le.trans G₅₂.le).trans l54).trans G₅₅.le).trans l57)
          have hA : All2 (fun v o => NeedsH prog w (addH H₅₅ lt (lsO [t0, t1, t2] 0)) v o) [t0, t1, t2] [bothF (pk v0) (pk v1), eitherF [pk v0, pk v1, pk v2], withoutF (pk v0) ["b", "z"]] :=
            .cons (((((ht0.le G₅₂.le).le l54).le G₅₅.le).le l57)) (.cons (((ht1.le l54).le G₅₅.le).le l57) (.cons (ht2.le l57) .nil))
          have hpv := hpv.le l5
          have hcv := hcv.le l5
          have hxv := hxv.le l5
          generalize addH H₅₅ lt (lsO [t0, t1, t2] 0) = H₅₈ at *
          refine St.store (s := uD s h₅₆ tk₅₅ d₃₀) S₅₇ (by walk_at "VK") fun h₅₈ tk₅₈ S₅₈ => ?_
          have hLots : ∀ n ∈ [pk v0, pk v1, pk v2], LotOk n := fun n hn => by
            rcases List.mem_cons.mp hn with rfl | hn
            · exact q0.2
            · rcases List.mem_cons.mp hn with rfl | hn
              · exact q1.2
              · rw [List.mem_singleton.mp hn]; exact q2.2
          have hT : ∀ o ∈ [bothF (pk v0) (pk v1), eitherF [pk v0, pk v1, pk v2], withoutF (pk v0) ["b", "z"]], Srt o := fun o ho => by
            rcases List.mem_cons.mp ho with rfl | ho
            · exact .both q0.2 q1.2
            · rcases List.mem_cons.mp ho with rfl | ho
              · exact .of (either_facts _ none (fun ks e => by cases e) hLots).1
              · rw [List.mem_singleton.mp ho]; exact .of q0.2.without
          refine xs (wpAny_Return_some (wpAny_Compare1 ?_ rfl))
          refine lc (s := uD s h₅₈ tk₅₈ d₃₀) R.hd S₅₈ (.of rfl) (fun i H' ys ms' => ms' = [(SL, oS₂₀)] ∧ All2 (fun o y => ResV H' y (canonF o)) ([bothF (pk v0) (pk v1), eitherF [pk v0, pk v1, pk v2], withoutF (pk v0) ["b", "z"]].take i) ys) (fun _ _ _ _ _ l h => ⟨h.1, All2.imp h.2 fun o y r => r.le l⟩) ?_
          refine ev_var (s := uD s h₅₈ tk₅₈ d₃₀) S₅₈.toRs rfl ?_ (by walk_at "VK")
          refine it_list (s := uD s h₅₈ tk₅₈ d₃₀) R.hd S₅₈ hlt fun it h₅₉ hF => ?_
          obtain ⟨J, os, W, j0, S₅₉, hX⟩ := hF "lot" _
          refine ⟨_, J, _, H₅₈, _, _, os, W, le_line (by simp), j0, S₅₉, hX, ⟨rfl, .nil⟩, sort_turn B R.hd rfl rfl hA hT, ?_⟩
          intro D ep ys H₆₀ ms₆₀ h₆₀ tk₆₀ le₆₀ rI8 S₆₀ DX
          refine absG fun gG hgG => ?_
          obtain ⟨rfl, hy⟩ := rI8
          refine hgG ?_; clear hgG
          refine List_ (wpAny_items_cons (ev_var (s := uD s h₆₀ tk₆₀ d₃₀) S₆₀.toRs u4 (wpAny_items_cons (ev_var (s := uD s h₆₀ tk₆₀ d₃₀) S₆₀.toRs u5 (wpAny_items_cons (ev_var (s := uD s h₆₀ tk₆₀ d₃₀) S₆₀.toRs u6 (wpAny_items_nil ?_) (by walk_at "VK"))) (by walk_at "VK"))) (by walk_at "VK")))
          refine newLX (s := uD s h₆₀ tk₆₀ d₃₀) S₆₀ (by simp) fun lr h₆₁ S₆₁ lrX => ?_
          have hy' : All2 (fun o y => ResV H₆₀ y (canonF o)) [bothF (pk v0) (pk v1), eitherF [pk v0, pk v1, pk v2], withoutF (pk v0) ["b", "z"]] ys := hy
          have hpv := hpv.le le₆₀
          have hcv := hcv.le le₆₀
          have hxv := hxv.le le₆₀
          rw [pair_canon] at hpv
          rw [common_canon _ hLots] at hcv
          rw [less_canon] at hxv
          obtain ⟨y0, y1, y2, rfl, r0, r1, r2⟩ : Ex3 fun y0 y1 y2 => ys = [y0, y1, y2] ∧ ResV H₆₀ y0 (canonF (bothF (pk v0) (pk v1))) ∧ ResV H₆₀ y1 (canonF (eitherF [pk v0, pk v1, pk v2])) ∧ ResV H₆₀ y2 (canonF (withoutF (pk v0) ["b", "z"])) := by
            cases hy' with
            | cons a b => cases b with
              | cons b c => cases c with
                | cons c d => cases d; exact ⟨_, _, _, rfl, a, b, c⟩
          have eD := (S₆₁.mu (D, lsO [y0, y1, y2] ep) (.tail _ (.head _))).1
          have eL := (S₆₁.mu _ (.head _)).1
          refine SeqAt.eq_listAt (s := uD s h₆₁ tk₆₀ d₃₀) (items := #[y0, y1, y2]) (items2 := #[pv, cv, xv]) (e := fun _ => true) ⟨_, eD, rfl, ep, rfl⟩ ⟨_, eL, rfl, 0, rfl⟩ rfl (((R' _).mono (Nat.le_refl 11)).units) (fun j h1 h2 => ?_) ?_
          · match j, h1 with
            | 0, _ => exact eq_same (s := uD s h₆₁ tk₆₀ d₃₀) S₆₁.kn r0 hpv (hu1 _)
            | 1, _ => exact eq_same (s := uD s h₆₁ tk₆₀ d₃₀) S₆₁.kn r1 hcv (hu1 _)
            | 2, _ => exact eq_same (s := uD s h₆₁ tk₆₀ d₃₀) S₆₁.kn r2 hxv (hu1 _)
            | j + 3, h => exact absurd h (by simp)
          · rw [show ((List.range (#[y0, y1, y2] : Array Value).size).all fun _ => true) = true from List.all_eq_true.mpr fun _ _ => rfl]
            exact hQ h₆₁ tk₆₀ d₃₀ fun b o hb e => S₆₁.upI b o (by simpa using hb) e
end
end Mine
end
section
open PySem PySem.W PyProof.Rows PySem.Calls
set_option maxRecDepth 10000
set_option linter.unusedVariables false
namespace Mine
noncomputable def four : List Str := ["x", "y", "z", "w"]
theorem four_off : ∀ y ∈ four, Off 0 20 y := by
  have : ∀ y ∈ four, ∀ base ∈ bases, ∀ j : Fin 21, y ≠ nm base j.val := by decide +kernel
  intro y hy base hb j _ hj
  exact this y hy base hb ⟨j, by lia⟩
theorem four_any {x : Str} : (four.any (· == x)) = decide (x ∈ four) := by
  rw [Bool.eq_iff_iff, decide_eq_true_eq, List.any_eq_true]
  constructor
  · rintro ⟨y, hy, e⟩; rw [← eq_of_beq e]; exact hy
  · exact fun h => ⟨x, h, beq_self_eq_true x⟩
section
variable {prog : Program} {w : World} {A : Around} {E : Value → Shared → Prop} {s : Shared} {c : Cx} {H H0 : KH} {env : Env} {V : Str → Option Value} {ms r : List (Addr × Obj)}
theorem needs_isNone {v : Value} {n : Option (List Str)} (h : NeedsH prog w H v n) : (v == .none) = n.isNone := by
  cases n with
  | none => have e : v = .none := h; subst e; rfl
  | some ks => obtain ⟨d, rfl, D⟩ := h; rfl
theorem ne_nils {a b : Addr} {ep ep' : Nat} {Q : Value → Shared → Prop} (ha : s.heap.get? a = some (lsO [] ep)) (hb : s.heap.get? b = some (lsO [] ep')) (hu : A.units + 20 ≤ 9000) (h : Q (.bool false) s) :
    wpAny (model prog w) A (compareOp .NotEq (.ref a) (.ref b)) Q E s := by
  refine SeqAt.compareNe_reads (da := .list []) (db := .list []) (.list ha rfl rfl .nil) (.list hb rfl rfl .nil) rfl rfl ?_ h
  have e : cLine = 9900 := by rfl
  have e1 : min (PyData.depth (.list [])) (PyData.depth (.list [])) ≤ 10 := by decide +kernel
  lia
theorem ev_four {k1 k2 k3 k4 : Nat} {p1 p2 p3 p4 pos : Pos} {Q : Value → Shared → Prop} (S : St c H env V ms s.heap) (h : ∀ a H' h' tk', H.le H' → St c H' env V ms h' → NamesH H' (.ref a) four → Q (.ref a) (uP s h' tk')) :
    wpAny (model prog w) A (eval (.List [.Constant (.str "x") k1 p1, .Constant (.str "y") k2 p2, .Constant (.str "z") k3 p3, .Constant (.str "w") k4 p4] pos) env) Q E s := by
  refine List_ (wpAny_items_cons (wpAny_Constant_str (wpAny_items_cons (wpAny_Constant_str (wpAny_items_cons (wpAny_Constant_str (wpAny_items_cons (wpAny_Constant_str (wpAny_items_nil ?_)))))))))
  refine newLX S (by simp) fun a h₁ S₁ aX => ?_
  have S₂ := S₁.freeze aX
  exact h a _ h₁ _ (addH_le (S₁.mu _ (.head _)).2.1) S₂ ⟨a, _, rfl, ⟨0, addH_self⟩, .cons _ _ (.cons _ _ (.cons _ _ (.cons _ _ .nil)))⟩
theorem ev_sets {SL : Addr} {oS : Obj} {p p1 pos : Pos} {Q : Value → Shared → Prop} (B : Base (KW w) c.H0) (S : St c H env V [(SL, oS)] s.heap) (R : Room A 12) (hS : SrcOk oS) (hX : c.X = []) (vs : V "source" = some (.ref SL))
    (ks : env.kindOf "source" = some .local ∨ env.kindOf "source" = some .cell) (kf : env.kindOf "_law_sets_right" = some .globalImplicit)
    (h : ∀ h' tk d, Up c.hI h' → Q (.bool true) (uD s h' tk d)) : wpAny (model prog w) A (eval (.Call (.Name "_law_sets_right" p) [.Name "source" p1] [] pos) env) Q E s := by
  refine ev_callK B S.toRs rfl kf rfl (wpAny_items_cons (ev_var S.toRs vs (wpAny_items_nil ⟨S.inK B, ?_⟩) ks))
  have m := S.mu _ (.head _)
  refine sets_spec B S.b0 R hS S.kn ⟨m.1, m.2.1⟩ fun h'' tk'' d'' keep => h h'' tk'' d'' fun b o eb => keep b o (fun q => ?_) (S.upI b o (by rw [hX]; simp) eb)
  have m3 := m.2.2.1.resolve_left (by rw [hX]; simp)
  have m3' : c.hI.get? SL = none := m3
  rw [q, m3'] at eb; cases eb
set_option maxHeartbeats 4000000 in
theorem law_code {SA : Addr} (B : Base (KW w) H0) (l0 : H0.le H) (R : Room A 47) (hS : ScriptH H SA) (kn : InH H s.heap) {Rr : Result → Shared → Prop}
    (hQ : ∀ h' tk d, Up s.heap h' → Rr (.ok (.ret (.bool true))) (uD s h' tk d)) : codeAny (model prog w) A (.call (.ref 577) ⟨[.ref SA], []⟩) Rr s := by
  refine code_fn (ms := []) (binds := [("script", .ref SA)]) B l0 kn (fun _ h => nomatch h) .nil R.depth rfl rfl rfl rfl rfl rfl rfl ?_
  intro Lc h₁ tk S
  have R' : ∀ env, Room (A.deeper env) 46 := fun _ => R.deeper
  refine xs (asg2 ?_ ?_ ?_ ?_)
  case refine_1 => exact R.hd
  case refine_3 => exact .inl rfl
  case refine_4 => exact .inl rfl
  refine ev_callK (s := uP s h₁ tk) B S.toRs rfl rfl rfl (wpAny_items_cons (ev_var (s := uP s h₁ tk) S.toRs rfl (wpAny_items_cons (wpAny_Constant_int (wpAny_items_nil ⟨S.inK B, ?_⟩))) (by walk_at "VK")))
  refine pool_spec B S.b0 ((R' _).mo) hS _ _ _ S.kn fun SL oS h₂ tk₂ up fr e hP => ?_
  have S₂ := S.new up fr e
  refine dict_one (s := uP s h₂ tk₂) B S₂ fun BX o0 h₃ S₃ nm => wpAny_Constant_str (wpAny_Constant_int ⟨_, _, H, _, [(SL, oS)], rfl, S₃, fun oB h₄ tk₄ S₄ hB => ⟨_, H, _, [(BX, oB), (SL, oS)], S₄, fun h₅ tk₅ S₅ => ?_⟩⟩)
  have S₆ := S₅.perm (ms' := [(SL, oS), (BX, oB)]) (List.Perm.swap _ _ _)
  refine xs (wpAny_Assign_Name (ev_four (s := uP s h₅ tk₅) S₆ fun nl H₈ h₇ tk₇ l8 S₈ hn => ?_))
  refine St.store (s := uP s h₇ tk₇) S₈ (by walk_at "VK") fun h₉ tk₉ S₉ => ?_
  refine xs (wpAny_Assign_Name ?_)
  refine ev_callK (s := uP s h₉ tk₉) B S₉.toRs rfl rfl rfl (wpAny_items_cons (ev_var (s := uP s h₉ tk₉) S₉.toRs rfl (wpAny_items_cons (ev_var (s := uP s h₉ tk₉) S₉.toRs rfl (wpAny_items_cons (ev_var (s := uP s h₉ tk₉) S₉.toRs rfl (wpAny_items_cons (wpAny_Constant_int (wpAny_items_nil ⟨S₉.inK B, ?_⟩))) (by walk_at "VK"))) (by walk_at "VK"))) (by walk_at "VK")))
  refine expr_at B 2 (by first | decide | lia) _ H₈ SL BX nl oS oB four 0 _ S₉.b0 ((R' _).mo) hP ⟨_, hB⟩ (by decide) hn (by decide) (by decide) four_off _ _ _ S₉.kn (fun p hp => ?_) (by have := S₉.nd; simpa using this) fun v H₁₀ h₁₀ tk₁₀ os' M ⟨oS', oB', k', e, e1, hS', hB', hk1, hk2, D⟩ => ?_
  · exact ⟨(S₉.mu p hp).1, (S₉.mu p hp).2.1⟩
  subst e1
  have S₁₀ : St _ H₁₀ _ _ [(SL, oS'), (BX, oB')] h₁₀ := St.moveL (os := [(SL, oS), (BX, oB)]) (r := []) S₉ M
  have S₁₁ := (S₁₀.perm (ms' := [(BX, oB'), (SL, oS')]) (List.Perm.swap _ _ _)).drop (by simp)
  have hn₁₀ := hn.le M.le
  have hlaw := plain_law D.few D.ub D.sc fun y hy => D.nb y (Off.mono (four_off y hy) (Nat.le_refl _) (Nat.le_trans hk2 (by decide)))
  refine St.store (s := uP s h₁₀ tk₁₀) S₁₁ (by walk_at "VK") fun h₁₂ tk₁₂ S₁₂ => ?_
  refine xs (wpAny_Assign_Name ?_)
  refine ev_callK (s := uP s h₁₂ tk₁₂) B S₁₂.toRs rfl rfl rfl (wpAny_items_cons (ev_var (s := uP s h₁₂ tk₁₂) S₁₂.toRs rfl (wpAny_items_cons ?_) (by walk_at "VK")))
  refine dict_empty (s := uP s h₁₂ tk₁₂) B S₁₂ fun DE oE h₁₃ S₁₃ hE nmE frE => wpAny_items_nil ⟨S₁₃.inK B, ?_⟩
  have S₁₄ := S₁₃.freeze (by simp)
  have l14 := S₁₃.freezeLe
  refine needed_at B 4 (by first | decide | lia) _ _ v e DE S₁₄.b0 ((R' _).mo) (TreeAt.le l14 _ _ _ D.tree) D.few ⟨nmE, oE, addH_self, hE⟩ _ _ _ S₁₄.kn fun tv H₁₅ h₁₅ tk₁₅ G₁₅ hN => ?_
  have S₁₅ := S₁₄.grow G₁₅
  have hT := TreeAt.le (l14.trans G₁₅.le) _ _ _ D.tree
  have hnm := (hn₁₀.le l14).le G₁₅.le
  have hF := D.few
  have eN := needs_isNone hN
  refine St.store (s := uP s h₁₅ tk₁₅) S₁₅ (by walk_at "VK") fun h₁₆ tk₁₆ S₁₆ => ?_
  refine xs (xif (wpAny_isTrue_Compare1 (wpAny_Compare1 (ev_var (s := uP s h₁₆ tk₁₆) S₁₆.toRs rfl (wpAny_Constant_none (is_none ?_)) (by walk_at "VK")) rfl) rfl))
  refine ev_callK (s := uP s h₁₆ tk₁₆) B S₁₆.toRs rfl rfl rfl (wpAny_items_cons (ev_var (s := uP s h₁₆ tk₁₆) S₁₆.toRs rfl (wpAny_items_nil ⟨S₁₆.inK B, ?_⟩) (by walk_at "VK")))
  refine (walks_at B 4 (by first | decide | lia)).1 _ _ v e S₁₆.b0 ((R' _).mo) hT hF _ _ _ S₁₆.kn fun rd H₁₇ h₁₇ tk₁₇ G₁₇ hr => ?_
  subst hr
  have S₁₇ := S₁₆.grow G₁₇
  have hT := TreeAt.le G₁₇.le _ _ _ hT
  have hnm := hnm.le G₁₇.le
  refine ne_bool (wpAny_truthy_bool ?_)
  rw [eN, hlaw.1, bne_self_eq_false]
  refine wpAny_execs_nil ?_
  refine xs (xif (t_isNone (s := uP s h₁₇ tk₁₇) S₁₇.toRs rfl (by walk_at "VK") ?_))
  rw [eN]
  cases hneed : needF 4 e with
  | none =>
    refine xs (wpAny_Return_some (BoolOp_and (UnaryOp_ ?_)))
    refine ev_callK (s := uP s h₁₇ tk₁₇) B S₁₇.toRs rfl rfl rfl (wpAny_items_cons (ev_var (s := uP s h₁₇ tk₁₇) S₁₇.toRs rfl (wpAny_items_cons (List_ (wpAny_items_nil ?_))) (by walk_at "VK")))
    refine newLX (s := uP s h₁₇ tk₁₇) S₁₇ (by simp) fun ll h₁₈ S₁₈ lX => wpAny_items_nil ⟨S₁₈.inK B, ?_⟩
    have S₁₉ := S₁₈.freeze lX
    refine comes_at B 4 (by first | decide | lia) _ _ v e ll [] [] S₁₉.b0 ((R' _).mo) (TreeAt.le S₁₈.freezeLe _ _ _ hT) hF ⟨0, addH_self⟩ .nil (by decide) _ _ _ S₁₉.kn fun rc H₂₀ h₂₀ tk₂₀ G₂₀ hr => ?_
    subst hr
    have S₂₀ := S₁₉.grow G₂₀
    refine not_of (wpAny_truthy_bool (wpAny_truthy_bool ?_))
    rw [hlaw.2.1 hneed]
    exact BoolOp_one (ev_sets (s := uP s h₂₀ tk₂₀) B S₂₀ ((R' _).mo) hS' rfl rfl (by walk_at "VK") rfl hQ)
  | some ks =>
    refine wpAny_execs_nil ?_
    rw [hneed] at hN
    obtain ⟨d, rfl, hD⟩ := hN
    have hD := hD.le G₁₇.le
    obtain ⟨hsub, hper⟩ := hlaw.2.2 ks hneed
    have hlen : ks.length ≤ 256 := by
      have := needF_len 4 e hF
      rw [hneed] at this
      exact this
    refine xs (xif (wpAny_isTrue_Compare1 ?_ rfl))
    refine lc (s := uP s h₁₇ tk₁₇) R.hd S₁₇ (.of rfl) (fun i H' ys ms' => ms' = [(SL, oS')] ∧ All2 (fun (p : Str × Value) (y : Value) => ∃ t, y = .str p.1 t) (((ks.map keyT).take i).filter fun p => !(four.any (· == p.1))) ys) (fun _ _ _ _ _ _ h => h) ?_
    refine ev_var (s := uP s h₁₇ tk₁₇) S₁₇.toRs rfl ?_ (by walk_at "VK")
    refine it_dict (s := uP s h₁₇ tk₁₇) R.hd S₁₇ hD fun it h₁₈ hFr => ?_
    obtain ⟨J, os, Wk, j0, S₁₈, hX⟩ := hFr "name" _
    refine ⟨_, J, _, H₁₇, _, _, os, Wk, le_line (by rw [List.length_map]; lia), j0, S₁₈, hX, ⟨rfl, .nil⟩, LcTurn.pure (ks.map keyT) (fun p => !(four.any (· == p.1))) (fun p y => ∃ t, y = .str p.1 t) ?_ ?_ (fun _ _ _ _ h _ => h), ?_⟩
    · intro j p bs cenv H2 s₃ E' hp rI8 le2 S2 hms hsc
      refine absG fun gG hgG => ?_
      obtain ⟨u, rfl, k, y, t, hk, rfl⟩ := rI8
      refine hgG ?_; clear hgG
      rw [hp] at hk; cases hk
      refine absG fun gG hgG => ?_
      obtain ⟨nl', nvs, e', hl, hst⟩ := hnm.le le2
      refine hgG ?_; clear hgG
      cases e'
      refine tests_one (wpAny_isTrue_Compare1 (ev_var S2 compVB_own (ev_var S2 (compVB_get (u := .ref nl) (by decide) (relabel_free rfl rfl rfl) rfl) ?_ (.inr (lk hsc (relabel_free rfl rfl rfl)))) (.inl (lk hsc rfl))) rfl)
      exact notin_list_strs (hl.at S2.kn) hst (wpAny_truthy_bool ⟨rfl, grow_refl' S2.kn⟩)
    · intro j p bs cenv H2 s₃ E' hp _ rI9 le2 S2 hms hsc
      refine absG fun gG hgG => ?_
      obtain ⟨u, rfl, k, y, t, hk, rfl⟩ := rI9
      refine hgG ?_; clear hgG
      rw [hp] at hk; cases hk
      exact ev_var S2 compVB_own ⟨⟨t, rfl⟩, grow_refl' S2.kn⟩ (.inl (lk hsc rfl))
    intro D ep ys H₁₉ ms' h₁₉ tk₁₉ le₁₉ rI8 S₁₉ DX
    refine absG fun gG hgG => ?_
    obtain ⟨rfl, hy⟩ := rI8
    refine hgG ?_; clear hgG
    have hnil : (((ks.map keyT).take (ks.map keyT).length).filter fun p => !(four.any (· == p.1))) = [] := by
      rw [List.take_length, List.filter_eq_nil_iff]
      intro p hp
      obtain ⟨k, hk, rfl⟩ := List.mem_map.mp hp
      rw [four_any, show (keyT k).1 = k from rfl, decide_eq_true (hsub k hk)]; simp
    rw [hnil] at hy
    cases hy
    refine List_ (wpAny_items_nil ?_)
    refine newLX (s := uP s h₁₉ tk₁₉) S₁₉ (by simp) fun lb h₂₀ S₂₀ lbX => ?_
    have S₂₁ := (S₂₀.drop lbX).drop DX
    refine ne_nils (s := uP s h₂₀ tk₁₉) (S₂₀.mu _ (.tail _ (.head _))).1 (S₂₀.mu _ (.head _)).1 (by have := ((R' default).mono (Nat.le_refl 46)).un; show A.units + 3 + 20 ≤ 9000; have h2 : A.units + 3 + 20 * 46 ≤ 9000 := this; lia) (wpAny_truthy_bool (wpAny_execs_nil ?_))
    have hT := TreeAt.le le₁₉ _ _ _ hT
    have hnm := hnm.le le₁₉
    have hD := hD.le le₁₉
    refine absG fun gG hgG => ?_
    obtain ⟨nl', nvs, e', hl, hst⟩ := hnm
    refine hgG ?_; clear hgG
    cases e'
    have e4 : nvs.length = 4 := strsLen hst
    refine xs (for_it (s := uP s h₂₀ tk₁₉) (c := ⟨H0, H, s.heap, []⟩) R.hd (fun i H' V' ms' => V' "source" = some (.ref SL) ∧ V' "told" = some (.ref d) ∧ V' "expr" = some v ∧ ms' = [(SL, oS')]) ?_ (fun _ _ _ _ _ _ h => h))
    refine ev_var (s := uP s h₂₀ tk₁₉) S₂₁.toRs rfl ?_ (by walk_at "VK")
    refine it_list (s := uP s h₂₀ tk₁₉) R.hd S₂₁ hl fun it h₂₂ hF2 => ?_
    obtain ⟨J2, os2, W2, j2, S₂₂, hX2⟩ := hF2 "name" _
    refine ⟨_, J2, _, _, _, _, os2, W2, j2, S₂₂, hX2, ⟨rfl, rfl, rfl, rfl⟩, ?_, ?_⟩
    · intro i bs os' H' V' ms' h' tk' hi rI9 le hX' rI12 S'
      refine absG fun gG hgG => ?_
      obtain ⟨u, rfl, hu⟩ := rI9
      obtain ⟨w1, w2, w3, rfl⟩ := rI12
      refine hgG ?_; clear hgG
      refine absG fun gG hgG => ?_
      obtain ⟨x, t, hx, rfl⟩ := strsAt hst hu
      refine hgG ?_; clear hgG
      obtain ⟨p1, p2⟩ := hper x (List.mem_of_getElem? hx)
      have w2' : (bindV [("name", Value.str x t)] V') "told" = some (.ref d) := w2
      have w3' : (bindV [("name", Value.str x t)] V') "expr" = some v := w3
      have hDn : NeedsH prog w H' (.ref d) (some ks) := ⟨d, rfl, hD.le le⟩
      have hT := TreeAt.le le _ _ _ hT
      refine xs (xif (wpAny_isTrue_BoolOp (wpAny_allTrue_Or_cons (wpAny_isTrue_Compare1 (wpAny_Compare1 (ev_var (s := uP s h' tk') S'.toRs rfl (ev_var (s := uP s h' tk') S'.toRs w2' (lot_in hDn S'.kn fun tk2 => ?_) (by walk_at "VK")) (by walk_at "VK")) rfl) rfl))))
      refine ev_callK (s := uP s h' tk2) B S'.toRs rfl rfl rfl (wpAny_items_cons (ev_var (s := uP s h' tk2) S'.toRs rfl (wpAny_items_cons (ev_var (s := uP s h' tk2) S'.toRs w3' (wpAny_items_nil ⟨S'.inK B, ?_⟩) (by walk_at "VK"))) (by walk_at "VK")))
      refine (walks_at B 4 (by first | decide | lia)).2 _ _ v e x t S'.b0 ((R' _).mo) hT hF _ _ _ S'.kn fun rv H3 h3 tk3 G3 hr => ?_
      subst hr
      have S3 := S'.grow G3
      have hDn := hDn.le G3.le
      have hT := TreeAt.le G3.le _ _ _ hT
      refine ne_bool (wpAny_truthy_bool ?_)
      rw [p1, bne_self_eq_false]
      refine wpAny_allTrue_Or_cons (wpAny_isTrue_BoolOp (wpAny_allTrue_And_cons (wpAny_isTrue_Compare1 (ev_var (s := uP s h3 tk3) S3.toRs rfl (ev_var (s := uP s h3 tk3) S3.toRs w2' (lot_in hDn S3.kn fun tk4 => wpAny_truthy_bool ?_) (by walk_at "VK")) (by walk_at "VK")) rfl)))
      cases hm : decide (x ∈ ks) with
      | false => exact wpAny_allTrue_Or_nil (wpAny_execs_nil (wpAny_execs_nil ⟨H3, _, _, h3, tk4, rfl, G3.le, S3, w1, w2, w3, rfl⟩))
      | true =>
        refine wpAny_allTrue_And_cons (wpAny_isTrue_value ?_ rfl)
        refine ev_callK (s := uP s h3 tk4) B S3.toRs rfl rfl rfl (wpAny_items_cons (ev_var (s := uP s h3 tk4) S3.toRs w3' (wpAny_items_cons (List_ (wpAny_items_cons (ev_var (s := uP s h3 tk4) S3.toRs rfl (wpAny_items_nil ?_) (by walk_at "VK"))))) (by walk_at "VK")))
        refine newLX (s := uP s h3 tk4) S3 (by simp) fun ll h5 S5 lX => wpAny_items_nil ⟨S5.inK B, ?_⟩
        have S6 := S5.freeze lX
        have l6 := S5.freezeLe
        refine comes_at B 4 (by first | decide | lia) _ _ v e ll [.str x t] [x] S6.b0 ((R' _).mo) (TreeAt.le l6 _ _ _ hT) hF ⟨0, addH_self⟩ (.cons x t .nil) (by simp) _ _ _ S6.kn fun rc H7 h7 tk7 G7 hr => ?_
        subst hr
        have S7 := S6.grow G7
        rw [p2 (of_decide_eq_true hm)]
        refine wpAny_truthy_bool (wpAny_allTrue_Or_nil (wpAny_execs_nil (wpAny_execs_nil ⟨H7, _, _, h7, tk7, rfl, (G3.le.trans l6).trans G7.le, S7, w1, w2, w3, rfl⟩)))
    · intro H' V' ms' h' tk' le rI6 S'
      refine absG fun gG hgG => ?_
      obtain ⟨w1, w2, w3, rfl⟩ := rI6
      refine hgG ?_; clear hgG
      refine xs (wpAny_Return_some ?_)
      exact ev_sets (s := uP s h' tk') B S' ((R' _).mo) hS' rfl w1 (by walk_at "VK") rfl hQ
end
end Mine
end
section
open PySem PySem.W PyProof.Rows PySem.Calls
set_option maxRecDepth 10000
namespace Mine
theorem IntsAre.items {vs : List Value} {ns : List Int} (h : IntsAre vs ns) : ∀ (i : Nat) (v : Value), vs.toArray[i]? = some v → ∃ x t, v = .int x t := by
  intro i v hv
  rw [List.getElem?_toArray] at hv
  induction h generalizing i with
  | nil => simp at hv
  | cons _ _ _ ih =>
    cases i with
    | zero => simp at hv; exact ⟨_, _, hv.symm⟩
    | succ i => exact ih i (by simpa using hv)
theorem base_of {K : Frag} {p : Program} {loose : List Str} {mean : ExcName → Option Value} {mg mb : Str → Option Value} {h : Heap} (KX : K.In h) (T : Top p loose mean mg mb h) (seer : h.NoSeer) : Base K (fun a => h.get? a) where
  k := KX
  g := let ⟨o, es, ep, r⟩ := T.g; ⟨mg, o, es, ep, r⟩
  b := let ⟨o, es, ep, r⟩ := T.b; ⟨mb, ⟨o, es, ep, r⟩, T.builtins⟩
  nl := let ⟨m, ⟨o, es, ep, r⟩, q⟩ := T.nolimit; ⟨m, ⟨o, es, ep, r⟩, q⟩
  sm := let ⟨_, ⟨o, _, _, e, _⟩, _⟩ := seer.mods; ⟨o, e⟩
end Mine
set_option maxRecDepth 100000 in
set_option maxHeartbeats 8000000 in
theorem PySem.Challenge.cw_og0015_01_holds : PySem.Challenge.rw_og0015_01.Holds := by
  refine holds_law Mine.said0 fun said => ?_
  refine holds_open (q := Mine.view) (loose := []) (Xt := Mine.xt) (XP := XL Mine.view []) (Yf := Mine.hk.obs) (Ya := Mine.hk.val) (YP := Mine.hk.says) (N := 7970) Mine.left0 (Hook.of Mine.hk) (Hook.keeps Mine.hk) (fun s e => xl_of s (Bool.and_eq_true_iff.mp e).1) XL.keeps (by rfl) (by rfl) (by rfl) (fun s e => recFacts_of (Bool.and_eq_true_iff.mp e).2) (by rfl) said (by decide +kernel) ⟨rfl, rfl, rfl, rfl, rfl, by decide +kernel⟩ ?hw ?hc
  case hw => w_witness2
  intro w s₀ s₁ mg mb G Y fa o pm cd doc dV kV ho hd hcd hD hmg hg args vals as hpre hlay hrd hwl hlo
  have KX : (Mine.kf w.params).In s₁.heap := Y
  refine Ground.open G ?_
  intro T B D TE TW
  clear hcd hd hD
  have e : mg "law" = some (.ref 577) := mg_of KX T.g rfl
  have e' : fa = 577 := by
    have h : mg "law" = some (.ref fa) := hmg
    rw [e] at h; cases h; rfl
  subst e'
  clear hmg ho
  have sr : s₁.heap.NoSeer := T.seer (by decide +kernel)
  wrow_args hpre hlay hrd hwl hlo
  rename_i hL _ _ _ hI _ hlen _
  refine enter_call ?_
  refine Mine.law_code (H0 := fun a => s₁.heap.get? a) (H := fun a => s₁.heap.get? a) (Mine.base_of KX T sr) (.refl _) ⟨rfl, by decide +kernel, by decide +kernel⟩ ?_ (fun _ _ q => q) fun h' tk d up => ?_
  · refine ⟨_, fun h k => ?_, Mine.IntsAre.items hI, ?_⟩
    · obtain ⟨o, a, b⟩ := hL
      exact ⟨o, k _ _ a, b⟩
    · have := IntsAre.length hI
      rw [List.size_toArray]; lia
  · refine ⟨.inl ⟨.bool true, .bool true, [], rfl, fun _ => rfl, .bool _, ?_, fun _ => ⟨.nil, fun _ q => nomatch q⟩⟩, .of_keep up, rfl, .of_eq hg⟩
    first | with_unfolding_all rfl | kernel_rfl | (simp [RowW.claim, OpenLaw.row, WShape.has, WTm.holds, WTm.value])
end
