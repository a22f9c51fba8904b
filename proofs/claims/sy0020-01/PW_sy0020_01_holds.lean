import PyProof.Rows.All
import Wide.All
import OpenK.AllK
import Wide.FinOn
import PySem.Challenge.RW_sy0020_01
open PySem PySem.W PyProof.Rows PySem.Calls
set_option Elab.async false
set_option maxRecDepth 100000
set_option linter.all false
namespace Mine
set_option genSizeOf false
noncomputable def Dis (P : Prop) : Prop := P
theorem dis {P : Prop} (h : Dis P) : P := h
theorem und {P : Prop} (h : P) : Dis P = True := eq_true h
set_option compiler.extract_closed false
theorem rg0 : True := by
  k_with_none
  trivial
local macro_rules | `(tactic| walk_at $s:str) => `(tactic| k_extra $s)
section
abbrev Gr := Addr → Option Obj
noncomputable def GLe (G G' : Gr) : Prop := ∀ b o, G b = some o → G' b = some o
noncomputable def GIn (G : Gr) (h : Heap) : Prop := ∀ b o, G b = some o → h.get? b = some o
noncomputable def HLe (H : Heap) (G : Gr) : Prop := ∀ b o, H.get? b = some o → G b = some o
theorem GLe.refl (G : Gr) : GLe G G := fun _ _ e => e
theorem GLe.trans {G G' G'' : Gr} (x : GLe G G') (y : GLe G' G'') : GLe G G'' := fun b o e => y b o (x b o e)
structure Went (wr : List Addr) (G : Gr) (h : Heap) (G' : Gr) (h' : Heap) : Prop where
  sub : GLe G G'
  inn : GIn G' h'
  new : ∀ b o, G' b = some o → G b = some o ∨ h.get? b = none
  rest : ∀ b o, b ∉ wr → h.get? b = some o → h'.get? b = some o
  live : ∀ b o, h.get? b = some o → ∃ o', h'.get? b = some o'
theorem Went.refl {wr : List Addr} {G : Gr} {h : Heap} (x : GIn G h) : Went wr G h G h := ⟨GLe.refl _, x, fun _ _ e => .inl e, fun _ _ _ e => e, fun _ o e => ⟨o, e⟩⟩
theorem Went.trans {wr : List Addr} {G G' G'' : Gr} {h h' h'' : Heap} (x : Went wr G h G' h') (y : Went wr G' h' G'' h'') : Went wr G h G'' h'' where
  sub := x.sub.trans y.sub
  inn := y.inn
  new := fun b o e => by
    rcases y.new b o e with e | e
    · exact x.new b o e
    · right
      cases q : h.get? b with
      | none => rfl
      | some o' => obtain ⟨o'', e''⟩ := x.live b o' q; rw [e] at e''; cases e''
  rest := fun b o n e => y.rest b o n (x.rest b o n e)
  live := fun b o e => by obtain ⟨o', e'⟩ := x.live b o e; exact y.live b o' e'
theorem Went.weaken {wr wr' : List Addr} {G G' : Gr} {h h' : Heap} (x : Went wr G h G' h') (s : ∀ b ∈ wr, b ∈ wr') : Went wr' G h G' h' :=
  ⟨x.sub, x.inn, x.new, fun b o n e => x.rest b o (fun q => n (s b q)) e, x.live⟩
theorem Went.strike {L : Addr} {wr : List Addr} {G G' : Gr} {h h' : Heap} (x : Went (L :: wr) G h G' h') (n : h.get? L = none) : Went wr G h G' h' :=
  ⟨x.sub, x.inn, x.new, fun b o nb e => x.rest b o (fun q => by
    rcases List.mem_cons.mp q with rfl | q
    · rw [n] at e; cases e
    · exact nb q) e, x.live⟩
theorem Went.keeps {G G' : Gr} {h h' : Heap} (x : Went [] G h G' h') : ∀ b o, h.get? b = some o → h'.get? b = some o := fun b o e => x.rest b o (by simp) e
structure Fm (H : Heap) (wr : List Addr) (G₀ : Gr) (h₀ : Heap) (L : Addr) (G : Gr) (mu : List (Addr × Obj)) (h : Heap) (m : Str → Option Value) : Prop where
  ns : h.Ns L m
  base : HLe H G₀
  went : Went (L :: wr) G₀ h₀ G h
  off : G L = none
  mus : ∀ p ∈ mu, h.get? p.1 = some p.2 ∧ p.1 ≠ L ∧ G p.1 = none
section
variable {H : Heap} {wr : List Addr} {G₀ G : Gr} {h₀ h : Heap} {L : Addr} {mu : List (Addr × Obj)} {m : Str → Option Value}
theorem Fm.inn (F : Fm H wr G₀ h₀ L G mu h m) : GIn G h := F.went.inn
theorem Fm.top (F : Fm H wr G₀ h₀ L G mu h m) : HLe H G := fun b o e => F.went.sub b o (F.base b o e)
theorem Fm.topIn (F : Fm H wr G₀ h₀ L G mu h m) : ∀ b o, H.get? b = some o → h.get? b = some o := fun b o e => F.inn b o (F.top b o e)
theorem Fm.alive (F : Fm H wr G₀ h₀ L G mu h m) : ∃ o, h.get? L = some o := let ⟨o, _, _, e, _⟩ := F.ns; ⟨o, e⟩
theorem none_size (h : Heap) : h.get? h.objs.size = none := by
  cases e : h.get? h.objs.size with
  | none => rfl
  | some o => exact absurd (Heap.lt_size e) (Nat.lt_irrefl _)
theorem Fm.Lsize (F : Fm H wr G₀ h₀ L G mu h m) : L ≠ h.objs.size := fun e => by
  obtain ⟨o, ho⟩ := F.alive
  rw [e, none_size] at ho; cases ho
theorem Fm.Gsize (F : Fm H wr G₀ h₀ L G mu h m) : G h.objs.size = none := by
  cases e : G h.objs.size with
  | none => rfl
  | some o => have := F.inn _ _ e; rw [none_size] at this; cases this
theorem Fm.h0size (F : Fm H wr G₀ h₀ L G mu h m) : h₀.get? h.objs.size = none := by
  cases e : h₀.get? h.objs.size with
  | none => rfl
  | some o => obtain ⟨o', e'⟩ := F.went.live _ _ e; rw [none_size] at e'; cases e'
theorem Fm.musize (F : Fm H wr G₀ h₀ L G mu h m) : ∀ p ∈ mu, p.1 ≠ h.objs.size := fun p hp e => by
  have := (F.mus p hp).1; rw [e, none_size] at this; cases this
theorem Fm.store {h' : Heap} {m' : Str → Option Value} (F : Fm H wr G₀ h₀ L G mu h m) (hn : h'.Ns L m') (hs : Heap.SameBut L h h') : Fm H wr G₀ h₀ L G mu h' m' where
  ns := hn
  base := F.base
  went := ⟨F.went.sub, fun b o e => (hs.2 b fun q => by rw [q, F.off] at e; cases e).trans (F.inn b o e), F.went.new,
    fun b o n e => (hs.2 b fun q => n (by simp [q])).trans (F.went.rest b o n e), fun b o e => by
      by_cases q : b = L
      · obtain ⟨o', _, _, e', _⟩ := hn; exact ⟨o', q ▸ e'⟩
      · obtain ⟨o', e'⟩ := F.went.live b o e; exact ⟨o', (hs.2 b q).trans e'⟩⟩
  off := F.off
  mus := fun p hp => ⟨(hs.2 p.1 (F.mus p hp).2.1).trans (F.mus p hp).1, (F.mus p hp).2⟩
noncomputable def GAdd (G : Gr) (a : Addr) (o : Obj) : Gr := fun b => if b = a then some o else G b
theorem GAdd.le {G : Gr} {a : Addr} {o : Obj} (n : G a = none) : GLe G (GAdd G a o) := fun b o' e => by
  unfold GAdd
  rw [if_neg (fun q => by rw [q, n] at e; cases e)]; exact e
theorem GAdd.self {G : Gr} {a : Addr} {o : Obj} : GAdd G a o a = some o := by simp [GAdd]
theorem GAdd.ne {G : Gr} {a b : Addr} {o : Obj} (n : b ≠ a) : GAdd G a o b = G b := by simp [GAdd, n]
theorem Fm.alloc (F : Fm H wr G₀ h₀ L G mu h m) (o : Obj) (hf : o.isFreed = false := by rfl) : Fm H wr G₀ h₀ L (GAdd G h.objs.size o) mu (h.push o) m where
  ns := F.ns.push o
  base := F.base
  went := ⟨F.went.sub.trans (GAdd.le F.Gsize), fun b o' e => by
      by_cases q : b = h.objs.size
      · subst q; rw [GAdd.self] at e; cases e; exact Heap.get?_push_size _ hf
      · rw [GAdd.ne q] at e; exact Heap.get?_push_of_some _ (F.inn b o' e),
    fun b o' e => by
      by_cases q : b = h.objs.size
      · exact .inr (q ▸ F.h0size)
      · rw [GAdd.ne q] at e; exact F.went.new b o' e,
    fun b o' n e => Heap.get?_push_of_some _ (F.went.rest b o' n e), fun b o' e => let ⟨o'', e'⟩ := F.went.live b o' e; ⟨o'', Heap.get?_push_of_some _ e'⟩⟩
  off := by rw [GAdd.ne F.Lsize]; exact F.off
  mus := fun p hp => ⟨Heap.get?_push_of_some _ (F.mus p hp).1, (F.mus p hp).2.1, by rw [GAdd.ne (F.musize p hp)]; exact (F.mus p hp).2.2⟩
theorem Fm.allocMut (F : Fm H wr G₀ h₀ L G mu h m) (o : Obj) (hf : o.isFreed = false := by rfl) : Fm H wr G₀ h₀ L G ((h.objs.size, o) :: mu) (h.push o) m where
  ns := F.ns.push o
  base := F.base
  went := ⟨F.went.sub, fun b o' e => Heap.get?_push_of_some _ (F.inn b o' e), F.went.new,
    fun b o' n e => Heap.get?_push_of_some _ (F.went.rest b o' n e), fun b o' e => let ⟨o'', e'⟩ := F.went.live b o' e; ⟨o'', Heap.get?_push_of_some _ e'⟩⟩
  off := F.off
  mus := fun p hp => by
    rcases List.mem_cons.mp hp with rfl | hp
    · exact ⟨Heap.get?_push_size _ hf, Ne.symm F.Lsize, F.Gsize⟩
    · exact ⟨Heap.get?_push_of_some _ (F.mus p hp).1, (F.mus p hp).2⟩
noncomputable def setMu (a : Addr) (o : Obj) (mu : List (Addr × Obj)) : List (Addr × Obj) := mu.map fun p => if p.1 = a then (a, o) else p
theorem Fm.upd {a : Addr} {o o' : Obj} {h' : Heap} (F : Fm H wr G₀ h₀ L G mu h m) (hm : (a, o) ∈ mu) (hs : Heap.SameBut a h h') (ho : h'.get? a = some o') (hw : a ∈ wr ∨ h₀.get? a = none) :
    Fm H wr G₀ h₀ L G (setMu a o' mu) h' m where
  ns := F.ns.sameBut hs (Ne.symm (F.mus _ hm).2.1)
  base := F.base
  went := ⟨F.went.sub, fun b o e => (hs.2 b fun q => by rw [q, (F.mus _ hm).2.2] at e; cases e).trans (F.inn b o e), F.went.new,
    fun b o n e => (hs.2 b fun q => by
      rcases hw with w | w
      · exact n (by rw [q]; exact List.mem_cons_of_mem _ w)
      · rw [q, w] at e; cases e).trans (F.went.rest b o n e), fun b o e => by
      by_cases q : b = a
      · exact ⟨o', q ▸ ho⟩
      · obtain ⟨o'', e''⟩ := F.went.live b o e; exact ⟨o'', (hs.2 b q).trans e''⟩⟩
  off := F.off
  mus := fun p hp => by
    obtain ⟨q, hq, e⟩ := List.mem_map.mp hp
    by_cases c : q.1 = a
    · rw [if_pos c] at e; subst e; exact ⟨ho, c ▸ (F.mus q hq).2⟩
    · rw [if_neg c] at e; subst e; exact ⟨(hs.2 _ c).trans (F.mus q hq).1, (F.mus q hq).2⟩
theorem Fm.call {G' : Gr} {h' : Heap} (F : Fm H wr G₀ h₀ L G mu h m) (W : Went [] G h G' h') : Fm H wr G₀ h₀ L G' mu h' m where
  ns := F.ns.keeps W.keeps
  base := F.base
  went := F.went.trans (W.weaken (by simp))
  off := by
    cases e : G' L with
    | none => rfl
    | some o =>
      rcases W.new _ _ e with q | q
      · rw [F.off] at q; cases q
      · obtain ⟨o', e'⟩ := F.alive; rw [q] at e'; cases e'
  mus := fun p hp => ⟨W.keeps _ _ (F.mus p hp).1, (F.mus p hp).2.1, by
    cases e : G' p.1 with
    | none => rfl
    | some o =>
      rcases W.new _ _ e with q | q
      · rw [(F.mus p hp).2.2] at q; cases q
      · have := (F.mus p hp).1; rw [q] at this; cases this⟩
theorem Fm.callW {a : Addr} {o o' : Obj} {G' : Gr} {h' : Heap} (F : Fm H wr G₀ h₀ L G mu h m) (W : Went [a] G h G' h') (hm : (a, o) ∈ mu) (ho : h'.get? a = some o') (hw : a ∈ wr ∨ h₀.get? a = none) :
    Fm H wr G₀ h₀ L G' (setMu a o' mu) h' m := by
  have aL := (F.mus _ hm).2.1
  have new' : ∀ b, (∃ o, h.get? b = some o) → G b = none → G' b = none := fun b hb n => by
    cases e : G' b with
    | none => rfl
    | some o =>
      rcases W.new _ _ e with q | q
      · rw [n] at q; cases q
      · obtain ⟨o', e'⟩ := hb; rw [q] at e'; cases e'
  have k : ∀ b o, b ≠ a → h.get? b = some o → h'.get? b = some o := fun b o n e => W.rest b o (by simpa using n) e
  obtain ⟨oL, es, ep, hL, r⟩ := F.ns
  refine ⟨⟨oL, es, ep, k L oL (Ne.symm aL) hL, r⟩, F.base, ⟨F.went.sub.trans W.sub, W.inn, ?_, ?_, ?_⟩, new' L ⟨oL, hL⟩ F.off, ?_⟩
  · intro b o e
    rcases W.new b o e with e | e
    · exact F.went.new b o e
    · right
      cases q : h₀.get? b with
      | none => rfl
      | some o' => obtain ⟨o'', e''⟩ := F.went.live b o' q; rw [e] at e''; cases e''
  · intro b o n e
    refine k b o (fun q => ?_) (F.went.rest b o n e)
    rcases hw with w | w
    · exact n (by rw [q]; exact List.mem_cons_of_mem _ w)
    · rw [q, w] at e; cases e
  · intro b o e
    obtain ⟨o', e'⟩ := F.went.live b o e
    exact W.live b o' e'
  · intro p hp
    obtain ⟨q, hq, e⟩ := List.mem_map.mp hp
    by_cases c : q.1 = a
    · rw [if_pos c] at e; subst e; exact ⟨ho, c ▸ (F.mus q hq).2.1, new' a ⟨_, (F.mus _ hm).1⟩ (F.mus _ hm).2.2⟩
    · rw [if_neg c] at e; subst e; exact ⟨k _ _ c (F.mus q hq).1, (F.mus q hq).2.1, new' _ ⟨_, (F.mus q hq).1⟩ (F.mus q hq).2.2⟩
theorem Fm.other {I : Addr} {h' : Heap} (F : Fm H wr G₀ h₀ L G mu h m) (hk : ∀ b o, b ≠ I → h.get? b = some o → h'.get? b = some o) (hL : I ≠ L) (hG : G I = none) (h0 : h₀.get? I = none) (hm : ∀ p ∈ mu, p.1 ≠ I) :
    Fm H wr G₀ h₀ L G mu h' m := by
  obtain ⟨oL, es, ep, hLo, r⟩ := F.ns
  refine ⟨⟨oL, es, ep, hk _ _ (Ne.symm hL) hLo, r⟩, F.base, ⟨F.went.sub, fun b o e => hk b o (fun q => by rw [q, hG] at e; cases e) (F.inn b o e), F.went.new, fun b o n e => hk b o (fun q => by rw [q, h0] at e; cases e) (F.went.rest b o n e), fun b o e => ?_⟩, F.off,
    fun p hp => ⟨hk _ _ (hm p hp) (F.mus p hp).1, (F.mus p hp).2⟩⟩
  obtain ⟨o', e'⟩ := F.went.live b o e
  exact ⟨o', hk b o' (fun q => by rw [q, h0] at e; cases e) e'⟩
theorem Fm.addMu {a : Addr} {o : Obj} (F : Fm H wr G₀ h₀ L G mu h m) (ha : h.get? a = some o) (hL : a ≠ L) (hG : G a = none) : Fm H wr G₀ h₀ L G ((a, o) :: mu) h m :=
  ⟨F.ns, F.base, F.went, F.off, fun p hp => by
    rcases List.mem_cons.mp hp with rfl | hp
    · exact ⟨ha, hL, hG⟩
    · exact F.mus p hp⟩
theorem Fm.dropMu {p : Addr × Obj} (F : Fm H wr G₀ h₀ L G (p :: mu) h m) : Fm H wr G₀ h₀ L G mu h m := ⟨F.ns, F.base, F.went, F.off, fun q hq => F.mus q (List.mem_cons_of_mem _ hq)⟩
theorem Fm.settle {a : Addr} {o : Obj} (F : Fm H wr G₀ h₀ L G ((a, o) :: mu) h m) (h0 : h₀.get? a = none) (hm : ∀ p ∈ mu, p.1 ≠ a) : Fm H wr G₀ h₀ L (GAdd G a o) mu h m where
  ns := F.ns
  base := F.base
  went := ⟨F.went.sub.trans (GAdd.le (F.mus _ (.head _)).2.2), fun b o' e => by
      by_cases q : b = a
      · subst q; rw [GAdd.self] at e; cases e; exact (F.mus _ (.head _)).1
      · rw [GAdd.ne q] at e; exact F.inn b o' e,
    fun b o' e => by
      by_cases q : b = a
      · exact .inr (q ▸ h0)
      · rw [GAdd.ne q] at e; exact F.went.new b o' e,
    F.went.rest, F.went.live⟩
  off := by rw [GAdd.ne (Ne.symm (F.mus _ (.head _)).2.1)]; exact F.off
  mus := fun p hp => ⟨(F.mus p (.tail _ hp)).1, (F.mus p (.tail _ hp)).2.1, by rw [GAdd.ne (hm p hp)]; exact (F.mus p (.tail _ hp)).2.2⟩
theorem Fm.done (F : Fm H wr G₀ h₀ L G mu h m) (hL : h₀.get? L = none) : Went wr G₀ h₀ G h := F.went.strike hL
end
noncomputable def LstG (G : Gr) (l : Addr) (vs : List Value) : Prop := ∃ o, G l = some o ∧ o.cls = .type "list" ∧ ∃ n, o.data = .seq vs.toArray n
noncomputable def TupG (G : Gr) (l : Addr) (vs : List Value) : Prop := ∃ o, G l = some o ∧ o.cls = .type "tuple" ∧ ∃ n, o.data = .seq vs.toArray n
theorem LstG.mono {G G' : Gr} {l : Addr} {vs : List Value} (x : LstG G l vs) (s : GLe G G') : LstG G' l vs := let ⟨o, e, r⟩ := x; ⟨o, s _ _ e, r⟩
theorem TupG.mono {G G' : Gr} {l : Addr} {vs : List Value} (x : TupG G l vs) (s : GLe G G') : TupG G' l vs := let ⟨o, e, r⟩ := x; ⟨o, s _ _ e, r⟩
theorem LstG.at {G : Gr} {h : Heap} {l : Addr} {vs : List Value} (x : LstG G l vs) (s : GIn G h) : h.IsList l vs.toArray := let ⟨o, e, r⟩ := x; ⟨o, s _ _ e, r⟩
theorem TupG.at {G : Gr} {h : Heap} {l : Addr} {vs : List Value} (x : TupG G l vs) (s : GIn G h) : IsTup h l vs.toArray := let ⟨o, e, c, n, d⟩ := x; ⟨o, s _ _ e, c, n, d⟩
noncomputable def InsG (G : Gr) (x C : Addr) (es : List DictEntry) : Prop := ∃ dx n, G x = some (instObj C dx) ∧ G dx = some (dictOf es n)
theorem InsG.mono {G G' : Gr} {x C : Addr} {es : List DictEntry} (i : InsG G x C es) (s : GLe G G') : InsG G' x C es := let ⟨dx, n, a, b⟩ := i; ⟨dx, n, s _ _ a, s _ _ b⟩
structure Bs (w : World) (K : Frag) (H : Heap) (mg mb : Str → Option Value) : Prop where
  kin : K.In H
  g : H.Ns mainGlobals mg
  b : H.Ns builtinsNs mb
  nolimit : H.NoLimit
  builtins : ∀ x : Str, x ≠ "__name__" → mb x = bootBuiltins x
section
variable {prog : Program} {w : World} {K : Frag} {H : Heap} {mg mb : Str → Option Value} {A : Around} {E : Value → Shared → Prop} {s : Shared}
  {wr : List Addr} {G₀ G : Gr} {h₀ : Heap} {mu : List (Addr × Obj)} {m : Str → Option Value} {env : Env}
theorem nm_local {x : Str} {pos : Pos} {v : Value} {Q : Value → Shared → Prop} (F : Fm H wr G₀ h₀ env.locals G mu s.heap m) (hv : m x = some v) (h : Q v s)
    (hk : env.scope.kind = .function := by rfl) (hx : env.kindOf x = some .local := by rfl) (hd : (x == ("__debug__" : Str)) = false := by decide) :
    wpAny (model prog w) A (eval (.Name x pos) env) Q E s := wpAny_Name (wpAny_loadName_local hk hx F.ns hv h) hd
theorem nm_cell {x : Str} {pos : Pos} {v : Value} {c : Addr} {o : Obj} {Q : Value → Shared → Prop} (F : Fm H wr G₀ h₀ env.locals G mu s.heap m) (hc : env.cells.lookup x = some c) (hm : (c, o) ∈ mu) (ho : o.data = .cell (some v)) (h : Q v s)
    (hk : env.scope.kind = .function := by rfl) (hx : env.kindOf x = some .cell := by rfl) (hd : (x == ("__debug__" : Str)) = false := by decide) :
    wpAny (model prog w) A (eval (.Name x pos) env) Q E s := wpAny_Name (wpAny_loadName_cell hk hx hc ⟨o, (F.mus _ hm).1, ho⟩ h) hd
theorem nm_glob {x : Str} {pos : Pos} {v : Value} {Q : Value → Shared → Prop} (B : Bs w K H mg mb) (F : Fm H wr G₀ h₀ env.locals G mu s.heap m) (e : nsIn K mainGlobals x = some (some v)) (h : Q v s)
    (hk : env.scope.kind = .function := by rfl) (hx : env.kindOf x = some .globalImplicit := by rfl) (hg : env.globals = mainGlobals := by rfl) (hd : (x == ("__debug__" : Str)) = false := by decide) :
    wpAny (model prog w) A (eval (.Name x pos) env) Q E s :=
  Name_function_global hk hx (loadGlobal_global (env := env) (by rw [hg]; exact B.g.keeps F.topIn) (mg_of B.kin B.g e) h) hd
theorem nm_blt {x : Str} {pos : Pos} {v : Value} {Q : Value → Shared → Prop} (B : Bs w K H mg mb) (F : Fm H wr G₀ h₀ env.locals G mu s.heap m) (e : nsIn K mainGlobals x = some none) (hv : bootBuiltins x = some v) (hn : x ≠ "__name__") (h : Q v s)
    (hk : env.scope.kind = .function := by rfl) (hx : env.kindOf x = some .globalImplicit := by rfl) (hg : env.globals = mainGlobals := by rfl) (hb : env.builtins = builtinsNs := by rfl) (hd : (x == ("__debug__" : Str)) = false := by decide) :
    wpAny (model prog w) A (eval (.Name x pos) env) Q E s :=
  Name_function_global hk hx (loadGlobal_builtin (env := env) (by rw [hg]; exact B.g.keeps F.topIn) (mg_none_of B.kin B.g e) (by rw [hb]; exact B.b.keeps F.topIn) ((B.builtins x hn).trans hv) h) hd
theorem st_local {x : Str} {v : Value} {Q : Unit → Shared → Prop} (F : Fm H wr G₀ h₀ env.locals G mu s.heap m)
    (h : ∀ h', Fm H wr G₀ h₀ env.locals G mu h' (fun y => if y = x then some v else m y) → Q () { s with heap := h', toks := s.toks + 1 })
    (hk : env.scope.kind = .function := by rfl) (hx : env.kindOf x = some .local := by rfl) : wpAny (model prog w) A (storeName env x v) Q E s :=
  wpAny_storeName_local hx F.ns (fun h' hn hs => h h' (F.store hn hs)) (by rw [hk]; rfl)
theorem st_cell {x : Str} {v : Value} {c : Addr} {o : Obj} {v₀ : Option Value} {Q : Unit → Shared → Prop} (F : Fm H wr G₀ h₀ env.locals G mu s.heap m) (hc : env.cells.lookup x = some c) (hm : (c, o) ∈ mu) (ho : o.data = .cell v₀) (hw : c ∈ wr ∨ h₀.get? c = none)
    (h : ∀ h' o', Fm H wr G₀ h₀ env.locals G (setMu c o' mu) h' m → o'.data = .cell (some v) → Q () { s with heap := h' })
    (hk : env.scope.kind = .function := by rfl) (hx : env.kindOf x = some .cell := by rfl) : wpAny (model prog w) A (storeName env x v) Q E s :=
  wpAny_storeName_cell hk hx hc ⟨o, (F.mus _ hm).1, ho⟩ fun h' hv hs => by
    obtain ⟨o', ho', hd'⟩ := hv
    exact h h' o' (F.upd hm hs ho' hw) hd'
abbrev Fd := Str × Arguments × List Stmt × Scope
noncomputable def IsFn (K : Frag) (f : Addr) (qual : Str) (fd : Fd) (dV : Value) : Prop :=
  ∃ oc od osl kV doc pm an cdv ct, K.lookup f = some ⟨oc, od, .func (fnOf fd.1 qual fd.2.1 fd.2.2.1 fd.2.2.2 dV kV doc pm an cdv ct), osl⟩ ∧ codeIn K cdv qual = true
end
end
section
structure Cls (K : Frag) (D : Addr) : Prop where
  get : findIn K (.ref D) "__getattribute__" = some (some (.builtin "object.__getattribute__"))
  noga : findIn K (.ref D) "__getattr__" = some none
  dict : hasDictIn K D = true
  klass : findIn K (.ref D) "__class__" = some (some (.builtin "object.__class__"))
  obj : mroIn K D (.type "object") = some true
  set : findIn K (.ref D) "__setattr__" = some (some (.builtin "object.__setattr__"))
  over : plainOver K D = true
  cget : specialIn K (.builtin "object.__class__") "__get__" = some (some (.builtin "getset_descriptor.__get__"))
  ctake : takesIn K (.builtin "object.__class__") = some true
structure Mk (K : Frag) (D fI : Addr) : Prop where
  makes : makesIn K D = true
  init : findIn K (.ref D) "__init__" = some (some (.ref fI))
  fn : isFn K (.ref fI) = true
  keep : keepIn K (.ref D) = true
theorem InsG.at {G : Gr} {h : Heap} {x C : Addr} {es : List DictEntry} (i : InsG G x C es) (s : GIn G h) : ∃ dx n, InstAt h x (instObj C dx) C (some (dictOf es n)) :=
  let ⟨dx, n, a, b⟩ := i; ⟨dx, n, s _ _ a, rfl, rfl, s _ _ b⟩
section
variable {prog : Program} {w : World} {K : Frag} {H : Heap} {mg mb : Str → Option Value} {A : Around} {E : Value → Shared → Prop} {s : Shared}
  {wr : List Addr} {G₀ G : Gr} {h₀ : Heap} {L : Addr} {mu : List (Addr × Obj)} {m : Str → Option Value} {env : Env}
theorem kin_at (B : Bs w K H mg mb) (F : Fm H wr G₀ h₀ L G mu s.heap m) : K.In s.heap := B.kin.keeps F.topIn
theorem ga_ins {x D : Addr} {es : List DictEntry} {name : Str} {v : Value} {expr : Bool} {Q : Value → Shared → Prop} (B : Bs w K H mg mb) (F : Fm H wr G₀ h₀ L G mu s.heap m) (i : InsG G x D es) (c : Cls K D)
    (hn : findIn K (.ref D) name = some none) (hl : getL name es = some (some v)) (hv : handedIn v = true) (h : Q v { s with toks := s.toks + 1 }) :
    wpAny (model prog w) A (getAttr (.ref x) name expr) Q E s := by
  obtain ⟨dx, n, I⟩ := i.at F.inn
  exact get_value (kin_at B F) I c.get (findObj_own c.dict hn rfl hl) hv h
theorem gm_ins {x D f : Addr} {es : List DictEntry} {name : Str} {pl : Sem Bool} {Q : Value × List Value → Shared → Prop} (B : Bs w K H mg mb) (F : Fm H wr G₀ h₀ L G mu s.heap m) (i : InsG G x D es) (c : Cls K D)
    (hf : findIn K (.ref D) name = some (some (.ref f))) (ht : isFn K (.ref f) = true) (hl : getL name es = some none) (h : Q (.ref f, [.ref x]) s) : wpAny (model prog w) A (getMethod (.ref x) name pl) Q E s := by
  obtain ⟨dx, n, I⟩ := i.at F.inn
  exact method_fn (kin_at B F) I c.get c.noga hf (beq_iff_eq.mp ht) (by show (lookIn name (dictOf es n)).map _ = _; rw [lookIn_dict, hl]; rfl) h
theorem isi_ins {x D C : Addr} {es : List DictEntry} {b : Bool} {Q : Value → Shared → Prop} (B : Bs w K H mg mb) (F : Fm H wr G₀ h₀ L G mu s.heap m) (i : InsG G x D es) (c : Cls K D) (e : kitOne K (.ref D) (.ref C) = some b)
    (h : ∀ tk, Q (.bool b) { s with toks := tk }) : wpAny (model prog w) A (call (.builtin "isinstance") [.ref x, .ref C]) Q E s := by
  obtain ⟨dx, n, I⟩ := i.at F.inn
  exact kia_one (kitx_own (by simp [plainGet, c.get, c.noga]) c.dict c.klass c.cget c.ctake c.obj) (kin_at B F) I e (by intro q; cases q) h
theorem isi_two {x D tp : Addr} {es : List DictEntry} {its : List Value} {b : Bool} {Q : Value → Shared → Prop} (B : Bs w K H mg mb) (F : Fm H wr G₀ h₀ L G mu s.heap m) (i : InsG G x D es) (c : Cls K D)
    (ht : G tp = some ⟨.type "tuple", none, .seq its.toArray 0, #[]⟩) (e : kitAny K (.ref D) its = some b)
    (h : ∀ tk, Q (.bool b) { s with toks := tk }) : wpAny (model prog w) A (call (.builtin "isinstance") [.ref x, .ref tp]) Q E s := by
  obtain ⟨dx, n, I⟩ := i.at F.inn
  exact kia_tup (kitx_own (by simp [plainGet, c.get, c.noga]) c.dict c.klass c.cget c.ctake c.obj) (kin_at B F) I (F.inn _ _ ht) e (by intro q; cases q) h
theorem sa_ins {x D dx : Addr} {es : List DictEntry} {n : Nat} {name : Str} {v : Value} {Q : Unit → Shared → Prop} (B : Bs w K H mg mb) (F : Fm H wr G₀ h₀ L G mu s.heap m) (c : Cls K D)
    (hx : s.heap.get? x = some (instObj D dx)) (hm : (dx, dictOf es n) ∈ mu) (hn : findIn K (.ref D) name = some none) (hl : (getL name es).isSome = true) (hz : es.length ≤ 900) (hw : dx ∈ wr ∨ h₀.get? dx = none)
    (h : ∀ h' tk n', Fm H wr G₀ h₀ L G (setMu dx (dictOf (putL name (PyData.keyHash w.params name) (.str name tk) v es) n') mu) h' m → Q () { s with heap := h', toks := s.toks + 2 }) :
    wpAny (model prog w) A (setAttr (.ref x) name v) Q E s := by
  have X := kin_at B F
  have D0 := (F.mus _ hm).1
  have I : InstAt s.heap x (instObj D dx) D (some (dictOf es n)) := ⟨hx, rfl, rfl, D0⟩
  refine set_plain X I c.set ?_
  refine osa_open (s := { s with toks := s.toks + 1 }) (r := none) X I c.over (by unfold takerIn; rw [hn]; rfl) fun b => ?_
  obtain ⟨cd, hc, hd'⟩ := any_some c.dict
  have hput := putName_dict name (PyData.keyHash w.params name) (.str name (s.toks + 1)) v es n
  generalize hes : putL name (PyData.keyHash w.params name) (.str name (s.toks + 1)) v es = es' at hput
  generalize hn' : putN name es n = n' at hput
  have hlen : es'.length ≤ 901 := by
    subst hes
    have : ∀ l : List DictEntry, (putL name (PyData.keyHash w.params name) (.str name (s.toks + 1)) v l).length ≤ l.length + 1 := by
      intro l
      induction l with
      | nil => simp [putL]
      | cons e r ih => unfold putL; split <;> simp; omega
    have := this es; omega
  have D' := Heap.get?_update_self (Obj.putName name (PyData.keyHash w.params name) (.str name (s.toks + 1)) v) D0 (by rw [hput]; rfl)
  rw [hput] at D'
  have F' := F.upd hm (Heap.SameBut.update s.heap dx _) D' hw
  refine wpAny_bind (wpAny_pure (wpAny_bind (wpAny_bind (wpAny_loadPart (s := { s with toks := s.toks + 1 }) hx ?_))))
  refine wpAny_bind (Looks.at (looks_clsIn X hc) ?_)
  rw [hd']
  refine wpAny_pure (a := some dx) (wpAny_bind (wpAny_pure (wpAny_bind ?_)))
  unfold nsSet
  refine wpAny_bind (wpAny_bind (wpAny_askSetting (wpAny_pure (wpAny_bind (wpAny_mkText (wpAny_bind (wpAny_loadPart D0 ?_)))))))
  dsimp only
  have cc : (!es.toArray.any (·.key.isStr name) && es.toArray.any (·.refKey)) = false := by
    unfold getL at hl
    rw [← Array.any_toList, ← Array.any_toList]
    split at hl
    · rename_i en he
      rw [List.any_eq_true.mpr ⟨en, List.mem_of_find?_eq_some he, List.find?_some he⟩]; rfl
    · split at hl
      · cases hl
      · rename_i z; rw [Bool.not_eq_true] at z; rw [z, Bool.and_false]
  rw [aRefKeyMayBeTheName_at, cc]
  refine wpAny_updatePart D0 ?_
  refine wpAny_bind (wpAny_lookBehind D' (pastItsLine_dict (by rw [List.size_toArray, sizeLine_eq]; omega)) ?_)
  exact wpAny_pure (h _ _ n' (hes ▸ F'))
end
end
section
noncomputable def Room (A : Around) (n : Nat) : Prop := A.handled = none ∧ A.depth + n ≤ 900 ∧ A.units + 10 * n ≤ 9000
theorem Room.deeper {A : Around} {n : Nat} {env : Env} (r : Room A (n + 1)) : Room (A.deeper env) n := by
  obtain ⟨a, b, c⟩ := r
  refine ⟨a, ?_, ?_⟩ <;> simp only [Around.deeper] <;> omega
theorem Room.make {A : Around} {n : Nat} {C : Addr} {vals : List Value} (r : Room A (n + 1)) : Room (A.under (.builtin "type.__call__" ⟨.ref C :: vals, []⟩)) n := by
  obtain ⟨a, b, c⟩ := r
  refine ⟨a, ?_, ?_⟩
  · rw [depth_under_make]; omega
  · rw [units_under_make]; omega
theorem Room.le {A : Around} {n k : Nat} (r : Room A n) (h : k ≤ n) : Room A k := ⟨r.1, by have := r.2.1; omega, by have := r.2.2; omega⟩
theorem Room.depth {A : Around} {n : Nat} (r : Room A n) : A.depth < recursionLimit := by have := r.2.1; unfold recursionLimit; omega
theorem Room.units {A : Around} {n : Nat} (r : Room A n) : A.units < cLine := by have := r.2.2; rw [cLine_is]; omega
theorem GIn.fresh {G : Gr} {h : Heap} (x : GIn G h) {a : Addr} (n : h.get? a = none) : G a = none := by
  cases e : G a with
  | none => rfl
  | some o => rw [x _ _ e] at n; cases n
section
variable {prog : Program} {w : World} {K : Frag} {H : Heap} {mg mb : Str → Option Value} {A : Around} {E : Value → Shared → Prop} {s : Shared}
  {wr : List Addr} {G₀ G : Gr} {h₀ : Heap} {L : Addr} {mu : List (Addr × Obj)} {m : Str → Option Value} {env : Env}
theorem code_fn {f : Addr} {qual name : Str} {params : Arguments} {body : List Stmt} {scope : Scope} {dV : Value} {vals : List Value} {binds : List (Str × Value)} {R : Result → Shared → Prop}
    (wr : List Addr) (mu : List (Addr × Obj))
    (B : Bs w K H mg mb) (hf : IsFn K f qual (name, params, body, scope) dV) (hH : HLe H G) (hG : GIn G s.heap) (hroom : A.depth < recursionLimit)
    (hmu : ∀ p ∈ mu, s.heap.get? p.1 = some p.2 ∧ G p.1 = none)
    (hbind : ∀ kV doc pm an cdv ct, BindsTo s (fnOf name qual params body scope dV kV doc pm an cdv ct) ⟨vals, []⟩ binds)
    (hloc : (binds.all fun x => decide (scope.names.lookup x.1 = some .local)) = true)
    (hcell : (scope.names.all fun x => x.2 != .cell) = true)
    (h : ∀ L h₁ cdv, s.heap.get? L = none → Fm H wr G s.heap L G mu h₁ (fun y => binds.reverse.lookup y) →
      wpAny (model prog w) (A.deeper (envOf qual scope L f cdv)) (execs body (envOf qual scope L f cdv))
        (fun fl s' => R (.ok (.ret (match fl with | .ret v => v | _ => .none))) s') (fun _ _ => False) { s with heap := h₁, toks := s.toks + binds.length })
    (hco : scope.isCoroutine = false := by rfl) (hgen : scope.isGenerator = false := by rfl) (hk : scope.kind = .function := by rfl) :
    codeAny (model prog w) A (.call (.ref f) ⟨vals, []⟩) R s := by
  obtain ⟨oc, od, osl, kV, doc, pm, an, cdv, ct, ho, hcd⟩ := hf
  have tin : ∀ b o, H.get? b = some o → s.heap.get? b = some o := fun b o e => hG b o (hH b o e)
  refine codeAny_call_def (fd := fnOf name qual params body scope dV kV doc pm an cdv ct) (body := body) (binds := binds) hroom (tin _ _ (B.kin _ _ ho)) rfl (B.nolimit.keeps tin) ((codeRec_of B.kin hcd).keeps tin) rfl (hbind _ _ _ _ _ _)
    (fun x hx => by have := List.all_eq_true.mp hcell x hx; simpa using this) (locs hloc) (fun h₁ hns hk₁ => ?_) hco hgen hk
  have nf : s.heap.get? s.heap.objs.size = none := none_size _
  refine wpAny_mono (h s.heap.objs.size h₁ cdv nf ⟨hns, hH, ⟨GLe.refl _, fun b o e => hk₁ b o (hG b o e), fun _ _ e => .inl e, fun b o _ e => hk₁ b o e, fun b o e => ⟨o, hk₁ b o e⟩⟩, hG.fresh nf, ?_⟩) (fun fl s' q => q) fun _ _ q => q.elim
  intro p hp
  exact ⟨hk₁ _ _ (hmu p hp).1, (fun q => by have := (hmu p hp).1; rw [q, nf] at this; cases this), (hmu p hp).2⟩
theorem mk_ins {C fI : Addr} {vals : List Value} {Q : Value → Shared → Prop} (B : Bs w K H mg mb) (hH : HLe H G) (hG : GIn G s.heap) (k : Mk K C fI)
    (h : ∀ x dx h₁ G₁, s.heap.get? dx = none → GLe G G₁ → GIn G₁ h₁ → G₁ x = some (instObj C dx) → h₁.get? dx = some emptyDict → G₁ dx = none → (∀ b o, s.heap.get? b = some o → h₁.get? b = some o) → (∀ b o, G₁ b = some o → G b = some o ∨ s.heap.get? b = none) →
      codeAny (model prog w) (A.under (.builtin "type.__call__" ⟨.ref C :: vals, []⟩)) (.call (.ref fI) ⟨.ref x :: vals, []⟩)
        (InitBack x fun r s' => match r with | .ok (.ret v) => Q v s' | .ok _ => False | .error e => E e s') { s with heap := h₁ }) :
    wpAny (model prog w) A (call (.ref C) vals) Q E s := by
  have tin : ∀ b o, H.get? b = some o → s.heap.get? b = some o := fun b o e => hG b o (hH b o e)
  have X := B.kin.keeps tin
  obtain ⟨hh, g, d, t, os⟩ := s
  dsimp only at *
  refine wpAny_call (make_core (makes_of X k.makes) (looks_findIn X k.init) (fun self => bind_fn X self (beq_iff_eq.mp k.fn)) (.inl rfl) ?_)
  have n0 : hh.get? hh.objs.size = none := none_size _
  have n1 : hh.get? (hh.objs.size + 1) = none := by
    cases e : hh.get? (hh.objs.size + 1) with
    | none => rfl
    | some o => exact absurd (Heap.lt_size e) (Nat.not_lt.mpr (Nat.le_succ _))
  have p1 : (hh.push emptyDict).get? hh.objs.size = some emptyDict := Heap.get?_push_size _ rfl
  have p2 : ((hh.push emptyDict).push (instObj C hh.objs.size)).get? (hh.objs.size + 1) = some (instObj C hh.objs.size) := by
    have := Heap.get?_push_size (hh.push emptyDict) (o := instObj C hh.objs.size) rfl
    rwa [Heap.size_push] at this
  have kp : ∀ b o, hh.get? b = some o → ((hh.push emptyDict).push (instObj C hh.objs.size)).get? b = some o := fun b o e => Heap.get?_push_of_some _ (Heap.get?_push_of_some _ e)
  refine h (hh.objs.size + 1) hh.objs.size _ (GAdd G (hh.objs.size + 1) (instObj C hh.objs.size)) n0 (GAdd.le (hG.fresh n1)) ?_ GAdd.self (Heap.get?_push_of_some _ p1) ?_ kp ?_
  · intro b o e
    by_cases q : b = hh.objs.size + 1
    · subst q; rw [GAdd.self] at e; cases e; exact p2
    · rw [GAdd.ne q] at e; exact kp b o (hG b o e)
  · rw [GAdd.ne (Nat.ne_of_lt (Nat.lt_succ_self _))]; exact hG.fresh n0
  · intro b o e
    by_cases q : b = hh.objs.size + 1
    · exact .inr (q ▸ n1)
    · rw [GAdd.ne q] at e; exact .inl e
end
section
variable {prog : Program} {w : World} {H : Heap} {A : Around} {E : Value → Shared → Prop} {s : Shared}
  {wr : List Addr} {G₀ G : Gr} {h₀ : Heap} {mu : List (Addr × Obj)} {m : Str → Option Value} {env : Env}
theorem compLoop2 {elt target iter : Expr} {ifs : List Expr} {scope : Scope} {pos : Pos} {it acc : Value} {env : Env} {R : Result → Shared → Prop} (I : Nat → Shared → Prop)
    (turn : ∀ n s, I n s → wpAny (model prog w) A (pyNext it) (fun r s₁ => match r with
      | none => R (.ok .next) s₁
      | some v => wpAny (model prog w) A (letOwnedTupleGo target it v) (fun _ s₁' => wpAny (model prog w) A (assign target env v) (fun _ s₂ =>
          wpAny (model prog w) A (forIn ifs true fun c r => if r = true then do let ok ← isTrue c env (eval c env); pure (ForInStep.yield ok) else pure (ForInStep.yield r)) (fun ok s₃ =>
            if ok = true then wpAny (model prog w) A (eval elt env) (fun x s₄ =>
              wpAny (model prog w) A (call (.builtin "list.append") [acc, x]) (fun _ s₅ => ∃ m, m < n ∧ I m s₅) (fun _ _ => False) s₄) (fun _ _ => False) s₃
            else ∃ m, m < n ∧ I m s₃) (fun _ _ => False) s₂) (fun _ _ => False) s₁') (fun _ _ => False) s₁) (fun _ _ => False) s)
    (n : Nat) (h : I n s) :
    codeAny (model prog w) A (.compLoop (.ListComp elt [⟨target, iter, ifs, 0⟩] scope pos) 0 it acc env) R s := by
  refine codeAny_loop rfl I (fun n s hI => ?_) n h
  show wpAny _ A ((compTurn (.ListComp elt [⟨target, iter, ifs, 0⟩] scope pos) 0 it acc env).onRaise (fun x => do noteFrame x env; theTreesLotGoes x)) _ _ s
  refine wpAny_noted ?_
  rw [compTurn_list]
  refine wpAny_bind (wpAny_standAt (wpAny_bind (wpAny_mono (turn n s hI) (fun r s₁ h₁ => ?_) fun _ _ h' => h'.elim)))
  cases r with
  | none => exact wpAny_pure h₁
  | some v =>
    refine wpAny_bind (wpAny_mono h₁ (fun _ s₁' h₁' => ?_) fun _ _ h' => h'.elim)
    refine wpAny_bind (wpAny_mono h₁' (fun _ s₂ h₂ => wpAny_bind (wpAny_mono h₂ (fun ok s₃ h₃ => ?_) fun _ _ h' => h'.elim)) fun _ _ h' => h'.elim)
    cases ok with
    | false => exact wpAny_pure ⟨rfl, h₃⟩
    | true =>
      exact wpAny_bind (wpAny_bind (wpAny_mono h₃ (fun x s₄ h₄ => wpAny_bind (wpAny_mono h₄ (fun _ s₅ h₅ => wpAny_pure (wpAny_pure ⟨rfl, h₅⟩)) fun _ _ h' => h'.elim)) fun _ _ h' => h'.elim))
theorem rm_lit {a b n : Nat} (h : a ≤ b := by decide) : a ≤ b + n := Nat.le_trans h (Nat.le_add_right _ _)
theorem sub_dec {n i : Nat} (h : i < n) : n + 1 - (i + 1) < n + 1 - i := by omega
theorem eq_top {n i : Nat} (h : i ≤ n) (q : ¬ i < n) : i = n := Nat.le_antisymm h (Nat.le_of_not_lt q)
noncomputable def CompEnd (H : Heap) (wi : List Addr) (G' : Gr) (h : Heap) (C : Addr) (mu' : List (Addr × Obj)) (J : Gr → List (Addr × Obj) → Prop) (s₂ s' : Shared) : Prop :=
  ∃ h' tk' G'' mu'' m'', s' = { s₂ with heap := h', toks := tk' } ∧ Fm H wi G' h C G'' mu'' h' m'' ∧ mu''.map (·.1) = mu'.map (·.1) ∧ J G'' mu''
noncomputable def lstO (ys : List Value) (k : Nat) : Obj := { cls := .type "list", data := .seq ys.toArray k }
theorem comp_block {elt target iter : Expr} {ifs : List Expr} {scope : Scope} {cl : List (Str × Addr)} {pos : Pos} {I : Addr} {fp : List Addr} {n : Nat} {P : Nat → Value → Prop} {St : Nat → Heap → Prop}
    {RR : Value → Addr → Result → Shared → Prop} (wi : List Addr) (Inv : Nat → Gr → List (Addr × Obj) → List Value → Prop)
    (W : Walks prog w A I fp [I] n P St) (hob : ∀ i h, St i h → ∃ o, h.get? I = some o) (hfp : ∀ b ∈ fp, b ≠ I → ∃ o, G b = some o)
    (F : Fm H wr G₀ h₀ env.locals G mu s.heap m) (hIL : I ≠ env.locals) (hIG : G I = none) (hI0 : h₀.get? I = none) (hIm : ∀ p ∈ mu, p.1 ≠ I)
    (hst : St 0 s.heap) (hsz : n ≤ sizeLine) (hcell : ∀ y ∈ scope.names, y.2 ≠ .cell) (hkind : scope.kind = .function)
    (hgo : ∀ i v (s' : Shared) (Q : Unit → Shared → Prop) (E : Value → Shared → Prop), St i s'.heap → Q () s' → wpAny (model prog w) A (letOwnedTupleGo target (.ref I) v) Q E s')
    (hwi : ∀ a ∈ wi, a ≠ env.locals ∧ (∃ o, (a, o) ∈ mu) ∧ (a ∈ wr ∨ h₀.get? a = none))
    (hinv : Inv 0 G mu [])
    (turn : ∀ i v ys G' mu' C h tk m₁, i < n → P i v → Inv i G' mu' ys → GLe G G' → ys.length ≤ i → mu'.map (·.1) = mu.map (·.1) → Fm H wi G' h C G' mu' h m₁ →
      wpAny (model prog w) A (assign target (compEnvC scope cl C env) v) (fun _ s₃ =>
        wpAny (model prog w) A (forIn ifs true fun c r => if r = true then do let ok ← isTrue c (compEnvC scope cl C env) (eval c (compEnvC scope cl C env)); pure (ForInStep.yield ok) else pure (ForInStep.yield r)) (fun ok s₄ =>
          if ok = true then wpAny (model prog w) A (eval elt (compEnvC scope cl C env)) (fun y s₅ => CompEnd H wi G' h C mu' (fun G'' mu'' => Inv (i + 1) G'' mu'' (ys ++ [y])) s s₅) (fun _ _ => False) s₄
          else CompEnd H wi G' h C mu' (fun G'' mu'' => Inv (i + 1) G'' mu'' ys) s s₄) (fun _ _ => False) s₃) (fun _ _ => False) { s with heap := h, toks := tk })
    (done : ∀ D C k h' tk G' mu' ys m', Inv n G' mu' ys → ys.length ≤ n → GLe G G' → mu'.map (·.1) = mu.map (·.1) → Fm H wr G₀ h₀ env.locals G' ((D, lstO ys k) :: mu') h' m → h₀.get? D = none → (∀ p ∈ mu', p.1 ≠ D) →
      h'.Ns C m' → C ≠ env.locals → C ≠ D → h₀.get? C = none → G' C = none → (∀ p ∈ mu', p.1 ≠ C) → RR (.ref D) C (.ok .next) { s with heap := h', toks := tk }) :
    wpAny (model prog w) A (newList []) (fun acc s₃ => wpAny (model prog w) A (newFunctionEnv scope env.globals cl [] env.qual none .none (some env)) (fun cenv s₄ =>
      codeAny (model prog w) A (.compStart (.ListComp elt [⟨target, iter, ifs, 0⟩] scope pos) 0 (.ref I) acc { cenv with scope := relabel scope env }) (RR acc cenv.locals) s₄) E s₃) E s := by
  refine wpAny_newObj_type (wpAny_newFunctionEnv hcell (by intro y hy; simp at hy) (fun h₁ hns₁ hsb₁ => ?_) hkind)
  dsimp only at hns₁ hsb₁ ⊢
  obtain ⟨sh, sg, sd, st, so⟩ := s
  dsimp only at *
  generalize hH2 : sh.push { cls := .type "list", dict := none, data := .seq ([] : List Value).toArray } = H2 at hns₁ hsb₁ ⊢
  have hCs : H2.objs.size = sh.objs.size + 1 := by rw [← hH2, Heap.size_push]
  generalize hD : sh.objs.size = D at *
  generalize hC : H2.objs.size = C at *
  have hDC : D ≠ C := by rw [hCs]; exact Nat.ne_of_lt (Nat.lt_succ_self _)
  have fresh : ∀ a, D ≤ a → sh.get? a = none := fun a ha => by
    cases e : sh.get? a with
    | none => rfl
    | some o' => have := Heap.lt_size e; rw [hD] at this; exact absurd this (Nat.not_lt.mpr ha)
  have nD : sh.get? D = none := fresh D (Nat.le_refl _)
  have nC : sh.get? C = none := fresh C (by rw [hCs]; exact Nat.le_succ _)
  have aliveI := hob 0 _ hst
  have hID : I ≠ D := fun q => by obtain ⟨o, ho⟩ := aliveI; rw [q, nD] at ho; cases ho
  have hIC : I ≠ C := fun q => by obtain ⟨o, ho⟩ := aliveI; rw [q, nC] at ho; cases ho
  have aliveL := F.alive
  have hLD : env.locals ≠ D := fun q => by obtain ⟨o, ho⟩ := aliveL; rw [q, nD] at ho; cases ho
  have hLC : env.locals ≠ C := fun q => by obtain ⟨o, ho⟩ := aliveL; rw [q, nC] at ho; cases ho
  have mD : ∀ p ∈ mu, p.1 ≠ D := fun p hp q => by have := (F.mus p hp).1; rw [q, nD] at this; cases this
  have mC : ∀ p ∈ mu, p.1 ≠ C := fun p hp q => by have := (F.mus p hp).1; rw [q, nC] at this; cases this
  have h0D : h₀.get? D = none := by
    cases e : h₀.get? D with
    | none => rfl
    | some o => obtain ⟨o', e'⟩ := F.went.live _ _ e; rw [nD] at e'; cases e'
  have h0C : h₀.get? C = none := by
    cases e : h₀.get? C with
    | none => rfl
    | some o => obtain ⟨o', e'⟩ := F.went.live _ _ e; rw [nC] at e'; cases e'
  have wiD : D ∉ wi := fun q => by obtain ⟨_, ⟨o, ho⟩, _⟩ := hwi D q; exact mD _ ho rfl
  have wiI : I ∉ wi := fun q => by obtain ⟨_, ⟨o, ho⟩, _⟩ := hwi I q; exact hIm _ ho rfl
  have wiL : env.locals ∉ wi := fun q => (hwi _ q).1 rfl
  have old : ∀ b o, sh.get? b = some o → h₁.get? b = some o := fun b o e => hsb₁.extBut b o (fun q => by rw [q, nC] at e; cases e) (Heap.get?_push_of_some _ (hH2 ▸ Heap.get?_push_of_some _ e))
  have hacc : h₁.PlainList D #[] := ⟨_, hsb₁.extBut _ _ hDC (Heap.get?_push_of_some _ (hH2 ▸ hD ▸ Heap.get?_push_size _ rfl))⟩
  have F₁ : Fm H wr G₀ h₀ env.locals G mu h₁ m := F.call ⟨GLe.refl _, fun b o e => old b o (F.inn b o e), fun _ _ e => .inl e, fun b o _ e => old b o e, fun b o e => ⟨o, old b o e⟩⟩
  have hst₁ : St 0 h₁ := W.frame _ _ _ hst fun b _ o e => old b o e
  have loop : ∀ s₃ : Shared, s₃ = ⟨h₁, sg, sd, st + ([] : List (Str × Value)).length, so⟩ →
      codeAny (model prog w) A (.compLoop (.ListComp elt [⟨target, iter, ifs, 0⟩] scope pos) 0 (.ref I) (.ref D) (compEnvC scope cl C env)) (RR (.ref D) C) s₃ := by
    rintro s₃ rfl
    refine compLoop2 (fun k s' => ∀ Z : Prop, (∀ i h tk G' mu' ys mC', s' = ⟨h, sg, sd, tk, so⟩ → k = n + 1 - i → i ≤ n → St i h → h.PlainList D (ys : List Value).toArray → h.Ns C mC' → Fm H wr G₀ h₀ env.locals G' mu' h m → G' I = none → G' D = none → G' C = none →
      mu'.map (·.1) = mu.map (·.1) → Inv i G' mu' ys → ys.length ≤ i → GLe G G' → Z) → Z) ?_ (n + 1)
      fun _ z => z 0 h₁ _ G mu [] _ rfl rfl (Nat.zero_le _) hst₁ hacc hns₁ F₁ hIG (F.inn.fresh nD) (F.inn.fresh nC) rfl hinv (Nat.le_refl _) (GLe.refl _)
    intro k s' hI
    refine hI _ fun i h tk G' mu' ys mC' e1 e2 hi hsti hpl hnC Fo gI gD gC hmu hin hys hGG => ?_
    clear hI
    subst e1 e2
    have adr : ∀ {mu₂ : List (Addr × Obj)}, mu₂.map (·.1) = mu.map (·.1) → ∀ p ∈ mu₂, ∃ q ∈ mu, q.1 = p.1 := fun e p hp => by
      have : p.1 ∈ mu.map (·.1) := e ▸ List.mem_map_of_mem hp
      obtain ⟨q, hq, e'⟩ := List.mem_map.mp this
      exact ⟨q, hq, e'⟩
    by_cases hlt : i < n
    · refine W.item i _ _ _ hlt hsti fun v h₂ tk₂ hPv hst₂ hk₂ => ?_
      have hk₂' : ∀ b o, b ≠ I → h.get? b = some o → h₂.get? b = some o := fun b o nb e => hk₂ b o (by simpa using nb) e
      have Fo₂ := Fo.other hk₂' hIL gI hI0 (fun p hp => by obtain ⟨q, hq, e⟩ := adr hmu p hp; exact e ▸ hIm q hq)
      have hnC₂ : h₂.Ns C mC' := hnC.at' fun o e => hk₂' _ o (Ne.symm hIC) e
      have hpl₂ : h₂.PlainList D ys.toArray := hpl.at fun o e => hk₂' _ o (Ne.symm hID) e
      have Fi : Fm H wi G' h₂ C G' mu' h₂ mC' := ⟨hnC₂, Fo₂.top, Went.refl Fo₂.inn, gC, fun p hp => ⟨(Fo₂.mus p hp).1, by obtain ⟨q, hq, e⟩ := adr hmu p hp; exact e ▸ mC q hq, (Fo₂.mus p hp).2.2⟩⟩
      -- what a turn's end brings
      have back : ∀ (J : Gr → List (Addr × Obj) → Prop) s₅ (Z : Prop), CompEnd H wi G' h₂ C mu' J ⟨sh, sg, sd, st, so⟩ s₅ → (∀ h₃ tk₃ G'' mu'' m'', s₅ = ⟨h₃, sg, sd, tk₃, so⟩ → Fm H wr G₀ h₀ env.locals G'' mu'' h₃ m → St (i + 1) h₃ → h₃.PlainList D ys.toArray → h₃.Ns C m'' →
          G'' I = none → G'' D = none → G'' C = none → mu''.map (·.1) = mu.map (·.1) → J G'' mu'' → GLe G G'' → Z) → Z := by
        rintro J s₅ Z ⟨h₃, tk₃, G'', mu'', m'', rfl, Fi', hmu'', hJ⟩ z
        have nw : ∀ b, (∃ o, h₂.get? b = some o) → G' b = none → G'' b = none := fun b hb nb => by
          cases e : G'' b with
          | none => rfl
          | some o =>
            rcases Fi'.went.new _ _ e with q | q
            · rw [nb] at q; cases q
            · obtain ⟨o', e'⟩ := hb; rw [q] at e'; cases e'
        have rs : ∀ b o, b ≠ C → b ∉ wi → h₂.get? b = some o → h₃.get? b = some o := fun b o n1 n2 e => Fi'.went.rest b o (by simp only [List.mem_cons, not_or]; exact ⟨n1, n2⟩) e
        have hmu₃ : mu''.map (·.1) = mu.map (·.1) := hmu''.trans hmu
        refine z h₃ tk₃ G'' mu'' m'' rfl ?_ ?_ (hpl₂.at fun o e => rs _ o hDC wiD e) Fi'.ns (nw I (hob _ _ hst₂) gI) (nw D (by obtain ⟨k, e⟩ := hpl₂; exact ⟨_, e⟩) gD) Fi'.off hmu₃ hJ (hGG.trans Fi'.went.sub)
        · refine ⟨Fo₂.ns.at' fun o e => rs _ o hLC wiL e, F.base, ⟨Fo₂.went.sub.trans Fi'.went.sub, Fi'.went.inn, ?_, ?_, ?_⟩, nw _ Fo₂.alive Fo₂.off, ?_⟩
          · intro b o e
            rcases Fi'.went.new b o e with e | e
            · exact Fo₂.went.new b o e
            · right
              cases q : h₀.get? b with
              | none => rfl
              | some o' => obtain ⟨o'', e''⟩ := Fo₂.went.live b o' q; rw [e] at e''; cases e''
          · intro b o nb e
            refine rs b o (fun q => by rw [q, h0C] at e; cases e) (fun q => ?_) (Fo₂.went.rest b o nb e)
            rcases (hwi b q).2.2 with z | z
            · exact nb (List.mem_cons_of_mem _ z)
            · rw [z] at e; cases e
          · intro b o e
            obtain ⟨o', e'⟩ := Fo₂.went.live b o e
            exact Fi'.went.live b o' e'
          · intro p hp
            obtain ⟨q, hq, e⟩ := adr hmu₃ p hp
            exact ⟨(Fi'.mus p hp).1, e ▸ (F.mus q hq).2.1, (Fi'.mus p hp).2.2⟩
        · refine W.frame _ _ _ hst₂ fun b hb o e => ?_
          by_cases q : b = I
          · exact rs b o (q ▸ hIC) (q ▸ wiI) e
          · obtain ⟨ob, hob'⟩ := hfp b hb q
            have e1 := Fo₂.inn b ob (hGG b ob hob')
            rw [e] at e1; cases e1
            exact Fi'.inn b o (Fi'.went.sub b o (hGG b o hob'))
      refine hgo _ _ _ _ _ hst₂ ?_
      refine wpAny_mono (turn i v ys G' mu' C h₂ tk₂ mC' hlt hPv hin hGG hys hmu Fi) (fun _ s₃ t₁ => wpAny_mono t₁ (fun ok s₄ t₂ => ?_) fun _ _ e => e) fun _ _ e => e
      cases ok with
      | false =>
        simp only [Bool.false_eq_true, if_false] at t₂ ⊢
        refine back _ _ _ t₂ fun h₃ tk₃ G'' mu'' m'' e1 Fo₃ hst₃ hpl₃ hn₃ a1 a2 a3 a4 a5 a6 => ?_
        exact ⟨n + 1 - (i + 1), sub_dec hlt, fun _ z => z (i + 1) h₃ tk₃ G'' mu'' ys m'' e1 rfl hlt hst₃ hpl₃ hn₃ Fo₃ a1 a2 a3 a4 a5 (Nat.le_succ_of_le hys) a6⟩
      | true =>
        simp only [if_true] at t₂ ⊢
        refine wpAny_mono t₂ (fun y s₅ t₃ => ?_) fun _ _ e => e
        refine back _ _ _ t₃ fun h₃ tk₃ G'' mu'' m'' e1 Fo₃ hst₃ hpl₃ hn₃ a1 a2 a3 a4 a5 a6 => ?_
        subst e1
        refine wpAny_list_append_plain hpl₃ (fun h₄ hpl₄ hs₄ => ?_) (Nat.le_trans hys (Nat.le_of_lt (Nat.lt_of_lt_of_le hlt hsz)))
        refine ⟨n + 1 - (i + 1), sub_dec hlt, fun _ z => z (i + 1) h₄ tk₃ G'' mu'' (ys ++ [y]) m'' rfl rfl hlt ?_ ?_ (hn₃.sameBut hs₄ (Ne.symm hDC)) ?_ a1 a2 a3 a4 a5 (by rw [List.length_append]; exact Nat.succ_le_succ hys) a6⟩
        · refine W.frame _ _ _ hst₃ fun b hb o e => (hs₄.2 b fun q => ?_).trans e
          by_cases q' : b = I
          · exact hID (q'.symm.trans q)
          · obtain ⟨ob, hob'⟩ := hfp b hb q'
            rw [q] at hob'
            rw [a6 _ _ hob'] at a2; cases a2
        · simpa using hpl₄
        · exact Fo₃.other (fun b o nb e => (hs₄.2 b nb).trans e) (Ne.symm hLD) a2 h0D (fun p hp => by obtain ⟨q, hq, e⟩ := adr a4 p hp; exact e ▸ mD q hq)
    · have hin' : i = n := eq_top hi hlt
      subst hin'
      refine W.done _ _ _ hsti fun h₂ tk₂ hk₂ => ?_
      have hk₂' : ∀ b o, b ≠ I → h.get? b = some o → h₂.get? b = some o := fun b o nb e => hk₂ b o (by simpa using nb) e
      have Fo₂ := Fo.other hk₂' hIL gI hI0 (fun p hp => by obtain ⟨q, hq, e⟩ := adr hmu p hp; exact e ▸ hIm q hq)
      have hnC₂ : h₂.Ns C mC' := hnC.at' fun o e => hk₂' _ o (Ne.symm hIC) e
      obtain ⟨k, hk⟩ := hpl.at (h' := h₂) fun o e => hk₂' _ o (Ne.symm hID) e
      exact done D C k h₂ tk₂ G' mu' ys mC' hin hys hGG hmu (Fo₂.addMu hk (Ne.symm hLD) gD) h0D (fun p hp => by obtain ⟨q, hq, e⟩ := adr hmu p hp; exact e ▸ mD q hq) hnC₂ (Ne.symm hLC) (Ne.symm hDC) h0C gC
        (fun p hp => by obtain ⟨q, hq, e⟩ := adr hmu p hp; exact e ▸ mC q hq)
  exact codeAny_compStart_list (loop _ rfl) (W.self 0 _ _ _ hst₁ (loop _ rfl))
end
end
section
section
variable {prog : Program} {w : World} {K : Frag} {H : Heap} {mg mb : Str → Option Value} {A : Around} {E : Value → Shared → Prop} {s : Shared}
  {wr : List Addr} {G₀ G : Gr} {h₀ : Heap} {L : Addr} {mu : List (Addr × Obj)} {m : Str → Option Value} {env : Env}
theorem code_fnC {f : Addr} {qual name : Str} {params : Arguments} {body : List Stmt} {scope : Scope} {dV : Value} {vals : List Value} {binds : List (Str × Value)} {R : Result → Shared → Prop}
    (wr : List Addr) (mu : List (Addr × Obj))
    (B : Bs w K H mg mb) (hf : IsFn K f qual (name, params, body, scope) dV) (hH : HLe H G) (hG : GIn G s.heap) (hroom : A.depth < recursionLimit)
    (hmu : ∀ p ∈ mu, s.heap.get? p.1 = some p.2 ∧ G p.1 = none)
    (hbind : ∀ kV doc pm an cdv ct, BindsTo s (fnOf name qual params body scope dV kV doc pm an cdv ct) ⟨vals, []⟩ binds)
    (hkind : (binds.all fun y => scope.names.lookup y.1 == some .local || scope.names.lookup y.1 == some .cell) = true)
    (hnd : ((cellsFrom 0 scope.names []).map (·.1)).Nodup)
    (h : ∀ L h₁ tk cdv cells, s.heap.get? L = none → (∀ p ∈ cells, s.heap.get? p.1 = none) → (∀ p ∈ mu, ∀ q ∈ cells, p.1 ≠ q.1) →
      Fm H wr G s.heap L G (cells ++ mu) h₁ (bindL (envOfC qual scope L f cdv).kindOf binds fun _ => none) →
      CellsAre (bindC (envOfC qual scope L f cdv).kindOf binds fun _ => none) (cellsFrom (L + 1) scope.names []) cells →
      wpAny (model prog w) (A.deeper (envOfC qual scope L f cdv)) (execs body (envOfC qual scope L f cdv))
        (fun fl s' => R (.ok (.ret (match fl with | .ret v => v | _ => .none))) s') (fun _ _ => False) { s with heap := h₁, toks := tk })
    (hco : scope.isCoroutine = false := by rfl) (hgen : scope.isGenerator = false := by rfl) (hk : scope.kind = .function := by rfl) :
    codeAny (model prog w) A (.call (.ref f) ⟨vals, []⟩) R s := by
  obtain ⟨oc, od, osl, kV, doc, pm, an, cdv, ct, ho, hcd⟩ := hf
  have tin : ∀ b o, H.get? b = some o → s.heap.get? b = some o := fun b o e => hG b o (hH b o e)
  refine codeAny_call_function (fd := fnOf name qual params body scope dV kV doc pm an cdv ct) (body := body) hroom (tin _ _ (B.kin _ _ ho)) rfl hco hgen rfl ((codeRec_of B.kin hcd).keeps tin) (hbind _ _ _ _ _ _ _ _ _ _ ?_)
  refine wpAny_newFunctionEnv_cells hk (kindsX hkind _) fun env he s' x => ?_
  subst he
  refine ⟨(B.nolimit.keeps tin).keeps x.toInCall.keep, codeAny_func ?_⟩
  obtain ⟨h₁, tk, rfl, _⟩ := x.done
  have hk₁ := x.toInCall.keep
  obtain ⟨cells, NC, Y⟩ := Cl.news (h₀ := s.heap) (Nat.le_refl _) fun n c hm => ⟨x.cell n c (lookup_of_mem_nodup (cellsFrom_names scope.names 0 (s.heap.objs.size + 1) [] [] rfl ▸ hnd) hm), x.above n c hm⟩
  have nf : s.heap.get? s.heap.objs.size = none := none_size _
  have apart : ∀ p ∈ mu, ∀ q ∈ cells, p.1 ≠ q.1 := fun p hp q hq e => by
    have := (hmu p hp).1; rw [e, (NC q hq).2.2] at this; cases this
  refine wpAny_mono (h s.heap.objs.size h₁ tk cdv cells nf (fun p hp => (NC p hp).2.2) apart ⟨x.toInCall.ns, hH, ⟨GLe.refl _, fun b o e => hk₁ b o (hG b o e), fun _ _ e => .inl e, fun b o _ e => hk₁ b o e, fun b o e => ⟨o, hk₁ b o e⟩⟩, hG.fresh nf, ?_⟩ Y) (fun fl s' q => q) fun _ _ q => q.elim
  intro p hp
  rcases List.mem_append.mp hp with hp | hp
  · exact ⟨(NC p hp).1, (NC p hp).2.1, hG.fresh (NC p hp).2.2⟩
  · exact ⟨hk₁ _ _ (hmu p hp).1, (fun q => by have := (hmu p hp).1; rw [q, nf] at this; cases this), (hmu p hp).2⟩
theorem ev_comp {elt target iter : Expr} {ifs : List Expr} {scope : Scope} {cl : List (Str × Addr)} {pos : Pos} {Q : Value → Shared → Prop}
    (hclos : closureFor scope env = pure cl) (hkind : scope.kind = .function) (hnames : (scope.names.all fun y => y.2 != .local || decide (scope.names.lookup y.1 = some .local)) = true)
    (h : wpAny (model prog w) A (eval iter env) (fun x s₁ => wpAny (model prog w) A (pyIter x) (fun it s₂ => wpAny (model prog w) A (newList []) (fun acc s₃ =>
      wpAny (model prog w) A (newFunctionEnv scope env.globals cl [] env.qual none .none (some env)) (fun cenv s₄ =>
        codeAny (model prog w) A (.compStart (.ListComp elt [⟨target, iter, ifs, 0⟩] scope pos) 0 it acc { cenv with scope := relabel scope env }) (compPost (model prog w) A E none Q acc cenv.locals) s₄) E s₃) E s₂) E s₁) E s)
    (hs : ∀ x, foldedSetIterable iter env x = pure x := by intro _; rfl) :
    wpAny (model prog w) A (eval (.ListComp elt [⟨target, iter, ifs, 0⟩] scope pos) env) Q E s := by
  rw [eval_ListComp]
  exact wpAny_comprehension_free (use := none) rfl hs hclos hkind (fun y hy hl => by
    have := List.all_eq_true.mp hnames y hy
    simpa [hl] using this) h
theorem as_comp {elt target iter : Expr} {ifs : List Expr} {scope : Scope} {cl : List (Str × Addr)} {pos spos py : Pos} {y : Str} {Q : Flow → Shared → Prop}
    (hsw : swapsWith (.ListComp elt [⟨target, iter, ifs, 0⟩] scope pos) (some (.Name y py)) spos.line env = pure true)
    (hclos : closureFor scope env = pure cl) (hkind : scope.kind = .function) (hnames : (scope.names.all fun y => y.2 != .local || decide (scope.names.lookup y.1 = some .local)) = true)
    (h : wpAny (model prog w) A (eval iter env) (fun x s₁ => wpAny (model prog w) A (pyIter x) (fun it s₂ => wpAny (model prog w) A (newList []) (fun acc s₃ =>
      wpAny (model prog w) A (newFunctionEnv scope env.globals cl [] env.qual none .none (some env)) (fun cenv s₄ =>
        codeAny (model prog w) A (.compStart (.ListComp elt [⟨target, iter, ifs, 0⟩] scope pos) 0 it acc { cenv with scope := relabel scope env }) (compPost (model prog w) A E (some (assign (.Name y py) env)) (fun _ s' => Q .next s') acc cenv.locals) s₄) E s₃) E s₂) E s₁) E s)
    (hs : ∀ x, foldedSetIterable iter env x = pure x := by intro _; rfl) :
    wpAny (model prog w) A (exec (.Assign [.Name y py] (.ListComp elt [⟨target, iter, ifs, 0⟩] scope pos) spos) env) Q E s := by
  rw [exec_Assign_Name_used _ _ _ _ hsw]
  refine wpAny_bind (wpAny_standAt (wpAny_bind ?_))
  show wpAny _ A (do let _ ← comprehension (.ListComp elt [⟨target, iter, ifs, 0⟩] scope pos) scope env _ (newList []) false (eval iter env) (some (assign (.Name y py) env))) _ _ s
  exact wpAny_bind (wpAny_mono (wpAny_comprehension_free (use := some (assign (.Name y py) env)) (Q := fun _ s' => Q .next s') rfl hs hclos hkind (fun y hy hl => by
    have := List.all_eq_true.mp hnames y hy
    simpa [hl] using this) h) (fun _ s' hq => wpAny_pure (wpAny_pure hq)) fun _ _ e => e)
theorem post_none {acc : Value} {C : Addr} {h' : Heap} {tk : Nat} {m' : Str → Option Value} {Q : Value → Shared → Prop} (F : Fm H wr G₀ h₀ L G mu h' m) (hn : h'.Ns C m') (hCL : C ≠ L) (h0 : h₀.get? C = none) (hG : G C = none) (hm : ∀ p ∈ mu, p.1 ≠ C)
    (h : ∀ h'', Fm H wr G₀ h₀ L G mu h'' m → Q acc { s with heap := h'', toks := tk }) :
    compPost (model prog w) A E none Q acc C (.ok .next) { s with heap := h', toks := tk } :=
  ⟨m', hn, fun h'' hs => h h'' (F.other (fun b o n e => (hs.2 b n).trans e) hCL hG h0 hm)⟩
theorem post_drop {C : Addr} {h' : Heap} {m' : Str → Option Value} {oC : Obj} {Q : Shared → Prop} {g : Array GenState} {d : Drawn} {tk : Nat} {os : OsState} (hd : ∀ h'' : Heap, h''.get? C = some oC → h''.Ns C m') (F : Fm H wr G₀ h₀ L G ((C, oC) :: mu) h' m) (h0 : h₀.get? C = none) (hm : ∀ p ∈ mu, p.1 ≠ C)
    (h : ∀ h'', Fm H wr G₀ h₀ L G mu h'' m → Q ⟨h'', g, d, tk, os⟩) :
    ∃ m, (⟨h', g, d, tk, os⟩ : Shared).heap.Ns C m ∧ ∀ h'', Heap.SameBut C h' h'' → Q ⟨h'', g, d, tk, os⟩ :=
  ⟨m', hd _ (F.mus _ (.head _)).1, fun h'' hs => h h'' (F.dropMu.other (fun b o n e => (hs.2 b n).trans e) (F.mus _ (.head _)).2.1 (F.mus _ (.head _)).2.2 h0 hm)⟩
theorem ns_obj {h : Heap} {C : Addr} {m : Str → Option Value} (x : h.Ns C m) : ∃ oC, h.get? C = some oC ∧ ∀ h'' : Heap, h''.get? C = some oC → h''.Ns C m := by
  obtain ⟨o, es, ep, ho, r⟩ := x
  exact ⟨o, ho, fun h'' e => ⟨o, es, ep, e, r⟩⟩
theorem comp_lst {elt target iter : Expr} {ifs : List Expr} {scope : Scope} {cl : List (Str × Addr)} {pos : Pos} {l : Addr} {vs : List Value}
    {RR : Value → Addr → Result → Shared → Prop} (wi : List Addr) (Inv : Nat → Gr → List (Addr × Obj) → List Value → Prop)
    (F : Fm H wr G₀ h₀ env.locals G mu s.heap m) (hl : LstG G l vs) (hh : A.handled = none) (hsz : vs.length ≤ sizeLine) (hcell : (scope.names.all fun y => y.2 != .cell) = true) (hkind : scope.kind = .function)
    (hT : (∃ x px, target = .Name x px) ∨ ((∃ es k px, target = .Tuple es k px) ∧ ∀ v ∈ vs, ∃ a, v = .ref a))
    (hwi : ∀ a ∈ wi, a ≠ env.locals ∧ (∃ o, (a, o) ∈ mu) ∧ (a ∈ wr ∨ h₀.get? a = none))
    (hinv : Inv 0 G mu [])
    (turn : ∀ i v ys G' mu' C h tk m₁, vs[i]? = some v → Inv i G' mu' ys → GLe G G' → ys.length ≤ i → mu'.map (·.1) = mu.map (·.1) → Fm H wi G' h C G' mu' h m₁ →
      wpAny (model prog w) A (assign target (compEnvC scope cl C env) v) (fun _ s₃ =>
        wpAny (model prog w) A (forIn ifs true fun c r => if r = true then do let ok ← isTrue c (compEnvC scope cl C env) (eval c (compEnvC scope cl C env)); pure (ForInStep.yield ok) else pure (ForInStep.yield r)) (fun ok s₄ =>
          if ok = true then wpAny (model prog w) A (eval elt (compEnvC scope cl C env)) (fun y s₅ => CompEnd H wi G' h C mu' (fun G'' mu'' => Inv (i + 1) G'' mu'' (ys ++ [y])) s s₅) (fun _ _ => False) s₄
          else CompEnd H wi G' h C mu' (fun G'' mu'' => Inv (i + 1) G'' mu'' ys) s s₄) (fun _ _ => False) s₃) (fun _ _ => False) { s with heap := h, toks := tk })
    (done : ∀ D C k h' tk G' mu' ys m', Inv vs.length G' mu' ys → ys.length ≤ vs.length → GLe G G' → mu'.map (·.1) = mu.map (·.1) → Fm H wr G₀ h₀ env.locals G' ((D, lstO ys k) :: mu') h' m → h₀.get? D = none → (∀ p ∈ mu', p.1 ≠ D) →
      h'.Ns C m' → C ≠ env.locals → C ≠ D → h₀.get? C = none → G' C = none → (∀ p ∈ mu', p.1 ≠ C) → RR (.ref D) C (.ok .next) { s with heap := h', toks := tk }) :
    wpAny (model prog w) A (pyIter (.ref l)) (fun it s₂ => wpAny (model prog w) A (newList []) (fun acc s₃ => wpAny (model prog w) A (newFunctionEnv scope env.globals cl [] env.qual none .none (some env)) (fun cenv s₄ =>
      codeAny (model prog w) A (.compStart (.ListComp elt [⟨target, iter, ifs, 0⟩] scope pos) 0 it acc { cenv with scope := relabel scope env }) (RR acc cenv.locals) s₄) E s₃) E s₂) E s := by
  have hls := hl.at F.inn
  obtain ⟨ol, hol, hr⟩ := hl
  have nI : s.heap.get? s.heap.objs.size = none := none_size _
  have lI : l ≠ s.heap.objs.size := fun q => by have := F.inn _ _ hol; rw [q, nI] at this; cases this
  refine wpAny_pyIter_list hls ?_
  obtain ⟨sh, sg, sd, st, so⟩ := s
  dsimp only at *
  have F₁ : Fm H wr G₀ h₀ env.locals G mu (sh.push { cls := .type "list_iterator", data := .fields #[.ref l, .int 0 0] }) m :=
    F.call ⟨GLe.refl _, fun b o e => Heap.get?_push_of_some _ (F.inn b o e), fun _ _ e => .inl e, fun b o _ e => Heap.get?_push_of_some _ e, fun b o e => ⟨o, Heap.get?_push_of_some _ e⟩⟩
  have W := Walks.list (prog := prog) (w := w) hh sh.objs.size l lI vs.toArray
  have hn : vs.toArray.size = vs.length := by simp
  rw [hn] at W
  refine comp_block (s := ⟨sh.push { cls := .type "list_iterator", data := .fields #[.ref l, .int 0 0] }, sg, sd, st, so⟩) wi Inv W (fun i h st => by obtain ⟨⟨o, ho, _⟩, _⟩ := st; exact ⟨o, ho⟩) ?_ F₁ (Ne.symm F.Lsize) F.Gsize F.h0size F.musize
    ⟨⟨_, Heap.get?_push_size _ rfl, rfl, rfl⟩, hls.at fun o e => Heap.get?_push_of_some _ e⟩ hsz (fun y hy => by have := List.all_eq_true.mp hcell y hy; simpa using this) hkind ?_ hwi hinv ?_ done
  · intro b hb hbI
    rcases List.mem_cons.mp hb with q | q
    · exact absurd q hbI
    · exact ⟨ol, (List.mem_singleton.mp q) ▸ hol⟩
  · rintro i v s' Q E ⟨hit, hl'⟩ hQ
    rcases hT with ⟨x, px, rfl⟩ | ⟨⟨es, k, px, rfl⟩, hv⟩
    · exact wpAny_pure hQ
    · cases v with
      | ref T => exact wpAny_letOwnedTupleGo_listiter hit hQ
      | _ => exact wpAny_pure hQ
  · exact fun i v ys G' mu' C h tk m₁ _ hP => turn i v ys G' mu' C h tk m₁ (by simpa using hP)
theorem forLoop2 {target : Expr} {it : Value} {body : List Stmt} {R : Result → Shared → Prop} (I : Nat → Shared → Prop)
    (turn : ∀ n s, I n s → wpAny (model prog w) A (pyNext it) (fun r s₁ => match r with
      | none => R (.ok .next) s₁
      | some v => wpAny (model prog w) A (letOwnedTupleGo target it v) (fun _ s₁' => wpAny (model prog w) A (assign target env v) (fun _ s₂ => wpAny (model prog w) A (execs body env) (fun f s₃ => match f with
          | .next | .cont => ∃ m, m < n ∧ I m s₃
          | .brk => R (.ok .next) s₃
          | .ret v => R (.ok (.ret v)) s₃) (fun _ _ => False) s₂) (fun _ _ => False) s₁') (fun _ _ => False) s₁) (fun _ _ => False) s)
    (n : Nat) (h : I n s) : codeAny (model prog w) A (.forLoop target it body [] env) R s := by
  refine codeAny_loop' rfl I (fun n s hI => ?_) n h
  show wpAny _ _ ((forTurn target it body [] env).onRaise (fun x => do noteFrame x env; theTreesLotGoes x)) _ _ s
  refine wpAny_noted ?_
  simp only [forTurn]
  refine wpAny_bind (wpAny_standAt (wpAny_bind (wpAny_onRaise (wpAny_mono (turn n s hI) (fun r s₁ h₁ => ?_) fun _ _ h' => h'.elim))))
  cases r with
  | none => exact wpAny_pure (.inr ⟨rfl, codeAny_block (wpAny_execs_nil h₁)⟩)
  | some v =>
    refine wpAny_bind (wpAny_mono h₁ (fun _ s₁' h₁' => ?_) fun _ _ h' => h'.elim)
    refine wpAny_bind (wpAny_mono h₁' (fun _ s₂ h₂ => wpAny_bind (wpAny_mono h₂ (fun f s₃ h₃ => ?_) fun _ _ h' => h'.elim)) fun _ _ h' => h'.elim)
    cases f with
    | next => exact wpAny_pure (.inl ⟨rfl, h₃⟩)
    | cont => exact wpAny_pure (.inl ⟨rfl, h₃⟩)
    | brk => exact wpAny_pure h₃
    | ret v => exact wpAny_pure h₃
noncomputable def ForEnd (H : Heap) (wr : List Addr) (G₀ : Gr) (h₀ : Heap) (L I : Addr) (oI : Obj) (G' : Gr) (mu' : List (Addr × Obj)) (J : Gr → List (Addr × Obj) → (Str → Option Value) → Prop) (s s' : Shared) : Prop :=
  ∃ h' tk' G'' mu'' m'', s' = { s with heap := h', toks := tk' } ∧ Fm H wr G₀ h₀ L G'' ((I, oI) :: mu'') h' m'' ∧ mu''.map (·.1) = mu'.map (·.1) ∧ GLe G' G'' ∧ J G'' mu'' m''
theorem for_block {target : Expr} {body : List Stmt} {I : Addr} {fp : List Addr} {n : Nat} {P : Nat → Value → Prop} {St : Nat → Heap → Prop} {Q : Flow → Shared → Prop} {ER : Value → Shared → Prop}
    (Inv : Nat → Gr → List (Addr × Obj) → (Str → Option Value) → Prop)
    (W : Walks prog w A I fp [I] n P St) (hob : ∀ i h, St i h → ∃ o, h.get? I = some o) (hfp : ∀ b ∈ fp, b ≠ I → ∃ o, G b = some o)
    (F : Fm H wr G₀ h₀ env.locals G mu s.heap m) (hIL : I ≠ env.locals) (hIG : G I = none) (hI0 : h₀.get? I = none) (hIm : ∀ p ∈ mu, p.1 ≠ I) (hst : St 0 s.heap)
    (hgo : ∀ i v (s' : Shared) (Q : Unit → Shared → Prop) (E : Value → Shared → Prop), St i s'.heap → Q () s' → wpAny (model prog w) A (letOwnedTupleGo target (.ref I) v) Q E s')
    (hinv : Inv 0 G mu m)
    (turn : ∀ i v G' mu' m' h tk oI, i < n → P i v → Inv i G' mu' m' → GLe G G' → mu'.map (·.1) = mu.map (·.1) → (∀ p ∈ mu', p.1 ≠ I) → Fm H wr G₀ h₀ env.locals G' ((I, oI) :: mu') h m' →
      wpAny (model prog w) A (assign target env v) (fun _ s₂ => wpAny (model prog w) A (execs body env) (fun f s₃ => match f with
          | .next | .cont => ForEnd H wr G₀ h₀ env.locals I oI G' mu' (Inv (i + 1)) s s₃
          | .brk => Q .next s₃
          | .ret v => Q (.ret v) s₃) (fun _ _ => False) s₂) (fun _ _ => False) { s with heap := h, toks := tk })
    (done : ∀ h' tk G' mu' m', Inv n G' mu' m' → GLe G G' → mu'.map (·.1) = mu.map (·.1) → Fm H wr G₀ h₀ env.locals G' mu' h' m' → Q .next { s with heap := h', toks := tk }) :
    codeAny (model prog w) A (.forLoop target (.ref I) body [] env) (fun r s' => match r with | .ok f => Q f s' | .error e => ER e s') s := by
  obtain ⟨sh, sg, sd, st, so⟩ := s
  dsimp only at *
  refine forLoop2 (fun k s' => ∀ Z : Prop, (∀ i h tk G' mu' m', s' = ⟨h, sg, sd, tk, so⟩ → k = n + 1 - i → i ≤ n → St i h → Fm H wr G₀ h₀ env.locals G' mu' h m' → G' I = none →
      mu'.map (·.1) = mu.map (·.1) → Inv i G' mu' m' → GLe G G' → Z) → Z) ?_ (n + 1) fun _ z => z 0 sh st G mu m rfl rfl (Nat.zero_le _) hst F hIG rfl hinv (GLe.refl _)
  intro k s' hI
  refine hI _ fun i h tk G' mu' m' e1 e2 hi hsti Fo gI hmu hin hGG => ?_
  clear hI
  subst e1 e2
  have adr : ∀ {mu₂ : List (Addr × Obj)}, mu₂.map (·.1) = mu.map (·.1) → ∀ p ∈ mu₂, p.1 ≠ I := fun e p hp => by
    have : p.1 ∈ mu.map (·.1) := e ▸ List.mem_map_of_mem hp
    obtain ⟨q, hq, e'⟩ := List.mem_map.mp this
    exact e' ▸ hIm q hq
  by_cases hlt : i < n
  · refine W.item i _ _ _ hlt hsti fun v h₂ tk₂ hPv hst₂ hk₂ => ?_
    have hk₂' : ∀ b o, b ≠ I → h.get? b = some o → h₂.get? b = some o := fun b o nb e => hk₂ b o (by simpa using nb) e
    have Fo₂ := Fo.other hk₂' hIL gI hI0 (adr hmu)
    obtain ⟨oI, hoI⟩ := hob _ _ hst₂
    refine hgo _ _ _ _ _ hst₂ ?_
    refine wpAny_mono (turn i v G' mu' m' h₂ tk₂ oI hlt hPv hin hGG hmu (adr hmu) (Fo₂.addMu hoI hIL gI)) (fun _ s₂ t₁ => wpAny_mono t₁ (fun f s₃ t₂ => ?_) fun _ _ e => e) fun _ _ e => e
    have nx : ForEnd H wr G₀ h₀ env.locals I oI G' mu' (Inv (i + 1)) ⟨sh, sg, sd, st, so⟩ s₃ → ∃ k, k < n + 1 - i ∧ ∀ Z : Prop, (∀ i h tk G' mu' m', s₃ = ⟨h, sg, sd, tk, so⟩ → k = n + 1 - i → i ≤ n → St i h → Fm H wr G₀ h₀ env.locals G' mu' h m' → G' I = none →
        mu'.map (·.1) = mu.map (·.1) → Inv i G' mu' m' → GLe G G' → Z) → Z := by
      rintro ⟨h₃, tk₃, G'', mu'', m'', rfl, F₃, hmu₃, hG₃, hJ⟩
      refine ⟨n + 1 - (i + 1), sub_dec hlt, fun _ z => z (i + 1) h₃ tk₃ G'' mu'' m'' rfl rfl hlt ?_ F₃.dropMu (F₃.mus _ (.head _)).2.2 (hmu₃.trans hmu) hJ (hGG.trans hG₃)⟩
      refine W.frame _ _ _ hst₂ fun b hb o e => ?_
      by_cases q : b = I
      · rw [q, hoI] at e; cases e; exact q ▸ (F₃.mus _ (.head _)).1
      · obtain ⟨ob, hob'⟩ := hfp b hb q
        have e1 := Fo₂.inn b ob (hGG b ob hob')
        rw [e] at e1; cases e1
        exact F₃.inn b o (hG₃ b o (hGG b o hob'))
    cases f with
    | next => exact nx t₂
    | cont => exact nx t₂
    | brk => exact t₂
    | ret v => exact t₂
  · have hin' : i = n := eq_top hi hlt
    subst hin'
    refine W.done _ _ _ hsti fun h₂ tk₂ hk₂ => ?_
    exact done h₂ tk₂ G' mu' m' hin hGG hmu (Fo.other (fun b o nb e => hk₂ b o (by simpa using nb) e) hIL gI hI0 (adr hmu))
theorem for_lst {target : Expr} {body : List Stmt} {l : Addr} {vs : List Value} {Q : Flow → Shared → Prop} {ER : Value → Shared → Prop}
    (Inv : Nat → Gr → List (Addr × Obj) → (Str → Option Value) → Prop)
    (F : Fm H wr G₀ h₀ env.locals G mu s.heap m) (hl : LstG G l vs) (hh : A.handled = none)
    (hT : (∃ x px, target = .Name x px) ∨ (∃ es k px, target = .Tuple es k px)) (hinv : Inv 0 G mu m)
    (turn : ∀ i v G' mu' m' h tk I oI, vs[i]? = some v → Inv i G' mu' m' → GLe G G' → mu'.map (·.1) = mu.map (·.1) → (∀ p ∈ mu', p.1 ≠ I) → h₀.get? I = none → Fm H wr G₀ h₀ env.locals G' ((I, oI) :: mu') h m' →
      wpAny (model prog w) A (assign target env v) (fun _ s₂ => wpAny (model prog w) A (execs body env) (fun f s₃ => match f with
          | .next | .cont => ForEnd H wr G₀ h₀ env.locals I oI G' mu' (Inv (i + 1)) s s₃
          | .brk => Q .next s₃
          | .ret v => Q (.ret v) s₃) (fun _ _ => False) s₂) (fun _ _ => False) { s with heap := h, toks := tk })
    (done : ∀ h' tk G' mu' m', Inv vs.length G' mu' m' → GLe G G' → mu'.map (·.1) = mu.map (·.1) → Fm H wr G₀ h₀ env.locals G' mu' h' m' → Q .next { s with heap := h', toks := tk }) :
    wpAny (model prog w) A (pyIter (.ref l)) (fun it s₂ => codeAny (model prog w) A (.forLoop target it body [] env) (fun r s' => match r with | .ok f => Q f s' | .error e => ER e s') s₂) E s := by
  have hls := hl.at F.inn
  obtain ⟨ol, hol, hr⟩ := hl
  have nI : s.heap.get? s.heap.objs.size = none := none_size _
  have lI : l ≠ s.heap.objs.size := fun q => by have := F.inn _ _ hol; rw [q, nI] at this; cases this
  refine wpAny_pyIter_list hls ?_
  obtain ⟨sh, sg, sd, st, so⟩ := s
  dsimp only at *
  have F₁ : Fm H wr G₀ h₀ env.locals G mu (sh.push { cls := .type "list_iterator", data := .fields #[.ref l, .int 0 0] }) m :=
    F.call ⟨GLe.refl _, fun b o e => Heap.get?_push_of_some _ (F.inn b o e), fun _ _ e => .inl e, fun b o _ e => Heap.get?_push_of_some _ e, fun b o e => ⟨o, Heap.get?_push_of_some _ e⟩⟩
  have W := Walks.list (prog := prog) (w := w) hh sh.objs.size l lI vs.toArray
  have hn : vs.toArray.size = vs.length := by simp
  rw [hn] at W
  refine for_block (s := ⟨sh.push { cls := .type "list_iterator", data := .fields #[.ref l, .int 0 0] }, sg, sd, st, so⟩) Inv W (fun i h st => by obtain ⟨⟨o, ho, _⟩, _⟩ := st; exact ⟨o, ho⟩) ?_ F₁ (Ne.symm F.Lsize) F.Gsize F.h0size F.musize
    ⟨⟨_, Heap.get?_push_size _ rfl, rfl, rfl⟩, hls.at fun o e => Heap.get?_push_of_some _ e⟩ ?_ hinv ?_ done
  · intro b hb hbI
    rcases List.mem_cons.mp hb with q | q
    · exact absurd q hbI
    · exact ⟨ol, (List.mem_singleton.mp q) ▸ hol⟩
  · rintro i v s' Q E ⟨hit, hl'⟩ hQ
    rcases hT with ⟨x, px, rfl⟩ | ⟨es, k, px, rfl⟩
    · exact wpAny_pure hQ
    · cases v with
      | ref T => exact wpAny_letOwnedTupleGo_listiter hit hQ
      | _ => exact wpAny_pure hQ
  · exact fun i v G' mu' m' h tk oI _ hP => fun a b c d e => turn i v G' mu' m' h tk _ oI (by simpa using hP) a b c d F.h0size e
end
end
section
abbrev pw : Program := PySem.Challenge.pw_sy0020_01
noncomputable def seqAt (K : Frag) (a : Addr) (l : List Value) : Bool := match K.lookup a with
  | some ⟨.type t, _, .seq xs _, _⟩ => t == "tuple" && xs.toList == l
  | _ => false
theorem seqAt_of {K : Frag} {a : Addr} {l : List Value} (h : seqAt K a l = true) : ∃ o n, K.lookup a = some o ∧ o.cls = .type "tuple" ∧ o.data = .seq l.toArray n := by
  unfold seqAt at h
  split at h
  · rename_i t dd xs n sl e
    rw [Bool.and_eq_true, beq_iff_eq, beq_iff_eq] at h
    obtain ⟨h1, h2⟩ := h
    refine ⟨_, n, e, by rw [h1], ?_⟩
    rw [← h2, Array.toArray_toList]
  · cases h
noncomputable def fdOf : Stmt → Fd
  | .FunctionDef n a b _ _ _ sc _ _ _ => (n, a, b, sc)
  | _ => ("", ⟨[], [], none, [], [], none, []⟩, [], ⟨.function, [], false, false, []⟩)
noncomputable def topFd (i : Nat) : Fd := match pw.main.body[i]? with
  | some st => fdOf st
  | none => ("", ⟨[], [], none, [], [], none, []⟩, [], ⟨.function, [], false, false, []⟩)
noncomputable def clsFd (i j : Nat) : Fd := match pw.main.body[i]? with
  | some (.ClassDef _ _ _ b _ _ _ _ _ _ _) => (match b[j]? with
    | some st => fdOf st
    | none => ("", ⟨[], [], none, [], [], none, []⟩, [], ⟨.function, [], false, false, []⟩))
  | _ => ("", ⟨[], [], none, [], [], none, []⟩, [], ⟨.function, [], false, false, []⟩)
noncomputable def globT : List (String × Addr) := [("tuple_name", 298), ("is_tuple_name", 305), ("spread", 326), ("looked_at", 373), ("has_plain_row", 385), ("built", 392), ("lines_of", 397), ("with_con", 402), ("with_any", 412), ("heads_of", 419), ("unmatched", 483), ("useless", 490), ("_law_trough", 522), ("_law_ladle", 529), ("_law_cons", 536), ("_law_wild", 543), ("_law_asking", 550), ("_law_row", 555), ("_law_asked", 560), ("_law_takes_all", 565), ("_law_due", 570), ("_law_word", 575), ("_law_words", 580), ("_law_useless", 585), ("law", 590), ("Node", 43), ("PVar", 72), ("PWild", 99), ("PLit", 126), ("PCon", 153), ("PTuple", 180), ("PList", 207), ("PAs", 234), ("PLazy", 261), ("PBang", 288), ("Constructors", 362), ("Watcher", 474), ("ConInfo", 507)]
noncomputable def bltT : List String := ["len", "isinstance", "any", "all", "list", "range", "sorted", "tuple", "enumerate", "int"]
noncomputable def attrT : List (Addr × String) := [(72, "place"), (72, "name"), (99, "place"), (153, "place"), (153, "name"), (153, "args"), (180, "place"), (180, "items"), (234, "place"), (234, "name"), (234, "pattern"), (261, "place"), (261, "pattern"), (288, "place"), (288, "pattern"), (362, "cons"), (474, "known"), (507, "name"), (507, "tag"), (507, "arity"), (507, "stricts"), (507, "type_name"), (507, "scheme"), (507, "siblings"), (507, "is_newtype")]
noncomputable def methT : List ((Addr × String) × Addr) := [((362, "arity"), 347), ((362, "siblings"), 359), ((474, "missing"), 445), ((474, "missing_by_con"), 452), ((474, "not_told"), 457), ((474, "is_reached"), 464), ((474, "is_reached_by"), 471)]
noncomputable def isiT : List ((Addr × Addr) × Bool) := [((72, 234), false), ((72, 288), false), ((72, 72), true), ((72, 261), false), ((72, 180), false), ((72, 207), false), ((72, 126), false), ((72, 99), false), ((72, 153), false), ((99, 234), false), ((99, 288), false), ((99, 72), false), ((99, 261), false), ((99, 180), false), ((99, 207), false), ((99, 126), false), ((99, 99), true), ((99, 153), false), ((153, 234), false), ((153, 288), false), ((153, 72), false), ((153, 261), false), ((153, 180), false), ((153, 207), false), ((153, 126), false), ((153, 99), false), ((153, 153), true), ((180, 234), false), ((180, 288), false), ((180, 72), false), ((180, 261), false), ((180, 180), true), ((180, 207), false), ((180, 126), false), ((180, 99), false), ((180, 153), false), ((234, 234), true), ((234, 288), false), ((234, 72), false), ((234, 261), false), ((234, 180), false), ((234, 207), false), ((234, 126), false), ((234, 99), false), ((234, 153), false), ((261, 234), false), ((261, 288), false), ((261, 72), false), ((261, 261), true), ((261, 180), false), ((261, 207), false), ((261, 126), false), ((261, 99), false), ((261, 153), false), ((288, 234), false), ((288, 288), true), ((288, 72), false), ((288, 261), false), ((288, 180), false), ((288, 207), false), ((288, 126), false), ((288, 99), false), ((288, 153), false)]
structure KOk (K : Frag) : Prop where
  f298 : IsFn K 298 "tuple_name" (topFd 18) (.none)
  f305 : IsFn K 305 "is_tuple_name" (topFd 19) (.none)
  f326 : IsFn K 326 "spread" (topFd 22) (.none)
  f373 : IsFn K 373 "looked_at" (topFd 26) (.none)
  f385 : IsFn K 385 "has_plain_row" (topFd 28) (.none)
  f392 : IsFn K 392 "built" (topFd 29) (.none)
  f397 : IsFn K 397 "lines_of" (topFd 30) (.none)
  f402 : IsFn K 402 "with_con" (topFd 31) (.none)
  f412 : IsFn K 412 "with_any" (topFd 33) (.none)
  f419 : IsFn K 419 "heads_of" (topFd 34) (.none)
  f483 : IsFn K 483 "unmatched" (topFd 37) (.none)
  f490 : IsFn K 490 "useless" (topFd 38) (.ref 485)
  f522 : IsFn K 522 "_law_trough" (topFd 43) (.none)
  f529 : IsFn K 529 "_law_ladle" (topFd 44) (.none)
  f536 : IsFn K 536 "_law_cons" (topFd 45) (.none)
  f543 : IsFn K 543 "_law_wild" (topFd 46) (.none)
  f550 : IsFn K 550 "_law_asking" (topFd 47) (.none)
  f555 : IsFn K 555 "_law_row" (topFd 48) (.none)
  f560 : IsFn K 560 "_law_asked" (topFd 49) (.none)
  f565 : IsFn K 565 "_law_takes_all" (topFd 50) (.none)
  f570 : IsFn K 570 "_law_due" (topFd 51) (.none)
  f575 : IsFn K 575 "_law_word" (topFd 52) (.none)
  f580 : IsFn K 580 "_law_words" (topFd 53) (.none)
  f585 : IsFn K 585 "_law_useless" (topFd 54) (.none)
  f590 : IsFn K 590 "law" (topFd 55) (.none)
  f33 : IsFn K 33 "Node.__init__" (clsFd 2 0) (.none)
  f62 : IsFn K 62 "PVar.__init__" (clsFd 4 0) (.ref 55)
  f89 : IsFn K 89 "PWild.__init__" (clsFd 5 0) (.ref 82)
  f143 : IsFn K 143 "PCon.__init__" (clsFd 7 0) (.ref 136)
  f170 : IsFn K 170 "PTuple.__init__" (clsFd 8 0) (.ref 163)
  f224 : IsFn K 224 "PAs.__init__" (clsFd 10 0) (.ref 217)
  f251 : IsFn K 251 "PLazy.__init__" (clsFd 11 0) (.ref 244)
  f278 : IsFn K 278 "PBang.__init__" (clsFd 12 0) (.ref 271)
  f340 : IsFn K 340 "Constructors.__init__" (clsFd 23 0) (.none)
  f347 : IsFn K 347 "Constructors.arity" (clsFd 23 1) (.none)
  f359 : IsFn K 359 "Constructors.siblings" (clsFd 23 3) (.none)
  f438 : IsFn K 438 "Watcher.__init__" (clsFd 36 0) (.none)
  f445 : IsFn K 445 "Watcher.missing" (clsFd 36 1) (.none)
  f452 : IsFn K 452 "Watcher.missing_by_con" (clsFd 36 2) (.none)
  f457 : IsFn K 457 "Watcher.not_told" (clsFd 36 3) (.none)
  f464 : IsFn K 464 "Watcher.is_reached" (clsFd 36 4) (.none)
  f471 : IsFn K 471 "Watcher.is_reached_by" (clsFd 36 5) (.none)
  f504 : IsFn K 504 "ConInfo.__init__" (clsFd 40 0) (.none)
  c72 : Cls K 72
  m72 : Mk K 72 62
  c99 : Cls K 99
  m99 : Mk K 99 89
  c153 : Cls K 153
  m153 : Mk K 153 143
  c180 : Cls K 180
  m180 : Mk K 180 170
  c234 : Cls K 234
  m234 : Mk K 234 224
  c261 : Cls K 261
  m261 : Mk K 261 251
  c288 : Cls K 288
  m288 : Mk K 288 278
  c362 : Cls K 362
  m362 : Mk K 362 340
  c474 : Cls K 474
  m474 : Mk K 474 438
  c507 : Cls K 507
  m507 : Mk K 507 504
  dkeep : ([298, 305, 326, 373, 385, 392, 397, 402, 412, 419, 483, 490, 522, 529, 536, 543, 550, 555, 560, 565, 570, 575, 580, 585, 590, 33, 347, 359, 445, 452, 457, 464, 471] : List Addr).all (fun a => keepIn K (.ref a)) = true
  isfn : ([33, 347, 359, 445, 452, 457, 464, 471] : List Addr).all (fun a => isFn K (.ref a)) = true
  glob : globT.all (fun p => nsIn K mainGlobals (Str.ofString p.1) == some (some (.ref p.2))) = true
  blt : bltT.all (fun p => nsIn K mainGlobals (Str.ofString p) == some none) = true
  attr : attrT.all (fun p => findIn K (.ref p.1) (Str.ofString p.2) == some none) = true
  meth : methT.all (fun p => findIn K (.ref p.1.1) (Str.ofString p.1.2) == some (some (.ref p.2))) = true
  isi : isiT.all (fun p => kitOne K (.ref p.1.1) (.ref p.1.2) == some p.2) = true
  dflt : ([55, 82, 136, 163, 217, 244, 271] : List Addr).all (fun a => seqAt K a [.none]) = true
  d484 : seqAt K 484 [] = true
  d485 : seqAt K 485 [.ref 484] = true
  nodeinit : ∃ mc, typeIn K (.ref 43) = some mc ∧ readsIn K 43 mc = true ∧ findCls K (.ref 43) mc "__init__" = some (.val (.ref 33)) ∧ specialIn K (.ref 43) "__getattribute__" = some (some (.builtin "type.__getattribute__"))
theorem lookup_mem {α β : Type} [BEq α] [LawfulBEq α] : ∀ {l : List (α × β)} {a : α} {b : β}, l.lookup a = some b → (a, b) ∈ l
  | (x, y) :: r, a, b, h => by
    rw [List.lookup_cons] at h
    cases e : a == x with
    | true => rw [e] at h; cases h; rw [eq_of_beq e]; exact .head _
    | false => rw [e] at h; exact .tail _ (lookup_mem h)
theorem all_mem {α : Type} {l : List α} {f : α → Bool} (h : l.all f = true) {a : α} (m : a ∈ l) : f a = true := List.all_eq_true.mp h a m
section
variable {K : Frag} (k : KOk K)
include k
theorem KOk.gl {n : String} {a : Addr} (h : globT.lookup n = some a := by rfl) : nsIn K mainGlobals (Str.ofString n) = some (some (.ref a)) := by simpa using all_mem k.glob (lookup_mem h)
theorem KOk.bl {n : String} (h : bltT.contains n = true := by rfl) : nsIn K mainGlobals (Str.ofString n) = some none := by simpa using all_mem k.blt (List.contains_iff_mem.mp h)
theorem KOk.at {D : Addr} {x : String} (h : attrT.contains (D, x) = true := by rfl) : findIn K (.ref D) (Str.ofString x) = some none := by simpa using all_mem k.attr (List.contains_iff_mem.mp h)
theorem KOk.me {D f : Addr} {x : String} (h : methT.lookup (D, x) = some f := by rfl) : findIn K (.ref D) (Str.ofString x) = some (some (.ref f)) := by simpa using all_mem k.meth (lookup_mem h)
theorem KOk.is {D C : Addr} {b : Bool} (h : isiT.lookup (D, C) = some b := by rfl) : kitOne K (.ref D) (.ref C) = some b := by simpa using all_mem k.isi (lookup_mem h)
theorem KOk.df {T : Addr} (h : ([55, 82, 136, 163, 217, 244, 271] : List Addr).contains T = true := by rfl) : ∃ o n, K.lookup T = some o ∧ o.cls = .type "tuple" ∧ o.data = .seq #[.none] n := seqAt_of (all_mem k.dflt (List.contains_iff_mem.mp h))
theorem KOk.fn (a : Addr) (h : a ∈ ([33, 347, 359, 445, 452, 457, 464, 471] : List Addr) := by simp) : isFn K (.ref a) = true := all_mem k.isfn h
theorem KOk.kp (a : Addr) (h : a ∈ ([298, 305, 326, 373, 385, 392, 397, 402, 412, 419, 483, 490, 522, 529, 536, 543, 550, 555, 560, 565, 570, 575, 580, 585, 590, 33, 347, 359, 445, 452, 457, 464, 471] : List Addr) := by simp) : keepIn K (.ref a) = true := all_mem k.dkeep h
end
end
section
noncomputable def isLoc (env : Env) (x : Str) : Bool := (match env.scope.kind with | .function => true | _ => false) && (match env.kindOf x with | some .local => true | _ => false) && !(x == ("__debug__" : Str))
noncomputable def isGlb (env : Env) (x : Str) : Bool := (match env.scope.kind with | .function => true | _ => false) && (match env.kindOf x with | some .globalImplicit => true | _ => false) && env.globals == mainGlobals && !(x == ("__debug__" : Str))
noncomputable def isBlt (env : Env) (x : Str) : Bool := isGlb env x && env.builtins == builtinsNs && !(x == ("__name__" : Str))
theorem isLoc_parts {env : Env} {x : Str} (h : isLoc env x = true) : env.scope.kind = .function ∧ env.kindOf x = some .local ∧ (x == ("__debug__" : Str)) = false := by
  unfold isLoc at h
  simp only [Bool.and_eq_true] at h
  obtain ⟨⟨h1, h2⟩, h3⟩ := h
  refine ⟨?_, ?_, by simpa using h3⟩
  · split at h1 <;> first | assumption | cases h1
  · split at h2 <;> first | assumption | cases h2
theorem isGlb_parts {env : Env} {x : Str} (h : isGlb env x = true) : env.scope.kind = .function ∧ env.kindOf x = some .globalImplicit ∧ env.globals = mainGlobals ∧ (x == ("__debug__" : Str)) = false := by
  unfold isGlb at h
  simp only [Bool.and_eq_true] at h
  obtain ⟨⟨⟨h1, h2⟩, h3⟩, h4⟩ := h
  refine ⟨?_, ?_, by simpa using h3, by simpa using h4⟩
  · split at h1 <;> first | assumption | cases h1
  · split at h2 <;> first | assumption | cases h2
section
variable {prog : Program} {w : World} {K : Frag} {H : Heap} {mg mb : Str → Option Value} {A : Around} {E : Value → Shared → Prop} {s : Shared}
  {wr : List Addr} {G₀ G : Gr} {h₀ : Heap} {mu : List (Addr × Obj)} {m : Str → Option Value} {env : Env}
theorem nm_localK {x : Str} {pos : Pos} {v : Value} {L : Addr} {Q : Value → Shared → Prop} (hb : isLoc env x = true) (F : Fm H wr G₀ h₀ L G mu s.heap m) (hL : env.locals = L) (hv : m x = some v) (h : Q v s) :
    wpAny (model prog w) A (eval (.Name x pos) env) Q E s := by
  subst hL
  obtain ⟨a, b, c⟩ := isLoc_parts hb
  exact nm_local F hv h a b c
theorem nm_globK {x : Str} {pos : Pos} {v : Value} {L : Addr} {Q : Value → Shared → Prop} (hb : isGlb env x = true) (B : Bs w K H mg mb) (F : Fm H wr G₀ h₀ L G mu s.heap m) (hL : env.locals = L) (e : nsIn K mainGlobals x = some (some v)) (h : Q v s) :
    wpAny (model prog w) A (eval (.Name x pos) env) Q E s := by
  subst hL
  obtain ⟨a, b, c, d⟩ := isGlb_parts hb
  exact nm_glob B F e h a b c d
theorem nm_bltK {x : Str} {pos : Pos} {v : Value} {L : Addr} {Q : Value → Shared → Prop} (hb : isBlt env x = true) (B : Bs w K H mg mb) (F : Fm H wr G₀ h₀ L G mu s.heap m) (hL : env.locals = L) (e : nsIn K mainGlobals x = some none) (hv : bootBuiltins x = some v) (h : Q v s) :
    wpAny (model prog w) A (eval (.Name x pos) env) Q E s := by
  subst hL
  unfold isBlt at hb
  simp only [Bool.and_eq_true] at hb
  obtain ⟨⟨h1, h2⟩, h3⟩ := hb
  obtain ⟨a, b, c, d⟩ := isGlb_parts h1
  exact nm_blt B F e hv (by simpa using h3) h a b c (by simpa using h2) d
end
theorem up_hit {x : Str} {v : Value} {r : Option Value} : (if x = x then some v else r) = some v := if_pos rfl
theorem up_miss {x a : Str} {p r q : Option Value} (hne : (x == a) = false) (h : q = r) : (if x = a then p else q) = r := by
  rw [if_neg (by simpa using hne)]; exact h
theorem lk_hit {x : Str} {v : Value} {l : List (Str × Value)} : List.lookup x ((x, v) :: l) = some v := by simp [List.lookup]
theorem lk_miss {x a : Str} {v : Value} {r : Option Value} {l : List (Str × Value)} (hne : (x == a) = false) (h : List.lookup x l = r) : List.lookup x ((a, v) :: l) = r := by
  rw [List.lookup, hne]; exact h
abbrev Hid {α : Type} (Q R : α → Shared → Prop) : Prop := ∀ v s', Q v s' → R v s'
noncomputable def Stop (P : Prop) : Prop := P
theorem stop_in {P : Prop} (h : Stop P) : P := h
theorem stop_out {P : Prop} (h : P) : Stop P := h
theorem wp_hide {α : Type} {M : Model} {A : Around} {act : Sem α} {Q : α → Shared → Prop} {E : Value → Shared → Prop} {s : Shared} (h : ∀ R, Hid Q R → wpAny M A act R E s) : wpAny M A act Q E s := h Q fun _ _ q => q
theorem g_tuple_name {K : Frag} (k : KOk K) : nsIn K mainGlobals (Str.ofString "tuple_name") = some (some (.ref 298)) := k.gl (by decide +kernel)
theorem g_is_tuple_name {K : Frag} (k : KOk K) : nsIn K mainGlobals (Str.ofString "is_tuple_name") = some (some (.ref 305)) := k.gl (by decide +kernel)
theorem g_spread {K : Frag} (k : KOk K) : nsIn K mainGlobals (Str.ofString "spread") = some (some (.ref 326)) := k.gl (by decide +kernel)
theorem g_looked_at {K : Frag} (k : KOk K) : nsIn K mainGlobals (Str.ofString "looked_at") = some (some (.ref 373)) := k.gl (by decide +kernel)
theorem g_has_plain_row {K : Frag} (k : KOk K) : nsIn K mainGlobals (Str.ofString "has_plain_row") = some (some (.ref 385)) := k.gl (by decide +kernel)
theorem g_built {K : Frag} (k : KOk K) : nsIn K mainGlobals (Str.ofString "built") = some (some (.ref 392)) := k.gl (by decide +kernel)
theorem g_lines_of {K : Frag} (k : KOk K) : nsIn K mainGlobals (Str.ofString "lines_of") = some (some (.ref 397)) := k.gl (by decide +kernel)
theorem g_with_con {K : Frag} (k : KOk K) : nsIn K mainGlobals (Str.ofString "with_con") = some (some (.ref 402)) := k.gl (by decide +kernel)
theorem g_with_any {K : Frag} (k : KOk K) : nsIn K mainGlobals (Str.ofString "with_any") = some (some (.ref 412)) := k.gl (by decide +kernel)
theorem g_heads_of {K : Frag} (k : KOk K) : nsIn K mainGlobals (Str.ofString "heads_of") = some (some (.ref 419)) := k.gl (by decide +kernel)
theorem g_unmatched {K : Frag} (k : KOk K) : nsIn K mainGlobals (Str.ofString "unmatched") = some (some (.ref 483)) := k.gl (by decide +kernel)
theorem g_useless {K : Frag} (k : KOk K) : nsIn K mainGlobals (Str.ofString "useless") = some (some (.ref 490)) := k.gl (by decide +kernel)
theorem g_law_trough {K : Frag} (k : KOk K) : nsIn K mainGlobals (Str.ofString "_law_trough") = some (some (.ref 522)) := k.gl (by decide +kernel)
theorem g_law_ladle {K : Frag} (k : KOk K) : nsIn K mainGlobals (Str.ofString "_law_ladle") = some (some (.ref 529)) := k.gl (by decide +kernel)
theorem g_law_cons {K : Frag} (k : KOk K) : nsIn K mainGlobals (Str.ofString "_law_cons") = some (some (.ref 536)) := k.gl (by decide +kernel)
theorem g_law_wild {K : Frag} (k : KOk K) : nsIn K mainGlobals (Str.ofString "_law_wild") = some (some (.ref 543)) := k.gl (by decide +kernel)
theorem g_law_asking {K : Frag} (k : KOk K) : nsIn K mainGlobals (Str.ofString "_law_asking") = some (some (.ref 550)) := k.gl (by decide +kernel)
theorem g_law_row {K : Frag} (k : KOk K) : nsIn K mainGlobals (Str.ofString "_law_row") = some (some (.ref 555)) := k.gl (by decide +kernel)
theorem g_law_asked {K : Frag} (k : KOk K) : nsIn K mainGlobals (Str.ofString "_law_asked") = some (some (.ref 560)) := k.gl (by decide +kernel)
theorem g_law_takes_all {K : Frag} (k : KOk K) : nsIn K mainGlobals (Str.ofString "_law_takes_all") = some (some (.ref 565)) := k.gl (by decide +kernel)
theorem g_law_due {K : Frag} (k : KOk K) : nsIn K mainGlobals (Str.ofString "_law_due") = some (some (.ref 570)) := k.gl (by decide +kernel)
theorem g_law_word {K : Frag} (k : KOk K) : nsIn K mainGlobals (Str.ofString "_law_word") = some (some (.ref 575)) := k.gl (by decide +kernel)
theorem g_law_words {K : Frag} (k : KOk K) : nsIn K mainGlobals (Str.ofString "_law_words") = some (some (.ref 580)) := k.gl (by decide +kernel)
theorem g_law_useless {K : Frag} (k : KOk K) : nsIn K mainGlobals (Str.ofString "_law_useless") = some (some (.ref 585)) := k.gl (by decide +kernel)
theorem g_law {K : Frag} (k : KOk K) : nsIn K mainGlobals (Str.ofString "law") = some (some (.ref 590)) := k.gl (by decide +kernel)
theorem g_Node {K : Frag} (k : KOk K) : nsIn K mainGlobals (Str.ofString "Node") = some (some (.ref 43)) := k.gl (by decide +kernel)
theorem g_PVar {K : Frag} (k : KOk K) : nsIn K mainGlobals (Str.ofString "PVar") = some (some (.ref 72)) := k.gl (by decide +kernel)
theorem g_PWild {K : Frag} (k : KOk K) : nsIn K mainGlobals (Str.ofString "PWild") = some (some (.ref 99)) := k.gl (by decide +kernel)
theorem g_PLit {K : Frag} (k : KOk K) : nsIn K mainGlobals (Str.ofString "PLit") = some (some (.ref 126)) := k.gl (by decide +kernel)
theorem g_PCon {K : Frag} (k : KOk K) : nsIn K mainGlobals (Str.ofString "PCon") = some (some (.ref 153)) := k.gl (by decide +kernel)
theorem g_PTuple {K : Frag} (k : KOk K) : nsIn K mainGlobals (Str.ofString "PTuple") = some (some (.ref 180)) := k.gl (by decide +kernel)
theorem g_PList {K : Frag} (k : KOk K) : nsIn K mainGlobals (Str.ofString "PList") = some (some (.ref 207)) := k.gl (by decide +kernel)
theorem g_PAs {K : Frag} (k : KOk K) : nsIn K mainGlobals (Str.ofString "PAs") = some (some (.ref 234)) := k.gl (by decide +kernel)
theorem g_PLazy {K : Frag} (k : KOk K) : nsIn K mainGlobals (Str.ofString "PLazy") = some (some (.ref 261)) := k.gl (by decide +kernel)
theorem g_PBang {K : Frag} (k : KOk K) : nsIn K mainGlobals (Str.ofString "PBang") = some (some (.ref 288)) := k.gl (by decide +kernel)
theorem g_Constructors {K : Frag} (k : KOk K) : nsIn K mainGlobals (Str.ofString "Constructors") = some (some (.ref 362)) := k.gl (by decide +kernel)
theorem g_Watcher {K : Frag} (k : KOk K) : nsIn K mainGlobals (Str.ofString "Watcher") = some (some (.ref 474)) := k.gl (by decide +kernel)
theorem g_ConInfo {K : Frag} (k : KOk K) : nsIn K mainGlobals (Str.ofString "ConInfo") = some (some (.ref 507)) := k.gl (by decide +kernel)
theorem b_len {K : Frag} (k : KOk K) : nsIn K mainGlobals (Str.ofString "len") = some none := k.bl (by decide +kernel)
theorem b_isinstance {K : Frag} (k : KOk K) : nsIn K mainGlobals (Str.ofString "isinstance") = some none := k.bl (by decide +kernel)
theorem b_any {K : Frag} (k : KOk K) : nsIn K mainGlobals (Str.ofString "any") = some none := k.bl (by decide +kernel)
theorem b_all {K : Frag} (k : KOk K) : nsIn K mainGlobals (Str.ofString "all") = some none := k.bl (by decide +kernel)
theorem b_list {K : Frag} (k : KOk K) : nsIn K mainGlobals (Str.ofString "list") = some none := k.bl (by decide +kernel)
theorem b_range {K : Frag} (k : KOk K) : nsIn K mainGlobals (Str.ofString "range") = some none := k.bl (by decide +kernel)
theorem b_sorted {K : Frag} (k : KOk K) : nsIn K mainGlobals (Str.ofString "sorted") = some none := k.bl (by decide +kernel)
theorem b_tuple {K : Frag} (k : KOk K) : nsIn K mainGlobals (Str.ofString "tuple") = some none := k.bl (by decide +kernel)
theorem b_enumerate {K : Frag} (k : KOk K) : nsIn K mainGlobals (Str.ofString "enumerate") = some none := k.bl (by decide +kernel)
theorem b_int {K : Frag} (k : KOk K) : nsIn K mainGlobals (Str.ofString "int") = some none := k.bl (by decide +kernel)
end
section
inductive ArgK (K : Frag) (m : Str → Option Value) (env : Env) : Nat → List Expr → List Value → Nat → Prop
  | nil {t : Nat} : ArgK K m env t [] [] t
  | loc {t t' : Nat} {x : Str} {p : Pos} {v : Value} {es : List Expr} {vs : List Value} : isLoc env x = true → m x = some v → ArgK K m env t es vs t' → ArgK K m env t (.Name x p :: es) (v :: vs) t'
  | glb {t t' : Nat} {x : Str} {p : Pos} {v : Value} {es : List Expr} {vs : List Value} : isGlb env x = true → nsIn K mainGlobals x = some (some v) → ArgK K m env t es vs t' → ArgK K m env t (.Name x p :: es) (v :: vs) t'
  | int {t t' : Nat} {i : Int} {k : Nat} {p : Pos} {es : List Expr} {vs : List Value} : ArgK K m env (t + 1) es vs t' → ArgK K m env t (.Constant (.int i) k p :: es) (.int i t :: vs) t'
  | str {t t' : Nat} {x : Str} {k : Nat} {p : Pos} {es : List Expr} {vs : List Value} : ArgK K m env (t + 1) es vs t' → ArgK K m env t (.Constant (.str x) k p :: es) (.str x t :: vs) t'
  | none {t t' : Nat} {k : Nat} {p : Pos} {es : List Expr} {vs : List Value} : ArgK K m env t es vs t' → ArgK K m env t (.Constant .none k p :: es) (.none :: vs) t'
section
variable {prog : Program} {w : World} {K : Frag} {H : Heap} {mg mb : Str → Option Value} {A : Around} {E : Value → Shared → Prop}
  {wr : List Addr} {G₀ G : Gr} {h₀ : Heap} {L : Addr} {mu : List (Addr × Obj)} {m : Str → Option Value} {env : Env}
theorem ArgK.spliced {pos : Pos} {t t' : Nat} {es : List Expr} {vs : List Value} (B : Bs w K H mg mb) (hL : env.locals = L) (a : ArgK K m env t es vs t') :
    ∀ {s : Shared} {Q : List Value → Shared → Prop}, s.toks = t → Fm H wr G₀ h₀ L G mu s.heap m → Q vs { s with toks := t' } → wpAny (model prog w) A (spliced (backTo pos (starEach es env))) Q E s := by
  induction a with
  | nil => intro s Q e F h; subst e; exact args_nil h
  | loc h1 h2 _ ih => intro s Q e F h; exact args_cons (nm_localK h1 F hL h2 (ih e F h))
  | glb h1 h2 _ ih => intro s Q e F h; exact args_cons (nm_globK h1 B F hL h2 (ih e F h))
  | int _ ih => intro s Q e F h; subst e; exact args_cons (wpAny_Constant_int (ih (s := { s with toks := s.toks + 1 }) rfl F h))
  | str _ ih => intro s Q e F h; subst e; exact args_cons (Calls.Constant_str (ih (s := { s with toks := s.toks + 1 }) rfl F h))
  | none _ ih => intro s Q e F h; exact args_cons (wpAny_Constant_none (ih e F h))
theorem ArgK.plain {pos : Pos} {t t' : Nat} {es : List Expr} {vs : List Value} (a : ArgK K m env t es vs t') : (backTo pos (starEach es env)).any (·.1) = false := by
  induction a with
  | nil => rfl
  | loc _ _ _ ih | glb _ _ _ ih | int _ ih | str _ ih | none _ ih => exact ih
theorem ArgK.eval {pos : Pos} {t t' : Nat} {f : Value} {es : List Expr} {vs : List Value} (B : Bs w K H mg mb) (hL : env.locals = L) (a : ArgK K m env t es vs t') {s : Shared} {Q : PySem.Args → Shared → Prop} (e : s.toks = t) (F : Fm H wr G₀ h₀ L G mu s.heap m)
    (h : Q ⟨vs, []⟩ { s with toks := t' }) : wpAny (model prog w) A (evalArgs f true (backTo pos (starEach es env)) []) Q E s := by
  have sp := fun (Q' : List Value → Shared → Prop) (h' : Q' vs { s with toks := t' }) => ArgK.spliced (prog := prog) (A := A) (E := E) (pos := pos) B hL a e F h'
  cases a with
  | nil => subst e; exact evalArgs_nil3 h
  | loc | glb =>
    have sp' := sp (fun vs s₁ => Q ⟨vs, []⟩ s₁) h
    rw [show starEach (Expr.Name _ _ :: _) env = (false, PySem.eval (Expr.Name _ _) env) :: starEach _ env from rfl] at sp' ⊢
    exact evalArgs_plain sp'
  | int | str | none =>
    have sp' := sp (fun vs s₁ => Q ⟨vs, []⟩ s₁) h
    rw [show starEach (Expr.Constant _ _ _ :: _) env = (false, PySem.eval (Expr.Constant _ _ _) env) :: starEach _ env from rfl] at sp' ⊢
    exact evalArgs_plain sp'
variable {s : Shared}
theorem call_fnK {g : Str} {p1 pos : Pos} {f : Addr} {es : List Expr} {vs : List Value} {t' : Nat} {Q : Value → Shared → Prop} (e : nsIn K mainGlobals g = some (some (.ref f))) (hb : isGlb env g = true) (hk : keepIn K (.ref f) = true)
    (B : Bs w K H mg mb) (F : Fm H wr G₀ h₀ L G mu s.heap m) (hL : env.locals = L) (a : ArgK K m env s.toks es vs t') (h : wpAny (model prog w) A (call (.ref f) vs) Q E { s with toks := t' }) :
    wpAny (model prog w) A (eval (.Call (.Name g p1) es [] pos) env) Q E s := by
  refine Call_ (nm_globK hb B F hL e ?_)
  exact callWith_of (by rw [a.plain (pos := pos)]; rfl) (keeps_K hk) (ArgK.eval B hL a rfl F ⟨kin_at B F, h⟩)
theorem call_bltK {g : Str} {p1 pos : Pos} {id : String} {es : List Expr} {vs : List Value} {t' : Nat} {Q : Value → Shared → Prop} (e : nsIn K mainGlobals g = some Option.none) (hv : bootBuiltins g = some (.builtin id)) (hb : isBlt env g = true)
    (B : Bs w K H mg mb) (F : Fm H wr G₀ h₀ L G mu s.heap m) (hL : env.locals = L) (a : ArgK K m env s.toks es vs t') (h : wpAny (model prog w) A (call (.builtin id) vs) Q E { s with toks := t' }) :
    wpAny (model prog w) A (eval (.Call (.Name g p1) es [] pos) env) Q E s := by
  refine Call_ (nm_bltK hb B F hL e hv ?_)
  exact PySem.Calls.callWith_builtin (a.plain (pos := pos)) (ArgK.eval B hL a rfl F h)
theorem call_typK {g : Str} {p1 pos : Pos} {T : String} {es : List Expr} {vs : List Value} {t' : Nat} {Q : Value → Shared → Prop} (e : nsIn K mainGlobals g = some Option.none) (hv : bootBuiltins g = some (.type T)) (hb : isBlt env g = true)
    (B : Bs w K H mg mb) (F : Fm H wr G₀ h₀ L G mu s.heap m) (hL : env.locals = L) (a : ArgK K m env s.toks es vs t') (h : wpAny (model prog w) A (call (.type T) vs) Q E { s with toks := t' }) :
    wpAny (model prog w) A (eval (.Call (.Name g p1) es [] pos) env) Q E s := by
  refine Call_ (nm_bltK hb B F hL e hv ?_)
  exact PyProof.Rows.callWith_type (a.plain (pos := pos)) (ArgK.eval B hL a rfl F h)
theorem nm_globE {x : Str} {pos : Pos} {v : Value} {Q : Value → Shared → Prop} (e : nsIn K mainGlobals x = some (some v)) (hb : isGlb env x = true) (B : Bs w K H mg mb) (F : Fm H wr G₀ h₀ L G mu s.heap m) (hL : env.locals = L) (h : Q v s) :
    wpAny (model prog w) A (eval (.Name x pos) env) Q E s := nm_globK hb B F hL e h
theorem nm_bltE {x : Str} {pos : Pos} {v : Value} {Q : Value → Shared → Prop} (e : nsIn K mainGlobals x = some Option.none) (hv : bootBuiltins x = some v) (hb : isBlt env x = true) (B : Bs w K H mg mb) (F : Fm H wr G₀ h₀ L G mu s.heap m) (hL : env.locals = L) (h : Q v s) :
    wpAny (model prog w) A (eval (.Name x pos) env) Q E s := nm_bltK hb B F hL e hv h
end
end
section
structure KNm (K : Frag) : Prop where
  nil : ∃ tk, nsIn K mainGlobals (Str.ofString "NIL") = some (some (.str (Str.ofString "[]") tk))
  con : ∃ tk, nsIn K mainGlobals (Str.ofString "CONS") = some (some (.str (Str.ofString ":") tk))
noncomputable def oD512 (w : World) (t1 t2 t3 : Tok) (n : Nat) : Obj :=
  { cls := .type "dict", data := .dict #[⟨PyData.keyHash w.params (Str.ofString "B"), .str (Str.ofString "B") t1, .ref 513⟩, ⟨PyData.keyHash w.params (Str.ofString "T"), .str (Str.ofString "T") t2, .ref 514⟩, ⟨PyData.keyHash w.params (Str.ofString "P"), .str (Str.ofString "P") t3, .ref 515⟩] n }
noncomputable def oL2 (x y : Str) (t1 t2 : Tok) (n : Nat) : Obj := { cls := .type "list", data := .seq #[.str x t1, .str y t2] n }
noncomputable def oL3 (x y z : Str) (t1 t2 t3 : Tok) (n : Nat) : Obj := { cls := .type "list", data := .seq #[.str x t1, .str y t2, .str z t3] n }
structure KLn (w : World) (K : Frag) : Prop where
  dic : ∃ t1 t2 t3 n, K.lookup 512 = some (oD512 w t1 t2 t3 n)
  b : ∃ t1 t2 n, K.lookup 513 = some (oL2 (Str.ofString "M.F") (Str.ofString "M.U") t1 t2 n)
  t : ∃ t1 t2 t3 n, K.lookup 514 = some (oL3 (Str.ofString "M.R") (Str.ofString "M.G") (Str.ofString "M.W") t1 t2 t3 n)
  p : ∃ t1 t2 n, K.lookup 515 = some (oL2 (Str.ofString "M.F") (Str.ofString "M.U") t1 t2 n)
theorem good_true {c : ClaimW} {cl : Str → Option Addr} {mean : ExcName → Option Value} {args : List WData} {s₁ : Shared} {G G' : Gr} {h' : Heap} {tk' : Tok} (W : Went [] G s₁.heap G' h') (hg : s₁.gens = #[]) (hn : ∀ cls, c.raises args cls = false) (hp : c.post args (.bool true) args = true) :
    GoodW c cl mean args s₁ (.ok (.ret (.bool true))) { s₁ with heap := h', toks := tk' } :=
  ⟨.inl ⟨_, _, _, rfl, hn, .bool true, hp, unshared_nil⟩, W.keeps, rfl, hg⟩
noncomputable def LawP : Prop := ∀ {w : World} {K : Frag} {s₁ : Shared} {mg mb : Str → Option Value} {fa l : Addr} {vs : List Value} {ns : List Int} {R : Result → Shared → Prop} (X : K.In s₁.heap) (hmb : s₁.heap.Ns mainGlobals mg) (hbb : s₁.heap.Ns builtinsNs mb) (hnl : s₁.heap.NoLimit)
    (hbt : ∀ x : Str, x ≠ "__name__" → mb x = bootBuiltins x) (k : KOk K) (kn : KNm K) (hgl : nsIn K mainGlobals (Str.ofString "_law_names") = some (some (.ref 512))) (ln : KLn w K) (hlw : nsIn K mainGlobals (Str.ofString "law") = some (some (.ref 590))) (hfa : mg (Str.ofString "law") = some (.ref fa))
    (hl : s₁.heap.IsList l vs.toArray) (hI : IntsAre vs ns) (h : ∀ G' h' tk', Went [] s₁.heap.get? s₁.heap G' h' → R (.ok (.ret (.bool true))) { s₁ with heap := h', toks := tk' }),
    codeAny (model pw w) callerA (.call (.ref fa) ⟨[.ref l], []⟩) R s₁
theorem LawP.use (hc : LawP) {w : World} {K : Frag} {s₁ : Shared} {mg mb : Str → Option Value} {fa l : Addr} {vs : List Value} {ns : List Int} {R : Result → Shared → Prop} (X : K.In s₁.heap) (hmb : s₁.heap.Ns mainGlobals mg) (hbb : s₁.heap.Ns builtinsNs mb) (hnl : s₁.heap.NoLimit)
    (hbt : ∀ x : Str, x ≠ "__name__" → mb x = bootBuiltins x) (k : KOk K) (kn : KNm K) (hgl : nsIn K mainGlobals (Str.ofString "_law_names") = some (some (.ref 512))) (ln : KLn w K) (hlw : nsIn K mainGlobals (Str.ofString "law") = some (some (.ref 590))) (hfa : mg (Str.ofString "law") = some (.ref fa))
    (hl : s₁.heap.IsList l vs.toArray) (hI : IntsAre vs ns) (h : ∀ G' h' tk', Went [] s₁.heap.get? s₁.heap G' h' → R (.ok (.ret (.bool true))) { s₁ with heap := h', toks := tk' }) :
    codeAny (model pw w) callerA (.call (.ref fa) ⟨[.ref l], []⟩) R s₁ := hc X hmb hbb hnl hbt k kn hgl ln hlw hfa hl hI h
end
theorem ga_cls {prog : Program} {w : World} {K : Frag} {H : Heap} {mg mb : Str → Option Value} {A : Around} {E : Value → Shared → Prop} {s : Shared} {wr : List Addr} {G₀ G : Gr} {h₀ : Heap} {L : Addr} {mu : List (Addr × Obj)} {m : Str → Option Value}
    {pl : Sem Bool} {Q : Value × List Value → Shared → Prop} (B : Bs w K H mg mb) (F : Fm H wr G₀ h₀ L G mu s.heap m) (k : KOk K) (h : Q (.ref 33, []) { s with toks := s.toks + 1 }) :
    wpAny (model prog w) A (getMethod (.ref 43) "__init__" pl) Q E s := by
  obtain ⟨mc, h1, h2, h3, h4⟩ := k.nodeinit
  exact method_cls (kin_at B F) h4 (cls_value (kin_at B F) h2 h3 rfl h)
theorem cw_fn {prog : Program} {w : World} {K : Frag} {H : Heap} {mg mb : Str → Option Value} {A : Around} {E : Value → Shared → Prop} {s : Shared} {env : Env} {pos : Pos} {f : Addr} {first : List Value} {e : Expr} {rest : List Expr} {Q : Value → Shared → Prop}
    (_B : Bs w K H mg mb) (hk : keepIn K (.ref f) = true) (h : wpAny (model prog w) A (spliced (backTo pos (starEach (e :: rest) env))) (fun vs s₁ => K.In s₁.heap ∧ wpAny (model prog w) A (call (.ref f) (first ++ vs)) Q E s₁) E s)
    (he : starEach (e :: rest) env = (false, eval e env) :: starEach rest env := by rfl) (hplain : (backTo pos (starEach rest env)).any (·.1) = false := by rfl) :
    wpAny (model prog w) A (callWith pos (.ref f) first (backTo pos (starEach (e :: rest) env)) []) Q E s := by
  rw [he] at h ⊢
  exact callWith_of (by show ((false || (backTo pos (starEach rest env)).any (·.1)) || false) = false; rw [hplain]; rfl) (keeps_K hk) (evalArgs_plain h)
theorem cw_fn0 {prog : Program} {w : World} {K : Frag} {H : Heap} {mg mb : Str → Option Value} {A : Around} {E : Value → Shared → Prop} {s : Shared} {wr : List Addr} {G₀ G : Gr} {h₀ : Heap} {L : Addr} {mu : List (Addr × Obj)} {m : Str → Option Value} {env : Env} {pos : Pos} {f : Addr} {first : List Value} {Q : Value → Shared → Prop}
    (B : Bs w K H mg mb) (F : Fm H wr G₀ h₀ L G mu s.heap m) (hk : keepIn K (.ref f) = true) (h : wpAny (model prog w) A (call (.ref f) (first ++ [])) Q E s) : wpAny (model prog w) A (callWith pos (.ref f) first (backTo pos (starEach [] env)) []) Q E s :=
  callWith_of rfl (keeps_K hk) (evalArgs_nil3 ⟨kin_at B F, h⟩)
theorem KOk.cl {K : Frag} (k : KOk K) {C : Addr} (h : ([72, 99, 153, 180, 234, 261, 288, 362, 474, 507] : List Addr).contains C = true := by rfl) : keepIn K (.ref C) = true := by
  have := List.contains_iff_mem.mp h
  simp only [List.mem_cons, List.not_mem_nil, or_false] at this
  rcases this with rfl | rfl | rfl | rfl | rfl | rfl | rfl | rfl | rfl | rfl
  · exact k.m72.keep
  · exact k.m99.keep
  · exact k.m153.keep
  · exact k.m180.keep
  · exact k.m234.keep
  · exact k.m261.keep
  · exact k.m288.keep
  · exact k.m362.keep
  · exact k.m474.keep
  · exact k.m507.keep
theorem KOk.kpr {K : Frag} (k : KOk K) {a : Addr} (h : ([298, 305, 326, 373, 385, 392, 397, 402, 412, 419, 483, 490, 522, 529, 536, 543, 550, 555, 560, 565, 570, 575, 580, 585, 590, 33, 347, 359, 445, 452, 457, 464, 471] : List Addr).contains a = true := by rfl) : keepIn K (.ref a) = true :=
  k.kp a (List.contains_iff_mem.mp h)
theorem kin_h {w : World} {K : Frag} {H : Heap} {mg mb : Str → Option Value} {wr : List Addr} {G₀ G : Gr} {h₀ h : Heap} {L : Addr} {mu : List (Addr × Obj)} {m : Str → Option Value} (B : Bs w K H mg mb) (F : Fm H wr G₀ h₀ L G mu h m) : K.In h := B.kin.keeps F.topIn
theorem setMu_head {a : Addr} {o o' : Obj} {mu : List (Addr × Obj)} : setMu a o ((a, o') :: mu) = (a, o) :: setMu a o mu := by simp [setMu]
theorem setMu_nil {a : Addr} {o : Obj} : setMu a o [] = [] := rfl
noncomputable def Ents (P : Params) : List (Str × Value) → List DictEntry → Prop
  | [], [] => True
  | (n, v) :: r, e :: es => (∃ t, e = ⟨PyData.keyHash P n, .str n t, v⟩) ∧ Ents P r es
  | _, _ => False
noncomputable def getF (n : Str) : List (Str × Value) → Option Value
  | [] => none
  | (m, v) :: r => if m = n then some v else getF n r
theorem getF_hit {n : Str} {v : Value} {r : List (Str × Value)} : getF n ((n, v) :: r) = some v := by simp [getF]
theorem getF_miss {n m : Str} {u : Value} {r : List (Str × Value)} {o : Option Value} (h : m ≠ n) (e : getF n r = o) : getF n ((m, u) :: r) = o := by simp [getF, h, e]
noncomputable def putF (n : Str) (v : Value) : List (Str × Value) → List (Str × Value)
  | [] => [(n, v)]
  | (m, u) :: r => if m = n then (m, v) :: r else (m, u) :: putF n v r
theorem isStr_str (m n : Str) (t : Tok) : (Value.str m t).isStr n = decide (m = n) := by
  unfold Value.isStr
  by_cases h : m = n
  · subst h; simp
  · simp [h]
theorem Ents.find {P : Params} {n : Str} : ∀ {fs : List (Str × Value)} {es : List DictEntry}, Ents P fs es → (es.find? (·.key.isStr n)).map (·.val) = getF n fs ∧ es.any (·.refKey) = false
  | [], [], _ => ⟨rfl, rfl⟩
  | (m, v) :: r, e :: es, ⟨⟨t, he⟩, hr⟩ => by
    subst he
    obtain ⟨a, b⟩ := Ents.find (n := n) hr
    refine ⟨?_, ?_⟩
    · rw [List.find?_cons, isStr_str]
      unfold getF
      by_cases h : m = n
      · simp [h]
      · simp [h, a]
    · rw [List.any_cons, b]; rfl
  | [], _ :: _, h => h.elim
  | _ :: _, [], h => h.elim
theorem Ents.get {P : Params} {n : Str} {fs : List (Str × Value)} {es : List DictEntry} (h : Ents P fs es) : getL n es = some (getF n fs) := by
  obtain ⟨a, b⟩ := h.find (n := n)
  unfold getL
  cases q : es.find? (·.key.isStr n) with
  | some e => rw [q] at a; simp [← a]
  | none => rw [q] at a; simp [← a, b]
theorem Ents.length {P : Params} : ∀ {fs : List (Str × Value)} {es : List DictEntry}, Ents P fs es → es.length = fs.length
  | [], [], _ => rfl
  | _ :: _, _ :: _, ⟨_, hr⟩ => by simp [Ents.length hr]
  | [], _ :: _, h => h.elim
  | _ :: _, [], h => h.elim
theorem Ents.put {P : Params} {n : Str} {v : Value} {tk : Tok} : ∀ {fs : List (Str × Value)} {es : List DictEntry}, Ents P fs es → Ents P (putF n v fs) (putL n (PyData.keyHash P n) (.str n tk) v es)
  | [], [], _ => ⟨⟨tk, rfl⟩, trivial⟩
  | (m, u) :: r, e :: es, ⟨⟨t, he⟩, hr⟩ => by
    subst he
    unfold putL putF
    rw [isStr_str]
    by_cases h : m = n
    · simp only [h, decide_true, if_true]; exact ⟨⟨t, rfl⟩, hr⟩
    · simp only [h, decide_false, Bool.false_eq_true, if_false]; exact ⟨⟨t, rfl⟩, Ents.put hr⟩
  | [], _ :: _, h => h.elim
  | _ :: _, [], h => h.elim
theorem Ents.cast {P : Params} {fs fs' : List (Str × Value)} {es : List DictEntry} (h : Ents P fs es) (e : fs = fs') : Ents P fs' es := e ▸ h
noncomputable def InsF (P : Params) (G : Gr) (x C : Addr) (fs : List (Str × Value)) : Prop := ∃ es, InsG G x C es ∧ Ents P fs es
theorem InsF.mono {P : Params} {G G' : Gr} {x C : Addr} {fs : List (Str × Value)} (i : InsF P G x C fs) (s : GLe G G') : InsF P G' x C fs := let ⟨es, a, b⟩ := i; ⟨es, a.mono s, b⟩
section
variable {prog : Program} {w : World} {K : Frag} {H : Heap} {mg mb : Str → Option Value} {A : Around} {E : Value → Shared → Prop} {s : Shared} {G : Gr}
  {wr : List Addr} {G₀ : Gr} {h₀ : Heap} {L : Addr} {mu : List (Addr × Obj)} {m : Str → Option Value}
theorem sa_f {x D dx : Addr} {es : List DictEntry} {fs : List (Str × Value)} {n : Nat} {name : Str} {v : Value} {Q : Unit → Shared → Prop} (B : Bs w K H mg mb) (F : Fm H wr G₀ h₀ L G mu s.heap m) (c : Cls K D)
    (hx : G x = some (instObj D dx)) (hm : (dx, dictOf es n) ∈ mu) (he : Ents w.params fs es) (hn : findIn K (.ref D) name = some none) (hz : fs.length ≤ 900) (hw : dx ∈ wr ∨ h₀.get? dx = none)
    (h : ∀ h' tk es' n', Ents w.params (putF name v fs) es' → Fm H wr G₀ h₀ L G (setMu dx (dictOf es' n') mu) h' m → Q () { s with heap := h', toks := tk }) :
    wpAny (model prog w) A (setAttr (.ref x) name v) Q E s :=
  sa_ins B F c (F.inn _ _ hx) hm hn (by rw [he.get]; rfl) (by rw [he.length]; exact hz) hw fun h' tk n' F' => h h' _ _ n' he.put F'
theorem ga_f {x D : Addr} {fs : List (Str × Value)} {name : Str} {v : Value} {expr : Bool} {Q : Value → Shared → Prop} (B : Bs w K H mg mb) (F : Fm H wr G₀ h₀ L G mu s.heap m) (i : InsF w.params G x D fs) (c : Cls K D)
    (hn : findIn K (.ref D) name = some none) (hl : getF name fs = some v) (hv : handedIn v = true) (h : Q v { s with toks := s.toks + 1 }) :
    wpAny (model prog w) A (getAttr (.ref x) name expr) Q E s := by
  obtain ⟨es, a, b⟩ := i
  exact ga_ins B F a c hn (by rw [b.get, hl]) hv h
theorem gm_f {x D f : Addr} {fs : List (Str × Value)} {name : Str} {pl : Sem Bool} {Q : Value × List Value → Shared → Prop} (B : Bs w K H mg mb) (F : Fm H wr G₀ h₀ L G mu s.heap m) (i : InsF w.params G x D fs) (c : Cls K D)
    (hf : findIn K (.ref D) name = some (some (.ref f))) (ht : isFn K (.ref f) = true) (hl : getF name fs = none) (h : Q (.ref f, [.ref x]) s) : wpAny (model prog w) A (getMethod (.ref x) name pl) Q E s := by
  obtain ⟨es, a, b⟩ := i
  exact gm_ins B F a c hf ht (by rw [b.get, hl]) h
theorem isi_f {x D C : Addr} {fs : List (Str × Value)} {b : Bool} {Q : Value → Shared → Prop} (B : Bs w K H mg mb) (F : Fm H wr G₀ h₀ L G mu s.heap m) (i : InsF w.params G x D fs) (c : Cls K D) (e : kitOne K (.ref D) (.ref C) = some b)
    (h : ∀ tk, Q (.bool b) { s with toks := tk }) : wpAny (model prog w) A (call (.builtin "isinstance") [.ref x, .ref C]) Q E s := by
  obtain ⟨es, a, _⟩ := i
  exact isi_ins B F a c e h
theorem isi2_f {x D tp : Addr} {fs : List (Str × Value)} {its : List Value} {b : Bool} {Q : Value → Shared → Prop} (B : Bs w K H mg mb) (F : Fm H wr G₀ h₀ L G mu s.heap m) (i : InsF w.params G x D fs) (c : Cls K D)
    (ht : G tp = some ⟨.type "tuple", none, .seq its.toArray 0, #[]⟩) (e : kitAny K (.ref D) its = some b)
    (h : ∀ tk, Q (.bool b) { s with toks := tk }) : wpAny (model prog w) A (call (.builtin "isinstance") [.ref x, .ref tp]) Q E s := by
  obtain ⟨es, a, _⟩ := i
  exact isi_two B F a c ht e h
noncomputable def InitC (w : World) (H : Heap) (C fI : Addr) (vals : List Value) (fs : List (Str × Value)) (n : Nat) : Prop :=
  ∀ (A : Around) (s : Shared) (G : Gr) (R : Result → Shared → Prop) (x dx : Addr), Room A n → HLe H G → GIn G s.heap → G x = some (instObj C dx) → s.heap.get? dx = some (dictOf [] 0) → G dx = none →
    (∀ h' G' tk' es' n', Went [dx] G s.heap G' h' → h'.get? dx = some (dictOf es' n') → Ents w.params fs es' → R (.ok (.ret .none)) { s with heap := h', toks := tk' }) →
    codeAny (model pw w) A (.call (.ref fI) ⟨.ref x :: vals, []⟩) R s
theorem mk_of {C fI : Addr} {vals : List Value} {fs : List (Str × Value)} {n : Nat} {Q : Value → Shared → Prop} (B : Bs w K H mg mb) (rm : Room A (n + 1)) (hH : HLe H G) (hG : GIn G s.heap) (k : Mk K C fI) (i : InitC w H C fI vals fs n)
    (h : ∀ x G' h' tk', Went [] G s.heap G' h' → InsF w.params G' x C fs → Q (.ref x) { s with heap := h', toks := tk' }) : wpAny (model pw w) A (call (.ref C) vals) Q E s := by
  refine mk_ins B hH hG k fun x dx h₁ G₁ nd sub inn gx hd gd kp nw => i _ _ _ _ x dx rm.make (fun b o e => sub b o (hH b o e)) inn gx hd gd fun h' G' tk' es' n' W he' hE => ?_
  refine ⟨rfl, h x (GAdd G' dx (dictOf es' n')) h' tk' ?_ ⟨es', ⟨dx, n', ?_, GAdd.self⟩, hE⟩⟩
  · have gd' : G' dx = none := by
      cases e : G' dx with
      | none => rfl
      | some o =>
        rcases W.new _ _ e with q | q
        · rw [gd] at q; cases q
        · rw [hd] at q; cases q
    refine ⟨(sub.trans W.sub).trans (GAdd.le gd'), ?_, ?_, ?_, ?_⟩
    · intro b o e
      by_cases q : b = dx
      · subst q; rw [GAdd.self] at e; cases e; exact he'
      · rw [GAdd.ne q] at e; exact W.inn b o e
    · intro b o e
      by_cases q : b = dx
      · exact .inr (q ▸ nd)
      · rw [GAdd.ne q] at e
        rcases W.new b o e with e | e
        · exact nw b o e
        · right
          cases z : s.heap.get? b with
          | none => rfl
          | some o' => rw [kp _ _ z] at e; cases e
    · intro b o _ e
      exact W.rest b o (by simp only [List.mem_singleton]; intro q; rw [q, nd] at e; cases e) (kp b o e)
    · intro b o e
      exact W.live b o (kp b o e)
  · have := W.sub _ _ gx
    rw [GAdd.ne (fun q => by rw [q] at gx; rw [gd] at gx; cases gx)]; exact this
end
local macro_rules | `(tactic| walk_at "setAttr ref") => `(tactic| (with_unfolding_all refine sa_f (by assumption) (by assumption) (by assumption) (by assumption) (by first | exact List.Mem.head _ | simp [setMu]) (by assumption) (by first | assumption | exact KOk.at (by assumption)) (by first | assumption | decide | exact Nat.le_of_ble_eq_true (by rfl) | exact Nat.le_of_ble_eq_true (by kernel_rfl)) (by first | exact .inl (by simp) | exact .inr (by assumption)) ?_; intro hS tS eS nS heS FS; (try simp only [setMu_head, setMu_nil] at FS)))
theorem rg1 : True := by
  k_with "eval Name" => (first | (with_unfolding_all refine nm_local (by assumption) (by first | rfl | assumption) ?_) | (with_unfolding_all refine nm_glob (by assumption) (by assumption) (KOk.gl (by assumption)) ?_) | (with_unfolding_all refine nm_blt (by assumption) (by assumption) (KOk.bl (by assumption)) (by boot_by_name) (by decide) ?_))
  k_with "storeName" => ((with_unfolding_all refine st_local (by assumption) ?_; intro hS' FS'))
  k_with "callWith ref" => (first | (with_unfolding_all refine cw_fn (by assumption) (KOk.kpr (by assumption)) ?_) | (with_unfolding_all refine cw_fn (by assumption) (KOk.cl (by assumption)) ?_) | (with_unfolding_all refine cw_fn0 (by assumption) (by assumption) (KOk.kpr (by assumption)) ?_) | (with_unfolding_all refine cw_fn0 (by assumption) (by assumption) (KOk.cl (by assumption)) ?_))
  k_with "And" => (((with_reducible show Frag.In _ _ ∧ _); refine ⟨kin_h (by assumption) (by assumption), ?_⟩; try dsimp only [List.nil_append, List.cons_append]))
  k_with "exec Assign" => ((with_reducible refine plainObj_wpAny_Assign_Attribute ?_ ?_; rotate_left; with_unfolding_all rfl))
  k_with "ktn_open" => (((try dsimp only); repeat' (first | ((fail_if_success (with_reducible show wpAny _ _ _ _ _ _)); (rename Hid _ _ => hidq9); (with_reducible refine hidq9 _ _ ?_); clear hidq9; try dsimp only) | ((with_reducible show wpAny _ _ _ _ _ _); (fail_if_success goal_lacks CompEnd ForEnd); refine wp_hide ?_; intro RQ' hRQ') | walk1 | (dsimp only; walk1))))
  k_with "lcg_src" => (first | (with_reducible assumption) | ((try simp only [List.reverse_cons, List.reverse_nil, List.nil_append, List.cons_append]); (repeat (first | (with_reducible refine up_miss (by kernel_rfl!) ?_) | (with_reducible refine lk_miss (by kernel_rfl!) ?_))); first | (with_reducible exact up_hit) | (with_reducible exact lk_hit) | (with_reducible assumption)) | (with_unfolding_all rfl) | (with_unfolding_all assumption))
  k_with "kas_types" => (with_reducible first | exact g_tuple_name (by assumption) | exact g_is_tuple_name (by assumption) | exact g_spread (by assumption) | exact g_looked_at (by assumption) | exact g_has_plain_row (by assumption) | exact g_built (by assumption) | exact g_lines_of (by assumption) | exact g_with_con (by assumption) | exact g_with_any (by assumption) | exact g_heads_of (by assumption) | exact g_unmatched (by assumption) | exact g_useless (by assumption) | exact g_law_trough (by assumption) | exact g_law_ladle (by assumption) | exact g_law_cons (by assumption) | exact g_law_wild (by assumption) | exact g_law_asking (by assumption) | exact g_law_row (by assumption) | exact g_law_asked (by assumption) | exact g_law_takes_all (by assumption) | exact g_law_due (by assumption) | exact g_law_word (by assumption) | exact g_law_words (by assumption) | exact g_law_useless (by assumption) | exact g_law (by assumption) | exact g_Node (by assumption) | exact g_PVar (by assumption) | exact g_PWild (by assumption) | exact g_PLit (by assumption) | exact g_PCon (by assumption) | exact g_PTuple (by assumption) | exact g_PList (by assumption) | exact g_PAs (by assumption) | exact g_PLazy (by assumption) | exact g_PBang (by assumption) | exact g_Constructors (by assumption) | exact g_Watcher (by assumption) | exact g_ConInfo (by assumption))
  k_with "lcg_off" => (with_reducible first | exact b_len (by assumption) | exact b_isinstance (by assumption) | exact b_any (by assumption) | exact b_all (by assumption) | exact b_list (by assumption) | exact b_range (by assumption) | exact b_sorted (by assumption) | exact b_tuple (by assumption) | exact b_enumerate (by assumption) | exact b_int (by assumption))
  k_with "keq_rows" => (with_reducible first | refine nm_localK (by kernel_rfl!) (by assumption) (by with_unfolding_all rfl) (by k_extra "lcg_src") ?_ | refine nm_bltE (by k_extra "lcg_off") (by with_unfolding_all boot_by_name) (by kernel_rfl!) (by assumption) (by assumption) (by with_unfolding_all rfl) ?_ | refine nm_globE (by k_extra "kas_types") (by kernel_rfl!) (by assumption) (by assumption) (by with_unfolding_all rfl) ?_ | refine nm_globK (by kernel_rfl!) (by assumption) (by assumption) (by with_unfolding_all rfl) (by assumption) ?_)
  k_with "eval Name" => (k_extra "keq_rows")
  k_with "ite" => ((k_closed; first | refine ite_pos (by decide +kernel) ?_ | refine ite_neg (by decide +kernel) ?_))
  k_with "lcg_sub" => (first | (with_reducible refine cw_fn (by with_reducible assumption) (by first | exact KOk.kpr (by with_reducible assumption) (by kernel_rfl!) | exact KOk.cl (by with_reducible assumption) (by kernel_rfl!)) ?_ (by kernel_rfl!) (by kernel_rfl!)) | (with_reducible refine cw_fn0 (by with_reducible assumption) (by with_reducible assumption) (by first | exact KOk.kpr (by with_reducible assumption) (by kernel_rfl!) | exact KOk.cl (by with_reducible assumption) (by kernel_rfl!)) ?_))
  k_with "callWith ref" => (k_extra "lcg_sub")
  k_with "keq_hits" => (first | ((with_reducible show wpAny _ _ (callWith _ (Value.builtin _) [] (backTo _ (starEach (_ :: _) _)) []) _ _ _); with_reducible refine callWith_builtin1 ?_ (by kernel_rfl!) (by kernel_rfl!)) | ((with_reducible show wpAny _ _ (callWith _ (Value.builtin _) (_ :: _) (backTo _ (starEach (_ :: _) _)) []) _ _ _); with_reducible refine callWith_method1 ?_ (by kernel_rfl!) (by kernel_rfl!)))
  k_with "callWith" => (k_extra "keq_hits")
  k_with "kargs" => (with_reducible first | ((show ArgK _ _ _ _ [] _ _); exact ArgK.nil) | ((show ArgK _ _ _ _ (Expr.Name _ _ :: _) _ _); first | exact ArgK.loc (by kernel_rfl!) (by k_extra "lcg_src") (by k_extra "kargs") | exact ArgK.glb (by kernel_rfl!) (by first | k_extra "kas_types" | assumption) (by k_extra "kargs")) | ((show ArgK _ _ _ _ (Expr.Constant (Const.int _) _ _ :: _) _ _); exact ArgK.int (by k_extra "kargs")) | ((show ArgK _ _ _ _ (Expr.Constant (Const.str _) _ _ :: _) _ _); exact ArgK.str (by k_extra "kargs")) | ((show ArgK _ _ _ _ (Expr.Constant Const.none _ _ :: _) _ _); exact ArgK.none (by k_extra "kargs")))
  k_with "eval Call" => (((with_reducible show wpAny _ _ (eval (Expr.Call (Expr.Name _ _) _ [] _) _) _ _ _); first | (with_reducible refine call_bltK (by k_extra "lcg_off") (by with_unfolding_all boot_by_name) (by kernel_rfl!) (by with_reducible assumption) (by with_reducible assumption) (by with_unfolding_all rfl) (by k_extra "kargs") ?_) | (with_reducible refine call_typK (by k_extra "lcg_off") (by with_unfolding_all boot_by_name) (by kernel_rfl!) (by with_reducible assumption) (by with_reducible assumption) (by with_unfolding_all rfl) (by k_extra "kargs") ?_) | (with_reducible refine call_fnK (by k_extra "kas_types") (by kernel_rfl!) (by first | exact KOk.kpr (by with_reducible assumption) (by kernel_rfl!) | exact KOk.cl (by with_reducible assumption) (by kernel_rfl!)) (by with_reducible assumption) (by with_reducible assumption) (by with_unfolding_all rfl) (by k_extra "kargs") ?_)))
  k_with "execs cons" => ((refine wpAny_execs_cons ?_; refine wp_hide ?_; intro RQ' hRQ'))
  trivial
section
section
variable {w : World} {K : Frag} {H : Heap} {mg mb : Str → Option Value} {A : Around} {E : Value → Shared → Prop} {s : Shared} {G : Gr}
set_option maxHeartbeats 1000000 in
theorem node_init {x dx D : Addr} {fs : List (Str × Value)} {es : List DictEntry} {n : Nat} {pl : Value} {Q : Value → Shared → Prop} (B : Bs w K H mg mb) (k : KOk K) (rm : Room A 1) (hH : HLe H G) (hG : GIn G s.heap) (c : Cls K D) (hn : findIn K (.ref D) "place" = some none)
    (hx : G x = some (instObj D dx)) (hd : s.heap.get? dx = some (dictOf es n)) (hg : G dx = none) (he : Ents w.params fs es) (hz : fs.length ≤ 900)
    (h : ∀ h' tk' es' n', Went [dx] G s.heap G h' → h'.get? dx = some (dictOf es' n') → Ents w.params (putF "place" pl fs) es' → Q .none { s with heap := h', toks := tk' }) :
    wpAny (model pw w) A (call (.ref 33) [.ref x, pl]) Q E s := dis (by
  simp (disch := k_dflt (
    refine dis ?_
    have hf := k.f33
    obtain ⟨t, e⟩ : ∃ t, t = clsFd 2 0 := ⟨_, rfl⟩
    rw [← e] at hf
    conv at e => (rhs; whnf)
    subst e
    refine wpAny_call (code_fn (binds := [("self", .ref x), ("place", pl)]) [dx] [(dx, dictOf es n)] B hf hH hG rm.depth (by simp [hd, hg]) (fun _ _ _ _ _ _ => BindsTo.of_eq (by rfl)) (by rfl) (by rfl) ?_)
    clear hf
    intro L h₁ cdv nL F
    k_extra "ktn_open"
    rename_i h' tk es' n' hE F'
    exact h h' _ es' n' (F'.done nL) (by simpa [setMu] using (F'.mus (dx, dictOf es' n') (by simp [setMu])).1) hE)) only [↓und])
end
end
theorem fl8 {M : Model} {A : Around} {E : Value → Shared → Prop} {s : Shared} {env : Env} {Q : Flow → Shared → Prop} (h : Q .next s) : wpAny M A (execs [] env) Q E s := by
  w_top off
  walk1
  exact h
section
theorem Fm.mu {H : Heap} {wr : List Addr} {G₀ G : Gr} {h₀ h : Heap} {L : Addr} {mu : List (Addr × Obj)} {m : Str → Option Value} {a : Addr} {o : Obj} (F : Fm H wr G₀ h₀ L G mu h m) (hm : (a, o) ∈ mu) : h.get? a = some o ∧ a ≠ L ∧ G a = none := F.mus _ hm
theorem rgoW21 : True := by
  k_with "call ref" => (((with_reducible show wpAny _ _ (call (Value.ref 33) _) _ _ _); (rename Fm _ _ _ _ _ _ _ _ _ => FF'); refine node_init (by assumption) (by assumption) (Room.deeper (by assumption)) (Fm.top FF') (Fm.inn FF') (by assumption) (KOk.at (by assumption)) (by assumption) (Fm.mu FF' (by exact List.Mem.head _)).1 (Fm.mu FF' (by exact List.Mem.head _)).2.2 (by assumption) (by decide) ?_; intro hS' tS' eS' nS' WS' hdS' heS'; (have FS' := Fm.callW FF' WS' (by exact List.Mem.head _) hdS' (Or.inl (by simp))); clear FF'; (try simp only [setMu_head, setMu_nil] at FS')))
  trivial
theorem rgpW22 : True := by
  k_with "getMethod ref" => ((fail_if_success (k_extra "off:W2")); k_extra "W2:getMethod ref")
  trivial
theorem rgoW22 : True := by
  k_with "W2:getMethod ref" => (((with_reducible show wpAny _ _ (getMethod (Value.ref 43) _ _) _ _ _); with_unfolding_all refine ga_cls (by assumption) (by assumption) (by assumption) ?_))
  trivial
section
variable {w : World} {K : Frag} {H : Heap} {mg mb : Str → Option Value} {A : Around} {E : Value → Shared → Prop} {s : Shared} {G : Gr}
set_option maxHeartbeats 2000000 in
theorem init_PVar {v_name v_place : Value} (B : Bs w K H mg mb) (k : KOk K) : InitC w H 72 62 [v_name, v_place] [("place", v_place), ("name", v_name)] 2 := dis (by
  simp (disch := k_dflt (
    refine dis ?_
    intro A s G R x dx rm hH hG hx hd hg h
    have hf := k.f62
    have c := k.c72
    obtain ⟨t, e⟩ : ∃ t, t = clsFd 4 0 := ⟨_, rfl⟩
    rw [← e] at hf
    conv at e => (rhs; whnf)
    subst e
    refine code_fn (binds := [("self", .ref x), ("name", v_name), ("place", v_place)]) [dx] [(dx, dictOf [] 0)] B hf hH hG rm.depth (by simp [hd, hg]) ((fun _ _ _ _ _ _ => by obtain ⟨o, n, h1, _, h2⟩ := k.df (T := 55); exact binds_K (B.kin.keeps fun b o e => hG b o (hH b o e)) (by rfl) h1 h2 (by rfl) (by rfl))) (by rfl) (by rfl) ?_
    clear hf
    have he : Ents w.params [] [] := trivial
    intro L h₁ cdv nL F
    k_extra "ktn_open"
    exact h _ _ _ _ _ (Fm.done (by assumption) nL) (Fm.mu (by assumption) (by exact List.Mem.head _)).1 (Ents.cast (by assumption) (by kernel_rfl)))) only [↓und])
theorem mk_PVar {v_name v_place : Value} {Q : Value → Shared → Prop} (B : Bs w K H mg mb) (k : KOk K) (rm : Room A 3) (hH : HLe H G) (hG : GIn G s.heap)
    (h : ∀ x G' h' tk', Went [] G s.heap G' h' → InsF w.params G' x 72 [("place", v_place), ("name", v_name)] → Q (.ref x) { s with heap := h', toks := tk' }) :
    wpAny (model pw w) A (call (.ref 72) [v_name, v_place]) Q E s := mk_of B rm hH hG k.m72 (init_PVar B k) h
set_option maxHeartbeats 2000000 in
theorem init_PWild {v_place : Value} (B : Bs w K H mg mb) (k : KOk K) : InitC w H 99 89 [v_place] [("place", v_place)] 2 := dis (by
  simp (disch := k_dflt (
    refine dis ?_
    intro A s G R x dx rm hH hG hx hd hg h
    have hf := k.f89
    have c := k.c99
    obtain ⟨t, e⟩ : ∃ t, t = clsFd 5 0 := ⟨_, rfl⟩
    rw [← e] at hf
    conv at e => (rhs; whnf)
    subst e
    refine code_fn (binds := [("self", .ref x), ("place", v_place)]) [dx] [(dx, dictOf [] 0)] B hf hH hG rm.depth (by simp [hd, hg]) ((fun _ _ _ _ _ _ => by obtain ⟨o, n, h1, _, h2⟩ := k.df (T := 82); exact binds_K (B.kin.keeps fun b o e => hG b o (hH b o e)) (by rfl) h1 h2 (by rfl) (by rfl))) (by rfl) (by rfl) ?_
    clear hf
    have he : Ents w.params [] [] := trivial
    intro L h₁ cdv nL F
    k_extra "ktn_open"
    exact h _ _ _ _ _ (Fm.done (by assumption) nL) (Fm.mu (by assumption) (by exact List.Mem.head _)).1 (Ents.cast (by assumption) (by kernel_rfl)))) only [↓und])
theorem mk_PWild {v_place : Value} {Q : Value → Shared → Prop} (B : Bs w K H mg mb) (k : KOk K) (rm : Room A 3) (hH : HLe H G) (hG : GIn G s.heap)
    (h : ∀ x G' h' tk', Went [] G s.heap G' h' → InsF w.params G' x 99 [("place", v_place)] → Q (.ref x) { s with heap := h', toks := tk' }) :
    wpAny (model pw w) A (call (.ref 99) [v_place]) Q E s := mk_of B rm hH hG k.m99 (init_PWild B k) h
set_option maxHeartbeats 2000000 in
theorem init_PCon {v_name v_args v_place : Value} (B : Bs w K H mg mb) (k : KOk K) : InitC w H 153 143 [v_name, v_args, v_place] [("place", v_place), ("name", v_name), ("args", v_args)] 2 := dis (by
  simp (disch := k_dflt (
    refine dis ?_
    intro A s G R x dx rm hH hG hx hd hg h
    have hf := k.f143
    have c := k.c153
    obtain ⟨t, e⟩ : ∃ t, t = clsFd 7 0 := ⟨_, rfl⟩
    rw [← e] at hf
    conv at e => (rhs; whnf)
    subst e
    refine code_fn (binds := [("self", .ref x), ("name", v_name), ("args", v_args), ("place", v_place)]) [dx] [(dx, dictOf [] 0)] B hf hH hG rm.depth (by simp [hd, hg]) ((fun _ _ _ _ _ _ => by obtain ⟨o, n, h1, _, h2⟩ := k.df (T := 136); exact binds_K (B.kin.keeps fun b o e => hG b o (hH b o e)) (by rfl) h1 h2 (by rfl) (by rfl))) (by rfl) (by rfl) ?_
    clear hf
    have he : Ents w.params [] [] := trivial
    intro L h₁ cdv nL F
    k_extra "ktn_open"
    exact h _ _ _ _ _ (Fm.done (by assumption) nL) (Fm.mu (by assumption) (by exact List.Mem.head _)).1 (Ents.cast (by assumption) (by kernel_rfl)))) only [↓und])
theorem mk_PCon {v_name v_args v_place : Value} {Q : Value → Shared → Prop} (B : Bs w K H mg mb) (k : KOk K) (rm : Room A 3) (hH : HLe H G) (hG : GIn G s.heap)
    (h : ∀ x G' h' tk', Went [] G s.heap G' h' → InsF w.params G' x 153 [("place", v_place), ("name", v_name), ("args", v_args)] → Q (.ref x) { s with heap := h', toks := tk' }) :
    wpAny (model pw w) A (call (.ref 153) [v_name, v_args, v_place]) Q E s := mk_of B rm hH hG k.m153 (init_PCon B k) h
set_option maxHeartbeats 2000000 in
theorem init_PTuple {v_items v_place : Value} (B : Bs w K H mg mb) (k : KOk K) : InitC w H 180 170 [v_items, v_place] [("place", v_place), ("items", v_items)] 2 := dis (by
  simp (disch := k_dflt (
    refine dis ?_
    intro A s G R x dx rm hH hG hx hd hg h
    have hf := k.f170
    have c := k.c180
    obtain ⟨t, e⟩ : ∃ t, t = clsFd 8 0 := ⟨_, rfl⟩
    rw [← e] at hf
    conv at e => (rhs; whnf)
    subst e
    refine code_fn (binds := [("self", .ref x), ("items", v_items), ("place", v_place)]) [dx] [(dx, dictOf [] 0)] B hf hH hG rm.depth (by simp [hd, hg]) ((fun _ _ _ _ _ _ => by obtain ⟨o, n, h1, _, h2⟩ := k.df (T := 163); exact binds_K (B.kin.keeps fun b o e => hG b o (hH b o e)) (by rfl) h1 h2 (by rfl) (by rfl))) (by rfl) (by rfl) ?_
    clear hf
    have he : Ents w.params [] [] := trivial
    intro L h₁ cdv nL F
    k_extra "ktn_open"
    exact h _ _ _ _ _ (Fm.done (by assumption) nL) (Fm.mu (by assumption) (by exact List.Mem.head _)).1 (Ents.cast (by assumption) (by kernel_rfl)))) only [↓und])
theorem mk_PTuple {v_items v_place : Value} {Q : Value → Shared → Prop} (B : Bs w K H mg mb) (k : KOk K) (rm : Room A 3) (hH : HLe H G) (hG : GIn G s.heap)
    (h : ∀ x G' h' tk', Went [] G s.heap G' h' → InsF w.params G' x 180 [("place", v_place), ("items", v_items)] → Q (.ref x) { s with heap := h', toks := tk' }) :
    wpAny (model pw w) A (call (.ref 180) [v_items, v_place]) Q E s := mk_of B rm hH hG k.m180 (init_PTuple B k) h
set_option maxHeartbeats 2000000 in
theorem init_PAs {v_name v_pattern v_place : Value} (B : Bs w K H mg mb) (k : KOk K) : InitC w H 234 224 [v_name, v_pattern, v_place] [("place", v_place), ("name", v_name), ("pattern", v_pattern)] 2 := dis (by
  simp (disch := k_dflt (
    refine dis ?_
    intro A s G R x dx rm hH hG hx hd hg h
    have hf := k.f224
    have c := k.c234
    obtain ⟨t, e⟩ : ∃ t, t = clsFd 10 0 := ⟨_, rfl⟩
    rw [← e] at hf
    conv at e => (rhs; whnf)
    subst e
    refine code_fn (binds := [("self", .ref x), ("name", v_name), ("pattern", v_pattern), ("place", v_place)]) [dx] [(dx, dictOf [] 0)] B hf hH hG rm.depth (by simp [hd, hg]) ((fun _ _ _ _ _ _ => by obtain ⟨o, n, h1, _, h2⟩ := k.df (T := 217); exact binds_K (B.kin.keeps fun b o e => hG b o (hH b o e)) (by rfl) h1 h2 (by rfl) (by rfl))) (by rfl) (by rfl) ?_
    clear hf
    have he : Ents w.params [] [] := trivial
    intro L h₁ cdv nL F
    k_extra "ktn_open"
    exact h _ _ _ _ _ (Fm.done (by assumption) nL) (Fm.mu (by assumption) (by exact List.Mem.head _)).1 (Ents.cast (by assumption) (by kernel_rfl)))) only [↓und])
theorem mk_PAs {v_name v_pattern v_place : Value} {Q : Value → Shared → Prop} (B : Bs w K H mg mb) (k : KOk K) (rm : Room A 3) (hH : HLe H G) (hG : GIn G s.heap)
    (h : ∀ x G' h' tk', Went [] G s.heap G' h' → InsF w.params G' x 234 [("place", v_place), ("name", v_name), ("pattern", v_pattern)] → Q (.ref x) { s with heap := h', toks := tk' }) :
    wpAny (model pw w) A (call (.ref 234) [v_name, v_pattern, v_place]) Q E s := mk_of B rm hH hG k.m234 (init_PAs B k) h
set_option maxHeartbeats 2000000 in
theorem init_PLazy {v_pattern v_place : Value} (B : Bs w K H mg mb) (k : KOk K) : InitC w H 261 251 [v_pattern, v_place] [("place", v_place), ("pattern", v_pattern)] 2 := dis (by
  simp (disch := k_dflt (
    refine dis ?_
    intro A s G R x dx rm hH hG hx hd hg h
    have hf := k.f251
    have c := k.c261
    obtain ⟨t, e⟩ : ∃ t, t = clsFd 11 0 := ⟨_, rfl⟩
    rw [← e] at hf
    conv at e => (rhs; whnf)
    subst e
    refine code_fn (binds := [("self", .ref x), ("pattern", v_pattern), ("place", v_place)]) [dx] [(dx, dictOf [] 0)] B hf hH hG rm.depth (by simp [hd, hg]) ((fun _ _ _ _ _ _ => by obtain ⟨o, n, h1, _, h2⟩ := k.df (T := 244); exact binds_K (B.kin.keeps fun b o e => hG b o (hH b o e)) (by rfl) h1 h2 (by rfl) (by rfl))) (by rfl) (by rfl) ?_
    clear hf
    have he : Ents w.params [] [] := trivial
    intro L h₁ cdv nL F
    k_extra "ktn_open"
    exact h _ _ _ _ _ (Fm.done (by assumption) nL) (Fm.mu (by assumption) (by exact List.Mem.head _)).1 (Ents.cast (by assumption) (by kernel_rfl)))) only [↓und])
theorem mk_PLazy {v_pattern v_place : Value} {Q : Value → Shared → Prop} (B : Bs w K H mg mb) (k : KOk K) (rm : Room A 3) (hH : HLe H G) (hG : GIn G s.heap)
    (h : ∀ x G' h' tk', Went [] G s.heap G' h' → InsF w.params G' x 261 [("place", v_place), ("pattern", v_pattern)] → Q (.ref x) { s with heap := h', toks := tk' }) :
    wpAny (model pw w) A (call (.ref 261) [v_pattern, v_place]) Q E s := mk_of B rm hH hG k.m261 (init_PLazy B k) h
set_option maxHeartbeats 2000000 in
theorem init_PBang {v_pattern v_place : Value} (B : Bs w K H mg mb) (k : KOk K) : InitC w H 288 278 [v_pattern, v_place] [("place", v_place), ("pattern", v_pattern)] 2 := dis (by
  simp (disch := k_dflt (
    refine dis ?_
    intro A s G R x dx rm hH hG hx hd hg h
    have hf := k.f278
    have c := k.c288
    obtain ⟨t, e⟩ : ∃ t, t = clsFd 12 0 := ⟨_, rfl⟩
    rw [← e] at hf
    conv at e => (rhs; whnf)
    subst e
    refine code_fn (binds := [("self", .ref x), ("pattern", v_pattern), ("place", v_place)]) [dx] [(dx, dictOf [] 0)] B hf hH hG rm.depth (by simp [hd, hg]) ((fun _ _ _ _ _ _ => by obtain ⟨o, n, h1, _, h2⟩ := k.df (T := 271); exact binds_K (B.kin.keeps fun b o e => hG b o (hH b o e)) (by rfl) h1 h2 (by rfl) (by rfl))) (by rfl) (by rfl) ?_
    clear hf
    have he : Ents w.params [] [] := trivial
    intro L h₁ cdv nL F
    k_extra "ktn_open"
    exact h _ _ _ _ _ (Fm.done (by assumption) nL) (Fm.mu (by assumption) (by exact List.Mem.head _)).1 (Ents.cast (by assumption) (by kernel_rfl)))) only [↓und])
theorem mk_PBang {v_pattern v_place : Value} {Q : Value → Shared → Prop} (B : Bs w K H mg mb) (k : KOk K) (rm : Room A 3) (hH : HLe H G) (hG : GIn G s.heap)
    (h : ∀ x G' h' tk', Went [] G s.heap G' h' → InsF w.params G' x 288 [("place", v_place), ("pattern", v_pattern)] → Q (.ref x) { s with heap := h', toks := tk' }) :
    wpAny (model pw w) A (call (.ref 288) [v_pattern, v_place]) Q E s := mk_of B rm hH hG k.m288 (init_PBang B k) h
set_option maxHeartbeats 2000000 in
theorem init_Constructors {v_cons : Value} (B : Bs w K H mg mb) (k : KOk K) : InitC w H 362 340 [v_cons] [("cons", v_cons)] 2 := dis (by
  simp (disch := k_dflt (
    refine dis ?_
    intro A s G R x dx rm hH hG hx hd hg h
    have hf := k.f340
    have c := k.c362
    obtain ⟨t, e⟩ : ∃ t, t = clsFd 23 0 := ⟨_, rfl⟩
    rw [← e] at hf
    conv at e => (rhs; whnf)
    subst e
    refine code_fn (binds := [("self", .ref x), ("cons", v_cons)]) [dx] [(dx, dictOf [] 0)] B hf hH hG rm.depth (by simp [hd, hg]) ((fun _ _ _ _ _ _ => BindsTo.of_eq (by rfl))) (by rfl) (by rfl) ?_
    clear hf
    have he : Ents w.params [] [] := trivial
    intro L h₁ cdv nL F
    k_extra "ktn_open"
    exact h _ _ _ _ _ (Fm.done (by assumption) nL) (Fm.mu (by assumption) (by exact List.Mem.head _)).1 (Ents.cast (by assumption) (by kernel_rfl)))) only [↓und])
theorem mk_Constructors {v_cons : Value} {Q : Value → Shared → Prop} (B : Bs w K H mg mb) (k : KOk K) (rm : Room A 3) (hH : HLe H G) (hG : GIn G s.heap)
    (h : ∀ x G' h' tk', Went [] G s.heap G' h' → InsF w.params G' x 362 [("cons", v_cons)] → Q (.ref x) { s with heap := h', toks := tk' }) :
    wpAny (model pw w) A (call (.ref 362) [v_cons]) Q E s := mk_of B rm hH hG k.m362 (init_Constructors B k) h
set_option maxHeartbeats 2000000 in
theorem init_Watcher {v_known : Value} (B : Bs w K H mg mb) (k : KOk K) : InitC w H 474 438 [v_known] [("known", v_known)] 2 := dis (by
  simp (disch := k_dflt (
    refine dis ?_
    intro A s G R x dx rm hH hG hx hd hg h
    have hf := k.f438
    have c := k.c474
    obtain ⟨t, e⟩ : ∃ t, t = clsFd 36 0 := ⟨_, rfl⟩
    rw [← e] at hf
    conv at e => (rhs; whnf)
    subst e
    refine code_fn (binds := [("self", .ref x), ("known", v_known)]) [dx] [(dx, dictOf [] 0)] B hf hH hG rm.depth (by simp [hd, hg]) ((fun _ _ _ _ _ _ => BindsTo.of_eq (by rfl))) (by rfl) (by rfl) ?_
    clear hf
    have he : Ents w.params [] [] := trivial
    intro L h₁ cdv nL F
    k_extra "ktn_open"
    exact h _ _ _ _ _ (Fm.done (by assumption) nL) (Fm.mu (by assumption) (by exact List.Mem.head _)).1 (Ents.cast (by assumption) (by kernel_rfl)))) only [↓und])
theorem mk_Watcher {v_known : Value} {Q : Value → Shared → Prop} (B : Bs w K H mg mb) (k : KOk K) (rm : Room A 3) (hH : HLe H G) (hG : GIn G s.heap)
    (h : ∀ x G' h' tk', Went [] G s.heap G' h' → InsF w.params G' x 474 [("known", v_known)] → Q (.ref x) { s with heap := h', toks := tk' }) :
    wpAny (model pw w) A (call (.ref 474) [v_known]) Q E s := mk_of B rm hH hG k.m474 (init_Watcher B k) h
set_option maxHeartbeats 2000000 in
theorem init_ConInfo {v_name v_tag v_arity v_stricts v_type_name v_scheme v_siblings v_is_newtype : Value} (B : Bs w K H mg mb) (k : KOk K) : InitC w H 507 504 [v_name, v_tag, v_arity, v_stricts, v_type_name, v_scheme, v_siblings, v_is_newtype] [("name", v_name), ("tag", v_tag), ("arity", v_arity), ("stricts", v_stricts), ("type_name", v_type_name), ("scheme", v_scheme), ("siblings", v_siblings), ("is_newtype", v_is_newtype)] 2 := dis (by
  simp (disch := k_dflt (
    refine dis ?_
    intro A s G R x dx rm hH hG hx hd hg h
    have hf := k.f504
    have c := k.c507
    obtain ⟨t, e⟩ : ∃ t, t = clsFd 40 0 := ⟨_, rfl⟩
    rw [← e] at hf
    conv at e => (rhs; whnf)
    subst e
    refine code_fn (binds := [("self", .ref x), ("name", v_name), ("tag", v_tag), ("arity", v_arity), ("stricts", v_stricts), ("type_name", v_type_name), ("scheme", v_scheme), ("siblings", v_siblings), ("is_newtype", v_is_newtype)]) [dx] [(dx, dictOf [] 0)] B hf hH hG rm.depth (by simp [hd, hg]) ((fun _ _ _ _ _ _ => BindsTo.of_eq (by rfl))) (by rfl) (by rfl) ?_
    clear hf
    have he : Ents w.params [] [] := trivial
    intro L h₁ cdv nL F
    k_extra "ktn_open"
    exact h _ _ _ _ _ (Fm.done (by assumption) nL) (Fm.mu (by assumption) (by exact List.Mem.head _)).1 (Ents.cast (by assumption) (by kernel_rfl)))) only [↓und])
theorem mk_ConInfo {v_name v_tag v_arity v_stricts v_type_name v_scheme v_siblings v_is_newtype : Value} {Q : Value → Shared → Prop} (B : Bs w K H mg mb) (k : KOk K) (rm : Room A 3) (hH : HLe H G) (hG : GIn G s.heap)
    (h : ∀ x G' h' tk', Went [] G s.heap G' h' → InsF w.params G' x 507 [("name", v_name), ("tag", v_tag), ("arity", v_arity), ("stricts", v_stricts), ("type_name", v_type_name), ("scheme", v_scheme), ("siblings", v_siblings), ("is_newtype", v_is_newtype)] → Q (.ref x) { s with heap := h', toks := tk' }) :
    wpAny (model pw w) A (call (.ref 507) [v_name, v_tag, v_arity, v_stricts, v_type_name, v_scheme, v_siblings, v_is_newtype]) Q E s := mk_of B rm hH hG k.m507 (init_ConInfo B k) h
end
end
theorem rgeW2 : True := by
  k_with "off:W2" => skip
  trivial
section
section
variable {prog : Program} {w : World} {K : Frag} {H : Heap} {mg mb : Str → Option Value} {A : Around} {E : Value → Shared → Prop} {s : Shared} {G : Gr}
  {wr : List Addr} {G₀ : Gr} {h₀ : Heap} {L : Addr} {mu : List (Addr × Obj)} {m : Str → Option Value}
theorem GAdd.lst {G : Gr} {a : Addr} {vs : List Value} : LstG (GAdd G a { cls := .type "list", data := .seq vs.toArray }) a vs := ⟨_, GAdd.self, rfl, _, rfl⟩
theorem GAdd.tup {G : Gr} {a : Addr} {vs : List Value} : TupG (GAdd G a { cls := .type "tuple", data := .seq vs.toArray }) a vs := ⟨_, GAdd.self, rfl, _, rfl⟩
theorem nt_tup {vs : List Value} {Q : Value → Shared → Prop} (F : Fm H wr G₀ h₀ L G mu s.heap m) (hsz : vs.length ≤ sizeLine)
    (h : ∀ a G' h', GLe G G' → G' a = some ⟨.type "tuple", none, .seq vs.toArray 0, #[]⟩ → Fm H wr G₀ h₀ L G' mu h' m → Q (.ref a) { s with heap := h' }) : wpAny (model prog w) A (newTuple vs) Q E s :=
  wpAny_newObj_type (h _ _ _ (GAdd.le F.Gsize) GAdd.self (F.alloc _)) (by show vs.toArray.size ≤ sizeLine; rw [List.size_toArray]; exact hsz)
theorem nt_lst {vs : List Value} {Q : Value → Shared → Prop} (F : Fm H wr G₀ h₀ L G mu s.heap m) (hsz : vs.length ≤ sizeLine)
    (h : ∀ a G' h', GLe G G' → LstG G' a vs → Fm H wr G₀ h₀ L G' mu h' m → Q (.ref a) { s with heap := h' }) : wpAny (model prog w) A (newList vs) Q E s :=
  wpAny_newObj_type (h _ _ _ (GAdd.le F.Gsize) GAdd.lst (F.alloc _)) (by show vs.toArray.size ≤ sizeLine; rw [List.size_toArray]; exact hsz)
theorem nt_mut {vs : List Value} {Q : Value → Shared → Prop} (F : Fm H wr G₀ h₀ L G mu s.heap m) (hsz : vs.length ≤ sizeLine)
    (h : ∀ a h', h₀.get? a = none → (∀ p ∈ mu, p.1 ≠ a) → Fm H wr G₀ h₀ L G ((a, lstO vs 0) :: mu) h' m → Q (.ref a) { s with heap := h' }) : wpAny (model prog w) A (newList vs) Q E s :=
  wpAny_newObj_type (h _ _ F.h0size F.musize (F.allocMut _)) (by show vs.toArray.size ≤ sizeLine; rw [List.size_toArray]; exact hsz)
theorem sub_lst {value slice : Expr} {l : Addr} {vs : List Value} {k : Int} {u : Tok} {v : Value} {Q : Value → Shared → Prop} (F : Fm H wr G₀ h₀ L G mu s.heap m) (hl : LstG G l vs) (h0 : 0 ≤ k) (hhi : k < 2 ^ 63) (hx : vs[k.toNat]? = some v) (h : Q v s)
    (hs : subscripted slice false (.ref l) (.int k u) = operate [.ref l, .int k u] (getItem (.ref l) (.int k u)) := by with_unfolding_all rfl) :
    wpAny (model prog w) A (subscriptTail value slice (.ref l) (.int k u)) Q E s :=
  have hL := hl.at F.inn
  tail_any hL.typeIs slot_list_getitem.lookup (wpAny_getItem_list hL h0 hhi (by simpa using hx) h) hs
theorem sub_tup {value slice : Expr} {l : Addr} {vs : List Value} {k : Int} {u : Tok} {j : Nat} {v : Value} {Q : Value → Shared → Prop} (F : Fm H wr G₀ h₀ L G mu s.heap m) (hl : TupG G l vs) (hlo : -(2 ^ 63) ≤ k) (hhi : k < 2 ^ 63) (hj : seqIndex? k vs.length = some j) (hx : vs[j]? = some v) (h : Q v s)
    (hs : subscripted slice false (.ref l) (.int k u) = operate [.ref l, .int k u] (getItem (.ref l) (.int k u)) := by with_unfolding_all rfl) :
    wpAny (model prog w) A (subscriptTail value slice (.ref l) (.int k u)) Q E s := item_tupleT (hl.at F.inn) hlo hhi hj hx h hs
theorem sub_slice {value slice : Expr} {l : Addr} {vs : List Value} {vl vu : Value} {lo hi : Option Int} {Q : Value → Shared → Prop}
    (F : Fm H wr G₀ h₀ L G mu s.heap m) (hl : LstG G l vs) (pl : IsPart vl lo) (pu : IsPart vu hi) (hsz : vs.length ≤ sizeLine)
    (h : ∀ a G' h', GLe G G' → LstG G' a (slicePick vs.toArray lo hi none).toList → Fm H wr G₀ h₀ L G' mu h' m → Q (.ref a) { s with heap := h' })
    (hs : subscripted slice false (.ref l) (.ref s.heap.objs.size) = operate [.ref s.heap.objs.size, .ref l] (getItem (.ref l) (.ref s.heap.objs.size)) := by with_unfolding_all rfl)
    (ht : ∀ r, letTemporaryGo value (.ref l) r = pure () := by intro _; with_unfolding_all rfl) :
    wpAny (model prog w) A (subscriptTail value slice (.ref l) (.ref s.heap.objs.size)) Q E { s with heap := s.heap.push { cls := .type "slice", data := .fields #[vl, vu, .none] } } := by
  have hL := hl.at F.inn
  have F1 := F.alloc { cls := .type "slice", data := .fields #[vl, vu, .none] }
  have gl1 : GLe G (GAdd G s.heap.objs.size { cls := .type "slice", data := .fields #[vl, vu, .none] }) := GAdd.le F.Gsize
  refine subscriptTail_ops (Heap.IsList.typeIs (s := { s with heap := s.heap.push { cls := .type "slice", data := .fields #[vl, vu, .none] } }) (hL.push _)) list_getitem_lookup
    (wpAny_getItem_list_slice (hL.push _) (Heap.IsSliceOf.new ..) pl pu .none (by simp) ?_ (by simpa using hsz)) hs ht
  refine h _ _ _ (gl1.trans (GAdd.le F1.Gsize)) ?_ (F1.alloc { cls := .type "list", data := .seq (slicePick vs.toArray lo hi none) })
  exact ⟨_, GAdd.self, rfl, 0, by simp⟩
theorem add_lst {l b : Addr} {vs ws : List Value} {Q : Value → Shared → Prop} (F : Fm H wr G₀ h₀ L G mu s.heap m) (hl : LstG G l vs) (hb : LstG G b ws) (hsz : vs.length + ws.length ≤ sizeLine)
    (h : ∀ a G' h', GLe G G' → LstG G' a (vs ++ ws) → Fm H wr G₀ h₀ L G' mu h' m → Q (.ref a) { s with heap := h' }) :
    wpAny (model prog w) A (binaryOp .Add (.ref l) (.ref b)) Q E s := by
  obtain ⟨⟨cls, dd, data, sl⟩, ho, hc, n, hd⟩ := hl.at F.inn
  obtain ⟨⟨cls2, dd2, data2, sl2⟩, ho2, hc2, n2, hd2⟩ := hb.at F.inn
  simp only at hc hd hc2 hd2
  subst hc hd hc2 hd2
  have e : vs.toArray ++ ws.toArray = (vs ++ ws).toArray := by simp
  refine concat_meets ⟨_, ho, rfl⟩ ⟨_, ho2, rfl⟩ noFill_list_add seq_list_add PySem.F.slot_list_add PySem.F.entry_list_add (PySem.F.args_list_add_2 _ _) (list_addW l b vs.toArray ws.toArray n n2 dd dd2 sl sl2 (by simpa using hsz)) ⟨ho, ho2, ?_⟩
  rw [e]
  exact h _ _ _ (GAdd.le F.Gsize) GAdd.lst (F.alloc _)
theorem list_of {l : Addr} {vs : List Value} {Q : Value → Shared → Prop} (F : Fm H wr G₀ h₀ L G mu s.heap m) (hl : LstG G l vs) (hsz : vs.length ≤ sizeLine)
    (h : ∀ a G' h', GLe G G' → LstG G' a vs → Fm H wr G₀ h₀ L G' mu h' m → Q (.ref a) { s with heap := h' }) : wpAny (model prog w) A (call (.type "list") [.ref l]) Q E s := by
  obtain ⟨o, ho, hc, n, hd⟩ := hl.at F.inn
  refine call_list_seq (hsz := by simpa using hsz) l (.inl rfl) ho hc hd fun h' c' hk hD => ?_
  refine h _ (GAdd G s.heap.objs.size { cls := .type "list", dict := none, data := .seq vs.toArray c', slots := #[] }) h' (GAdd.le F.Gsize) ⟨_, GAdd.self, rfl, _, rfl⟩ (F.call ⟨GAdd.le F.Gsize, ?_, ?_, fun b o _ e => hk b o e, fun b o e => ⟨o, hk b o e⟩⟩)
  · intro b o e
    by_cases q : b = s.heap.objs.size
    · subst q; rw [GAdd.self] at e; cases e; exact hD
    · rw [GAdd.ne q] at e; exact hk _ _ (F.inn b o e)
  · intro b o e
    by_cases q : b = s.heap.objs.size
    · exact .inr (q ▸ none_size _)
    · rw [GAdd.ne q] at e; exact .inl e
theorem eq_nil {l b : Addr} {vs : List Value} {Q : Value → Shared → Prop} (F : Fm H wr G₀ h₀ L G mu s.heap m) (hl : LstG G l vs) (hb : LstG G b []) (hu : A.units < cLine) (h : Q (.bool vs.isEmpty) s) :
    wpAny (model prog w) A (compareOp .Eq (.ref l) (.ref b)) Q E s := by
  cases vs with
  | nil => exact SeqAt.eq_listAt (e := fun _ => true) (hl.at F.inn) (hb.at F.inn) rfl hu (fun j h1 => absurd h1 (by simp)) (by simpa using h)
  | cons v vs => exact SeqAt.eq_list_lengthsAt (hl.at F.inn) (hb.at F.inn) (by simp) hu (by simpa using h)
theorem ne_nil {l b : Addr} {vs : List Value} {Q : Value → Shared → Prop} (F : Fm H wr G₀ h₀ L G mu s.heap m) (hl : LstG G l vs) (hb : LstG G b []) (hu : A.units < cLine) (h : Q (.bool (!vs.isEmpty)) s) :
    wpAny (model prog w) A (compareOp .NotEq (.ref l) (.ref b)) Q E s := by
  cases vs with
  | nil => exact PySem.EqBoolInt.of_rcne (SeqAt.RcNeAt.lists (e := fun _ => true) (hl.at F.inn) (hb.at F.inn) rfl hu (fun j h1 => absurd h1 (by simp))) (by simpa using h)
  | cons v vs => exact PySem.EqBoolInt.of_rcne (SeqAt.RcNeAt.lists_lengths (hl.at F.inn) (hb.at F.inn) (by simp) hu) (by simpa using h)
end
end
section
inductive Nm | F | U | R | G | W | T2
  deriving DecidableEq
noncomputable def Nm.str : Nm → Str
  | .F => "M.F"
  | .U => "M.U"
  | .R => "M.R"
  | .G => "M.G"
  | .W => "M.W"
  | .T2 => "(,)"
theorem Nm.str_inj {a b : Nm} (h : (a.str == b.str) = true) : a = b := by revert h; cases a <;> cases b <;> first | (intro _; rfl) | (intro h; revert h; decide +kernel)
theorem Nm.str_ne {a b : Nm} (h : (a.str == b.str) = false) : a ≠ b := fun e => by rw [e] at h; simp at h
inductive C1 | w | a (n : Nm)
  deriving DecidableEq
inductive Cell | s (c : C1) | p (a b : C1)
  deriving DecidableEq
noncomputable def ConG (P : Params) (G : Gr) (x : Addr) (n : Nm) (vs : List Value) : Prop := ∃ pl tk l, InsF P G x 153 [("place", pl), ("name", .str n.str tk), ("args", .ref l)] ∧ LstG G l vs
theorem ConG.mono {P : Params} {G G' : Gr} {x : Addr} {n : Nm} {vs : List Value} (i : ConG P G x n vs) (s : GLe G G') : ConG P G' x n vs := let ⟨a, b, c, d, e⟩ := i; ⟨a, b, c, d.mono s, e.mono s⟩
noncomputable def TpG (P : Params) (G : Gr) (x : Addr) (vs : List Value) : Prop := ∃ pl l, InsF P G x 180 [("place", pl), ("items", .ref l)] ∧ LstG G l vs
theorem TpG.mono {P : Params} {G G' : Gr} {x : Addr} {vs : List Value} (i : TpG P G x vs) (s : GLe G G') : TpG P G' x vs := let ⟨a, b, c, d⟩ := i; ⟨a, b, c.mono s, d.mono s⟩
inductive Simp (P : Params) (G : Gr) : Value → C1 → Nat → Prop
  | wild {x pl} : InsF P G x 99 [("place", pl)] → Simp P G (.ref x) .w 0
  | var {x pl nm} : InsF P G x 72 [("place", pl), ("name", nm)] → Simp P G (.ref x) .w 0
  | lazy {x pl pt} : InsF P G x 261 [("place", pl), ("pattern", pt)] → Simp P G (.ref x) .w 0
  | con {x n} : n ≠ Nm.T2 → ConG P G x n [] → Simp P G (.ref x) (.a n) 0
  | bang {x pl y c d} : InsF P G x 288 [("place", pl), ("pattern", .ref y)] → Simp P G (.ref y) c d → Simp P G (.ref x) c (d + 1)
  | as {x pl nm y c d} : InsF P G x 234 [("place", pl), ("name", nm), ("pattern", .ref y)] → Simp P G (.ref y) c d → Simp P G (.ref x) c (d + 1)
theorem Simp.mono {P : Params} {G G' : Gr} (s : GLe G G') {v : Value} {c : C1} {d : Nat} (h : Simp P G v c d) : Simp P G' v c d := by
  induction h with
  | wild i => exact .wild (i.mono s)
  | var i => exact .var (i.mono s)
  | lazy i => exact .lazy (i.mono s)
  | con n i => exact .con n (i.mono s)
  | bang i _ ih => exact .bang (i.mono s) ih
  | as i _ ih => exact .as (i.mono s) ih
inductive Cel (P : Params) (G : Gr) : Value → Cell → Prop
  | simp {v c d} : Simp P G v c d → Cel P G v (.s c)
  | con {x v0 v1 c0 c1 d0 d1} : ConG P G x .T2 [v0, v1] → Simp P G v0 c0 d0 → Simp P G v1 c1 d1 → Cel P G (.ref x) (.p c0 c1)
  | tup {x v0 v1 c0 c1 d0 d1} : TpG P G x [v0, v1] → Simp P G v0 c0 d0 → Simp P G v1 c1 d1 → Cel P G (.ref x) (.p c0 c1)
theorem Cel.mono {P : Params} {G G' : Gr} (s : GLe G G') {v : Value} {c : Cell} (h : Cel P G v c) : Cel P G' v c := by
  cases h with
  | simp i => exact .simp (i.mono s)
  | con i a b => exact .con (i.mono s) (a.mono s) (b.mono s)
  | tup i a b => exact .tup (i.mono s) (a.mono s) (b.mono s)
inductive Lk (P : Params) (G : Gr) : Value → Cell → Prop
  | w {x pl} : InsF P G x 99 [("place", pl)] → Lk P G (.ref x) (.s .w)
  | a {x n} : n ≠ Nm.T2 → ConG P G x n [] → Lk P G (.ref x) (.s (.a n))
  | p {x v0 v1 c0 c1 d0 d1} : ConG P G x .T2 [v0, v1] → Simp P G v0 c0 d0 → Simp P G v1 c1 d1 → Lk P G (.ref x) (.p c0 c1)
theorem Lk.mono {P : Params} {G G' : Gr} (s : GLe G G') {v : Value} {c : Cell} (h : Lk P G v c) : Lk P G' v c := by
  cases h with
  | w i => exact .w (i.mono s)
  | a n i => exact .a n (i.mono s)
  | p i a b => exact .p (i.mono s) (a.mono s) (b.mono s)
theorem Lk.up {P : Params} {G G' : Gr} {v : Value} {c : Cell} (h : Lk P G v c) (s : GLe G G') : Lk P G' v c := h.mono s
theorem Cel.up {P : Params} {G G' : Gr} {v : Value} {c : Cell} (h : Cel P G v c) (s : GLe G G') : Cel P G' v c := h.mono s
inductive Hd (P : Params) (G : Gr) : Value → Cell → Prop
  | lk {v c} : Lk P G v c → Hd P G v c
  | tup {x v0 v1 c0 c1 d0 d1} : TpG P G x [v0, v1] → Simp P G v0 c0 d0 → Simp P G v1 c1 d1 → Hd P G (.ref x) (.p c0 c1)
theorem Hd.up {P : Params} {G G' : Gr} {v : Value} {c : Cell} (h : Hd P G v c) (s : GLe G G') : Hd P G' v c := by
  cases h with
  | lk i => exact .lk (i.mono s)
  | tup i a b => exact .tup (i.mono s) (a.mono s) (b.mono s)
inductive All2 {α β : Type} (R : α → β → Prop) : List α → List β → Prop
  | nil : All2 R [] []
  | cons {a b as bs} : R a b → All2 R as bs → All2 R (a :: as) (b :: bs)
theorem All2.mono {α β : Type} {R S : α → β → Prop} (s : ∀ a b, R a b → S a b) {as : List α} {bs : List β} (h : All2 R as bs) : All2 S as bs := by
  induction h with
  | nil => exact .nil
  | cons h _ ih => exact .cons (s _ _ h) ih
theorem All2.length {α β : Type} {R : α → β → Prop} {as : List α} {bs : List β} (h : All2 R as bs) : as.length = bs.length := by
  induction h with
  | nil => rfl
  | cons _ _ ih => simp [ih]
theorem All2.get {α β : Type} {R : α → β → Prop} {as : List α} {bs : List β} (h : All2 R as bs) : ∀ {i : Nat} {a : α}, as[i]? = some a → ∃ b, bs[i]? = some b ∧ R a b := by
  induction h with
  | nil => intro i a e; simp at e
  | cons h _ ih =>
    intro i a e
    cases i with
    | zero => simp at e; subst e; exact ⟨_, rfl, h⟩
    | succ i => simpa using ih (by simpa using e)
theorem All2.snoc {α β : Type} {R : α → β → Prop} {as : List α} {bs : List β} {a : α} {b : β} (h : All2 R as bs) (x : R a b) : All2 R (as ++ [a]) (bs ++ [b]) := by
  induction h with
  | nil => exact .cons x .nil
  | cons h _ ih => exact .cons h ih
theorem All2.append {α β : Type} {R : α → β → Prop} {as as' : List α} {bs bs' : List β} (h : All2 R as bs) (h' : All2 R as' bs') : All2 R (as ++ as') (bs ++ bs') := by
  induction h with
  | nil => exact h'
  | cons h _ ih => exact .cons h ih
noncomputable def RowG (P : Params) (G : Gr) (v : Value) (r : List Cell) : Prop := ∃ l vs, v = .ref l ∧ LstG G l vs ∧ All2 (Cel P G) vs r
theorem RowG.mono {P : Params} {G G' : Gr} (s : GLe G G') {v : Value} {r : List Cell} (h : RowG P G v r) : RowG P G' v r := let ⟨l, vs, a, b, c⟩ := h; ⟨l, vs, a, b.mono s, c.mono fun _ _ => Cel.mono s⟩
noncomputable def MatG (P : Params) (G : Gr) (v : Value) (M : List (List Cell)) : Prop := ∃ l vs, v = .ref l ∧ LstG G l vs ∧ All2 (RowG P G) vs M
theorem MatG.mono {P : Params} {G G' : Gr} (s : GLe G G') {v : Value} {r : List (List Cell)} (h : MatG P G v r) : MatG P G' v r := let ⟨l, vs, a, b, c⟩ := h; ⟨l, vs, a, b.mono s, c.mono fun _ _ => RowG.mono s⟩
noncomputable def LineG (P : Params) (G : Gr) (v : Value) (r : List Cell) : Prop := ∃ l v0 vs c cs, v = .ref l ∧ r = c :: cs ∧ LstG G l (v0 :: vs) ∧ Lk P G v0 c ∧ All2 (Cel P G) vs cs
theorem LineG.mono {P : Params} {G G' : Gr} (s : GLe G G') {v : Value} {r : List Cell} (h : LineG P G v r) : LineG P G' v r := let ⟨l, v0, vs, c, cs, a, e, b, d, f⟩ := h; ⟨l, v0, vs, c, cs, a, e, b.mono s, d.mono s, f.mono fun _ _ => Cel.mono s⟩
noncomputable def LinesG (P : Params) (G : Gr) (v : Value) (M : List (List Cell)) : Prop := ∃ l vs, v = .ref l ∧ LstG G l vs ∧ All2 (LineG P G) vs M
theorem LinesG.mono {P : Params} {G G' : Gr} (s : GLe G G') {v : Value} {r : List (List Cell)} (h : LinesG P G v r) : LinesG P G' v r := let ⟨l, vs, a, b, c⟩ := h; ⟨l, vs, a, b.mono s, c.mono fun _ _ => LineG.mono s⟩
end
section
section
variable {prog : Program} {w : World} {K : Frag} {H : Heap} {mg mb : Str → Option Value} {A : Around} {E : Value → Shared → Prop} {s : Shared} {G : Gr}
  {wr : List Addr} {G₀ : Gr} {h₀ : Heap} {mu : List (Addr × Obj)} {m : Str → Option Value} {env : Env}
theorem len_l {L : Addr} {l : Addr} {vs : List Value} {Q : Value → Shared → Prop} (F : Fm H wr G₀ h₀ L G mu s.heap m) (hl : LstG G l vs) (hf : vs.length < 2 ^ 62) (h : ∀ t tk', Q (.int vs.length t) { s with toks := tk' }) : wpAny (model prog w) A (call (.builtin "len") [.ref l]) Q E s :=
  len_list (hl.at F.inn) (by simp only [List.size_toArray]; omega) (by simpa using h _ _)
noncomputable def WhEnd (H : Heap) (wr : List Addr) (G₀ : Gr) (h₀ : Heap) (L : Addr) (G' : Gr) (J : Nat → Gr → List (Addr × Obj) → (Str → Option Value) → Prop) (n : Nat) (s s' : Shared) : Prop :=
  ∃ n' h' tk' G'' mu'' m'', n' < n ∧ s' = { s with heap := h', toks := tk' } ∧ Fm H wr G₀ h₀ L G'' mu'' h' m'' ∧ GLe G' G'' ∧ J n' G'' mu'' m''
theorem WhEnd.of {H : Heap} {wr : List Addr} {G₀ : Gr} {h₀ : Heap} {L : Addr} {G' : Gr} {J : Nat → Gr → List (Addr × Obj) → (Str → Option Value) → Prop} {n n' : Nat} {s : Shared} {h' : Heap} {tk' : Nat} {G'' : Gr} {mu'' : List (Addr × Obj)} {m'' : Str → Option Value}
    (hn : n' < n) (F : Fm H wr G₀ h₀ L G'' mu'' h' m'') (g : GLe G' G'') (j : J n' G'' mu'' m'') : WhEnd H wr G₀ h₀ L G' J n s { s with heap := h', toks := tk' } := ⟨n', h', tk', G'', mu'', m'', hn, rfl, F, g, j⟩
theorem wh_rule {test : Expr} {body : List Stmt} {Q : Flow → Shared → Prop} {ER : Value → Shared → Prop} (Inv : Nat → Gr → List (Addr × Obj) → (Str → Option Value) → Prop) (N : Nat)
    (F : Fm H wr G₀ h₀ env.locals G mu s.heap m) (hinv : Inv N G mu m)
    (turn : ∀ n G' mu' m' h tk, Inv n G' mu' m' → GLe G G' → Fm H wr G₀ h₀ env.locals G' mu' h m' →
      wpAny (model prog w) A (isTrue test env (eval test env)) (fun b s₂ =>
        if b = true then wpAny (model prog w) A (execs body env) (fun f s₃ => match f with
            | .next | .cont => WhEnd H wr G₀ h₀ env.locals G' Inv n s s₃
            | .brk => Q .next s₃
            | .ret v => Q (.ret v) s₃) (fun _ _ => False) s₂
        else Q .next s₂) (fun _ _ => False) { s with heap := h, toks := tk }) :
    codeAny (model prog w) A (.whileLoop test body [] env) (fun r s' => match r with | .ok f => Q f s' | .error e => ER e s') s := by
  obtain ⟨sh, sg, sd, st, so⟩ := s
  dsimp only at *
  refine codeAny_whileLoop (fun n s' => ∀ Z : Prop, (∀ h tk G' mu' m', s' = ⟨h, sg, sd, tk, so⟩ → Fm H wr G₀ h₀ env.locals G' mu' h m' → GLe G G' → Inv n G' mu' m' → Z) → Z) ?_ N fun _ z => z sh st G mu m rfl F (GLe.refl _) hinv
  intro n s' hI
  refine hI _ fun h tk G' mu' m' e1 F' gl hi => ?_
  clear hI
  subst e1
  refine wpAny_mono (turn n G' mu' m' h tk hi gl F') (fun b s₂ t => ?_) fun _ _ e => e.elim
  cases b with
  | false =>
    simp only [Bool.false_eq_true, if_false] at t ⊢
    exact wpAny_execs_nil t
  | true =>
    simp only [if_true] at t ⊢
    refine wpAny_mono t (fun f s₃ t₂ => ?_) fun _ _ e => e.elim
    have nx : WhEnd H wr G₀ h₀ env.locals G' Inv n ⟨sh, sg, sd, st, so⟩ s₃ →
        ∃ k, k < n ∧ ∀ Z : Prop, (∀ h tk G' mu' m', s₃ = ⟨h, sg, sd, tk, so⟩ → Fm H wr G₀ h₀ env.locals G' mu' h m' → GLe G G' → Inv k G' mu' m' → Z) → Z := by
      rintro ⟨n', h'', tk'', G'', mu'', m'', hn, rfl, F'', gl', hi'⟩
      exact ⟨n', hn, fun _ z => z h'' tk'' G'' mu'' m'' rfl F'' (gl.trans gl') hi'⟩
    cases f with
    | next => exact nx t₂
    | cont => exact nx t₂
    | brk => exact t₂
    | ret v => exact t₂
end
theorem KOk.cls {K : Frag} (k : KOk K) {C : Addr} (h : ([72, 99, 153, 180, 234, 261, 288, 362, 474, 507] : List Addr).contains C = true := by rfl) : Cls K C := by
  have := List.contains_iff_mem.mp h
  simp only [List.mem_cons, List.not_mem_nil, or_false] at this
  rcases this with rfl | rfl | rfl | rfl | rfl | rfl | rfl | rfl | rfl | rfl
  · exact k.c72
  · exact k.c99
  · exact k.c153
  · exact k.c180
  · exact k.c234
  · exact k.c261
  · exact k.c288
  · exact k.c362
  · exact k.c474
  · exact k.c507
theorem KOk.any2 {K : Frag} (k : KOk K) {D C1 C2 : Addr} {b1 b2 : Bool} (h1 : isiT.lookup (D, C1) = some b1 := by rfl) (h2 : isiT.lookup (D, C2) = some b2 := by rfl) : kitAny K (.ref D) [.ref C1, .ref C2] = some (b1 || b2) := by
  have e1 := k.is h1
  have e2 := k.is h2
  unfold kitAny
  rw [e1]
  cases b1 with
  | true => rfl
  | false =>
    simp only
    unfold kitAny
    rw [e2]
    cases b2 <;> rfl
end
theorem rg2 : True := by
  k_with "ktr_room" => (first | assumption | exact GLe.refl _ | (refine GLe.trans (by assumption) ?_; k_extra "ktr_room"))
  k_with "ktr_rel" => (first | assumption | exact InsF.mono (by assumption) (by k_extra "ktr_room") | exact LstG.mono (by assumption) (by k_extra "ktr_room") | exact TupG.mono (by assumption) (by k_extra "ktr_room"))
  k_with "newTuple" => ((refine nt_tup (by assumption) (Nat.le_of_ble_eq_true rfl) ?_; intro aS' gS' hS' glS' eS' FS'))
  k_with "newList" => ((refine nt_lst (by assumption) (Nat.le_of_ble_eq_true rfl) ?_; intro aS' gS' hS' glS' eS' FS'))
  k_with "getAttr ref" => ((with_unfolding_all refine ga_f (by assumption) (by assumption) (by k_extra "ktr_rel") (KOk.cls (by assumption)) (KOk.at (by assumption)) (by k_extra "ktr_unf") (by rfl) ?_))
  k_with "getMethod ref" => ((with_unfolding_all refine gm_f (by assumption) (by assumption) (by k_extra "ktr_rel") (KOk.cls (by assumption)) (KOk.me (by assumption)) (KOk.fn (by assumption) _ (by simp)) (by k_extra "ktr_unf") ?_))
  k_with "call builtin:isinstance" => (first | (with_unfolding_all refine isi_f (by assumption) (by assumption) (by k_extra "ktr_rel") (KOk.cls (by assumption)) (KOk.is (by assumption)) ?_; intro tkS') | (with_unfolding_all refine isi2_f (by assumption) (by assumption) (by k_extra "ktr_rel") (KOk.cls (by assumption)) (by assumption) (KOk.any2 (by assumption)) ?_; intro tkS'))
  k_with "ktr_unf" => (repeat (first | exact getF_hit | exact rfl | refine getF_miss (by decide) ?_))
  trivial
section
section
variable {w : World} {K : Frag} {H : Heap} {mg mb : Str → Option Value} {A : Around} {E : Value → Shared → Prop} {s : Shared} {G : Gr}
set_option maxHeartbeats 2000000 in
theorem c_tuple_name {tk : Tok} {Q : Value → Shared → Prop} (B : Bs w K H mg mb) (k : KOk K) (rm : Room A 1) (hH : HLe H G) (hG : GIn G s.heap)
    (h : ∀ G' h' tk' tk2, Went [] G s.heap G' h' → Q (.str Nm.T2.str tk2) { s with heap := h', toks := tk' }) :
    wpAny (model pw w) A (call (.ref 298) [.int 2 tk]) Q E s := dis (by
  simp (disch := k_dflt (
    refine dis ?_
    have hf := k.f298
    obtain ⟨t, e⟩ : ∃ t, t = topFd 18 := ⟨_, rfl⟩
    rw [← e] at hf
    conv at e => (rhs; whnf)
    subst e
    refine wpAny_call (code_fn (binds := [("many", .int 2 tk)]) [] [] B hf hH hG rm.depth (by simp) (fun _ _ _ _ _ _ => BindsTo.of_eq (by rfl)) (by rfl) (by rfl) ?_)
    clear hf
    intro L h₁ cdv nL F
    k_extra "ktn_open"
    try dsimp only
    rw [show (Str.ofString "(" ++ Txt.mul (Str.ofString ",") (2 - 1) ++ Str.ofString ")") = Nm.T2.str from by decide +kernel]
    exact h _ _ _ _ (Fm.done (by assumption) nL))) only [↓und])
theorem rgoW33 : True := by
  k_with "call ref" => (((with_reducible show wpAny _ _ (call (Value.ref 298) _) _ _ _); (rename Fm _ _ _ _ _ _ _ _ _ => FF'); refine c_tuple_name (by assumption) (by assumption) (Room.deeper (Room.le (by assumption) (by first | exact Nat.le_of_ble_eq_true rfl | exact rm_lit | omega))) (Fm.top FF') (Fm.inn FF') ?_; intro gS' hS' tS' t2S' WS'; (have glS := Went.sub WS'); (have FS' := Fm.call FF' WS'); clear FF'))
  trivial
theorem rgoW34 : True := by
  k_with "call ref" => (((with_reducible show wpAny _ _ (call (Value.ref 153) _) _ _ _); (rename Fm _ _ _ _ _ _ _ _ _ => FF'); refine mk_PCon (by assumption) (by assumption) (Room.deeper (Room.le (by assumption) (by first | exact Nat.le_of_ble_eq_true rfl | exact rm_lit | omega))) (Fm.top FF') (Fm.inn FF') ?_; intro xS' gS' hS' tS' WS' iS'; (have glS := Went.sub WS'); (have FS' := Fm.call FF' WS'); clear FF'))
  trivial
theorem rgoW35 : True := by
  k_with "call ref" => (((with_reducible show wpAny _ _ (call (Value.ref 99) _) _ _ _); (rename Fm _ _ _ _ _ _ _ _ _ => FF'); refine mk_PWild (by assumption) (by assumption) (Room.deeper (Room.le (by assumption) (by first | exact Nat.le_of_ble_eq_true rfl | exact rm_lit | omega))) (Fm.top FF') (Fm.inn FF') ?_; intro xS' gS' hS' tS' WS' iS'; (have glS := Went.sub WS'); (have FS' := Fm.call FF' WS'); clear FF'))
  trivial
theorem rgpW36 : True := by
  k_with "call builtin:len" => ((fail_if_success (k_extra "off:W3")); k_extra "W3:call builtin:len")
  trivial
theorem rgoW36 : True := by
  k_with "W3:call builtin:len" => ((refine len_l (by assumption) (by k_extra "ktr_rel") (by first | decide | omega | simp) ?_; intro tS' tkS'))
  trivial
set_option maxHeartbeats 2000000 in
theorem c_spread {v : Value} {c : Cell} {Q : Value → Shared → Prop} (B : Bs w K H mg mb) (k : KOk K) (rm : Room A 5) (hH : HLe H G) (hG : GIn G s.heap)
    (hv : Hd w.params G v c)
    (h : ∀ r G' h' tk', Went [] G s.heap G' h' → Lk w.params G' r c → Q r { s with heap := h', toks := tk' }) :
    wpAny (model pw w) A (call (.ref 326) [v]) Q E s := dis (by
  simp (disch := k_dflt (
    refine dis ?_
    have hf := k.f326
    obtain ⟨t, e⟩ : ∃ t, t = topFd 22 := ⟨_, rfl⟩
    rw [← e] at hf
    conv at e => (rhs; whnf)
    subst e
    refine wpAny_call (code_fn (binds := [("pattern", v)]) [] [] B hf hH hG rm.depth (by simp) (fun _ _ _ _ _ _ => BindsTo.of_eq (by rfl)) (by rfl) (by rfl) ?_)
    clear hf
    intro L h₁ cdv nL F
    rcases hv with hl | ⟨⟨pl, l, i, hl⟩, s0, s1⟩
    · have hl' := hl
      cases hl' with
      | w i =>
        k_extra "ktn_open"
        exact h _ _ _ _ (Fm.done (by assumption) nL) hl
      | a n i =>
        obtain ⟨pl, tk, l, i, hl⟩ := i
        k_extra "ktn_open"
        exact h _ _ _ _ (Fm.done (by assumption) nL) (by assumption)
      | p i a b =>
        obtain ⟨pl, tk, l, i, hl⟩ := i
        k_extra "ktn_open"
        exact h _ _ _ _ (Fm.done (by assumption) nL) (by assumption)
    · k_extra "ktn_open"
      exact h _ _ _ _ (Fm.done (by assumption) nL) (.p ⟨_, _, _, by assumption, by k_extra "ktr_rel"⟩ (s0.mono (by k_extra "ktr_room")) (s1.mono (by k_extra "ktr_room"))))) only [↓und])
theorem rgoW37 : True := by
  k_with "call ref" => (((with_reducible show wpAny _ _ (call (Value.ref 326) _) _ _ _); (rename Fm _ _ _ _ _ _ _ _ _ => FF'); refine c_spread (by assumption) (by assumption) (Room.deeper (Room.le (by assumption) (by first | exact Nat.le_of_ble_eq_true rfl | exact rm_lit | omega))) (Fm.top FF') (Fm.inn FF') (Hd.up (by assumption) (by k_extra "ktr_room")) ?_; intro rS' gS' hS' tS' WS' iS'; (have glS := Went.sub WS'); (have FS' := Fm.call FF' WS'); clear FF'))
  trivial
theorem rgpW38 : True := by
  k_with "exec While" => ((fail_if_success (k_extra "off:W3")); k_extra "W3:exec While")
  trivial
theorem rgoW38 : True := by
  k_with "W3:exec While" => ((refine wpAny_While ?_))
  trivial
set_option maxHeartbeats 4000000 in
theorem c_looked_at {v : Value} {c : Cell} {Q : Value → Shared → Prop} (B : Bs w K H mg mb) (k : KOk K) (rm : Room A 6) (hH : HLe H G) (hG : GIn G s.heap) (hv : Cel w.params G v c)
    (h : ∀ r G' h' tk', Went [] G s.heap G' h' → Lk w.params G' r c → Q r { s with heap := h', toks := tk' }) :
    wpAny (model pw w) A (call (.ref 373) [v]) Q E s := dis (by
  simp (disch := k_dflt (
    refine dis ?_
    have hf := k.f373
    obtain ⟨t, e⟩ : ∃ t, t = topFd 26 := ⟨_, rfl⟩
    rw [← e] at hf
    conv at e => (rhs; whnf)
    subst e
    refine wpAny_call (code_fn (binds := [("pattern", v)]) [] [] B hf hH hG rm.depth (by simp) (fun _ _ _ _ _ _ => BindsTo.of_eq (by rfl)) (by rfl) (by rfl) ?_)
    clear hf
    intro L h₁ cdv nL F
    k_extra "ktn_open"
    obtain ⟨N, hN⟩ : ∃ N, (∃ c1, c = .s c1 ∧ Simp w.params G v c1 N) ∨ ∃ c0 c1, c = .p c0 c1 := by
      cases hv with
      | simp i => exact ⟨_, .inl ⟨_, rfl, i⟩⟩
      | con | tup => exact ⟨0, .inr ⟨_, _, rfl⟩⟩
    refine wh_rule (env := envOf _ _ _ _ _) (fun n G' mu' m' => mu' = [] ∧ ∃ v', m' "pattern" = some v' ∧ Cel w.params G' v' c ∧ ((∃ c1, c = .s c1 ∧ Simp w.params G' v' c1 n) ∨ ∃ c0 c1, c = .p c0 c1)) N F ⟨rfl, v, rfl, hv, hN⟩ ?_
    rintro n G₁ mu₁ m₁ h₂ tk₂ ⟨rfl, v', hm, hc, hs⟩ gl F₂
    clear F
    rcases hs with ⟨c1, rfl, hs⟩ | ⟨c0, c1, rfl⟩
    · cases hs with
      | wild i =>
        have hd : Hd w.params G₁ _ _ := .lk (.w i)
        k_extra "ktn_open"
        exact h _ _ _ _ (Fm.done (by assumption) nL) (by assumption)
      | var i =>
        k_extra "ktn_open"
        exact h _ _ _ _ (Fm.done (by assumption) nL) (.w (by assumption))
      | lazy i =>
        k_extra "ktn_open"
        exact h _ _ _ _ (Fm.done (by assumption) nL) (.w (by assumption))
      | con n i =>
        have hd : Hd w.params G₁ _ _ := .lk (.a n i)
        obtain ⟨pl, tk, l, i, hl⟩ := i
        k_extra "ktn_open"
        exact h _ _ _ _ (Fm.done (by assumption) nL) (by assumption)
      | bang i y =>
        k_extra "ktn_open"
        exact ⟨_, _, _, _, _, _, Nat.lt_succ_self _, rfl, by assumption, by k_extra "ktr_room", rfl, _, by rfl, .simp (y.mono (by k_extra "ktr_room")), .inl ⟨_, rfl, y.mono (by k_extra "ktr_room")⟩⟩
      | as i y =>
        k_extra "ktn_open"
        exact ⟨_, _, _, _, _, _, Nat.lt_succ_self _, rfl, by assumption, by k_extra "ktr_room", rfl, _, by rfl, .simp (y.mono (by k_extra "ktr_room")), .inl ⟨_, rfl, y.mono (by k_extra "ktr_room")⟩⟩
    · cases hc with
      | con i a b =>
        have hd : Hd w.params G₁ _ _ := .lk (.p i a b)
        obtain ⟨pl, tk, l, i, hl⟩ := i
        k_extra "ktn_open"
        exact h _ _ _ _ (Fm.done (by assumption) nL) (by assumption)
      | tup i a b =>
        have hd : Hd w.params G₁ _ _ := .tup i a b
        obtain ⟨pl, l, i, hl⟩ := i
        k_extra "ktn_open"
        exact h _ _ _ _ (Fm.done (by assumption) nL) (by assumption))) only [↓und])
end
end
theorem rgeW3 : True := by
  k_with "off:W3" => skip
  trivial
section
section
variable {prog : Program} {w : World} {K : Frag} {H : Heap} {mg mb : Str → Option Value} {A : Around} {E : Value → Shared → Prop} {s : Shared} {G : Gr}
  {wr : List Addr} {G₀ : Gr} {h₀ : Heap} {L : Addr} {mu : List (Addr × Obj)} {m : Str → Option Value} {env : Env}
theorem Fm.kept {h h' : Heap} (F : Fm H wr G₀ h₀ L G mu h m) (hk : ∀ b o, h.get? b = some o → h'.get? b = some o) : Fm H wr G₀ h₀ L G mu h' m :=
  F.call ⟨GLe.refl _, fun b o e => hk b o (F.inn b o e), fun _ _ e => .inl e, fun b o _ e => hk b o e, fun b o e => ⟨o, hk b o e⟩⟩
theorem bool_at {bs : List Bool} {i : Nat} {v : Value} (h : (bs.map Value.bool).toArray[i]? = some v) : ∃ b, bs[i]? = some b ∧ v = .bool b := by
  simp only [List.getElem?_toArray, List.getElem?_map, Option.map_eq_some_iff] at h
  obtain ⟨b, e, rfl⟩ := h; exact ⟨b, e, rfl⟩
theorem all_b {l : Addr} {bs : List Bool} {Q : Value → Shared → Prop} (F : Fm H wr G₀ h₀ L G mu s.heap m) (hh : A.handled = none) (hx : LstG G l (bs.map Value.bool))
    (h : ∀ h' tk, Fm H wr G₀ h₀ L G mu h' m → Q (.bool (bs.all id)) { s with heap := h', toks := tk }) : wpAny (model prog w) A (call (.builtin "all") [.ref l]) Q E s := by
  have hl := hx.at F.inn
  have hlt : l < s.heap.objs.size := by obtain ⟨_, e, _⟩ := hl; exact Heap.lt_size e
  refine call_all_walk (wpAny_pyIter_list hl ?_)
  refine ⟨s.heap.objs.size, [s.heap.objs.size, l], [s.heap.objs.size], (bs.map Value.bool).toArray.size, _, _, fun i => (bs[i]?).getD true, rfl, Walks.list (A := A.in1) hh _ l (Nat.ne_of_lt hlt) _,
    ⟨⟨_, Heap.get?_push_size _ rfl, rfl, rfl⟩, hl.push _⟩, fun i v s' Q' E' hP hQ => ?_, fun h' tk hk => ?_⟩
  · obtain ⟨b, e, rfl⟩ := bool_at hP
    simp only [e, Option.getD_some] at hQ
    exact wpAny_truthy_bool hQ
  · have e : ((List.range (bs.map Value.bool).toArray.size).all fun i => (bs[i]?).getD true) = bs.all id := by
      rw [List.size_toArray, List.length_map]; exact LSm.range_all bs
    rw [e]
    exact h h' tk (F.kept (LSm.kept_iter hk))
theorem any_b {l : Addr} {bs : List Bool} {Q : Value → Shared → Prop} (F : Fm H wr G₀ h₀ L G mu s.heap m) (hh : A.handled = none) (hx : LstG G l (bs.map Value.bool))
    (h : ∀ h' tk, Fm H wr G₀ h₀ L G mu h' m → Q (.bool (bs.any id)) { s with heap := h', toks := tk }) : wpAny (model prog w) A (call (.builtin "any") [.ref l]) Q E s := by
  have hl := hx.at F.inn
  have hlt : l < s.heap.objs.size := by obtain ⟨_, e, _⟩ := hl; exact Heap.lt_size e
  refine call_any_walk (wpAny_pyIter_list hl ?_)
  refine ⟨s.heap.objs.size, [s.heap.objs.size, l], [s.heap.objs.size], (bs.map Value.bool).toArray.size, _, _, fun i => (bs[i]?).getD false, rfl, Walks.list (A := A.in1) hh _ l (Nat.ne_of_lt hlt) _,
    ⟨⟨_, Heap.get?_push_size _ rfl, rfl, rfl⟩, hl.push _⟩, fun i v s' Q' E' hP hQ => ?_, fun h' tk hk => ?_⟩
  · obtain ⟨b, e, rfl⟩ := bool_at hP
    simp only [e, Option.getD_some] at hQ
    exact wpAny_truthy_bool hQ
  · have e : ((List.range (bs.map Value.bool).toArray.size).any fun i => (bs[i]?).getD false) = bs.any id := by
      rw [List.size_toArray, List.length_map]; exact LSm.range_any bs
    rw [e]
    exact h h' tk (F.kept (LSm.kept_iter hk))
theorem rng_it {n : Nat} {t : Tok} {Q : Value → Shared → Prop} (F : Fm H wr G₀ h₀ L G mu s.heap m) (hsz : n ≤ sizeLine)
    (h : ∀ h' tk I, h'.get? I = some { cls := .type "range_iterator", data := .fields #[rawInt 0, rawInt (n : Int), rawInt 1] } → s.heap.get? I = none → Fm H wr G₀ h₀ L G mu h' m → Q (.ref I) { s with heap := h', toks := tk }) :
    wpAny (model prog w) A (call (.type "range") [.int (n : Int) t]) (fun x s₁ => wpAny (model prog w) A (pyIter x) Q E s₁) E s := by
  have hs : (sizeLine : Int) < 2 ^ 62 := by decide
  refine call_range_1 (wpAny_pyIter_range (IsRange.new _ _ _ _ _ _ _) (small_one (by omega) (by omega) (by omega) (by omega)) ?_)
  have e : Builtin.Range.rangeSize 0 (n : Int) 1 = (n : Int) := by
    rw [rangeSize_one]
    by_cases q : (0 : Int) < n
    · rw [if_pos q]; omega
    · rw [if_neg q]; omega
  rw [e]
  refine h _ _ _ (Heap.get?_push_size _ rfl) ?_ ((F.kept fun b o e => Heap.get?_push_of_some _ e).kept fun b o e => Heap.get?_push_of_some _ e)
  cases q : s.heap.get? (s.heap.push { cls := .type "range", data := .fields #[.int 0 s.toks, .int (n : Int) t, .int 1 (s.toks + 1)] }).objs.size with
  | none => rfl
  | some o => have := Heap.lt_size q; rw [Heap.size_push] at this; exact absurd this (Nat.not_lt.mpr (Nat.le_succ _))
theorem Fm.fresh0 {h : Heap} {I : Addr} (F : Fm H wr G₀ h₀ L G mu h m) (n : h.get? I = none) : h₀.get? I = none := by
  cases e : h₀.get? I with
  | none => rfl
  | some o => obtain ⟨o', e'⟩ := F.went.live _ _ e; rw [n] at e'; cases e'
theorem Fm.freshL {h : Heap} {I : Addr} (F : Fm H wr G₀ h₀ L G mu h m) (n : h.get? I = none) : I ≠ L := fun q => by obtain ⟨o, e⟩ := F.alive; rw [q, e] at n; cases n
theorem Fm.freshM {h : Heap} {I : Addr} (F : Fm H wr G₀ h₀ L G mu h m) (n : h.get? I = none) : ∀ p ∈ mu, p.1 ≠ I := fun p hp q => by have := (F.mus p hp).1; rw [q, n] at this; cases this
theorem comp_rng {elt : Expr} {x : Str} {px : Pos} {ifs : List Expr} {iter : Expr} {scope : Scope} {cl : List (Str × Addr)} {pos : Pos} {n : Nat} {t : Tok}
    {RR : Value → Addr → Result → Shared → Prop} (wi : List Addr) (Inv : Nat → Gr → List (Addr × Obj) → List Value → Prop)
    (F : Fm H wr G₀ h₀ env.locals G mu s.heap m) (hh : A.handled = none) (hsz : n ≤ sizeLine) (hcell : (scope.names.all fun y => y.2 != .cell) = true) (hkind : scope.kind = .function)
    (hwi : ∀ a ∈ wi, a ≠ env.locals ∧ (∃ o, (a, o) ∈ mu) ∧ (a ∈ wr ∨ h₀.get? a = none))
    (hinv : Inv 0 G mu [])
    (turn : ∀ i ti ys G' mu' C h tk m₁, i < n → Inv i G' mu' ys → GLe G G' → ys.length ≤ i → mu'.map (·.1) = mu.map (·.1) → Fm H wi G' h C G' mu' h m₁ →
      wpAny (model prog w) A (assign (.Name x px) (compEnvC scope cl C env) (.int (i : Int) ti)) (fun _ s₃ =>
        wpAny (model prog w) A (forIn ifs true fun c r => if r = true then do let ok ← isTrue c (compEnvC scope cl C env) (eval c (compEnvC scope cl C env)); pure (ForInStep.yield ok) else pure (ForInStep.yield r)) (fun ok s₄ =>
          if ok = true then wpAny (model prog w) A (eval elt (compEnvC scope cl C env)) (fun y s₅ => CompEnd H wi G' h C mu' (fun G'' mu'' => Inv (i + 1) G'' mu'' (ys ++ [y])) s s₅) (fun _ _ => False) s₄
          else CompEnd H wi G' h C mu' (fun G'' mu'' => Inv (i + 1) G'' mu'' ys) s s₄) (fun _ _ => False) s₃) (fun _ _ => False) { s with heap := h, toks := tk })
    (done : ∀ D C k h' tk G' mu' ys m', Inv n G' mu' ys → ys.length ≤ n → GLe G G' → mu'.map (·.1) = mu.map (·.1) → Fm H wr G₀ h₀ env.locals G' ((D, lstO ys k) :: mu') h' m → h₀.get? D = none → (∀ p ∈ mu', p.1 ≠ D) →
      h'.Ns C m' → C ≠ env.locals → C ≠ D → h₀.get? C = none → G' C = none → (∀ p ∈ mu', p.1 ≠ C) → RR (.ref D) C (.ok .next) { s with heap := h', toks := tk }) :
    wpAny (model prog w) A (call (.type "range") [.int (n : Int) t]) (fun xv s₁ => wpAny (model prog w) A (pyIter xv) (fun it s₂ => wpAny (model prog w) A (newList []) (fun acc s₃ => wpAny (model prog w) A (newFunctionEnv scope env.globals cl [] env.qual none .none (some env)) (fun cenv s₄ =>
      codeAny (model prog w) A (.compStart (.ListComp elt [⟨.Name x px, iter, ifs, 0⟩] scope pos) 0 it acc { cenv with scope := relabel scope env }) (RR acc cenv.locals) s₄) E s₃) E s₂) E s₁) E s := by
  refine rng_it F hsz fun h' tk I hI nI F₁ => ?_
  have W := Walks.range (prog := prog) (w := w) hh I 0 1 n
  refine comp_block (s := { s with heap := h', toks := tk }) wi Inv W (fun i h st => ⟨_, st⟩) ?_ F₁ (F.freshL nI) (F.inn.fresh nI) (F.fresh0 nI) (F.freshM nI) ?_ hsz (fun y hy => by have := List.all_eq_true.mp hcell y hy; simpa using this) hkind ?_ hwi hinv ?_ done
  · intro b hb hbI; exact absurd (List.mem_singleton.mp hb) hbI
  · simpa using hI
  · intro i v s' Q E _ hQ; exact wpAny_pure hQ
  · rintro i v ys G' mu' C h tk m₁ hi ⟨t', rfl⟩
    rw [show (0 : Int) + (i : Int) * 1 = i from by omega]
    exact turn i t' ys G' mu' C h tk m₁ hi
theorem for_rng {x : Str} {px : Pos} {body : List Stmt} {n : Nat} {t : Tok} {Q : Flow → Shared → Prop} {ER : Value → Shared → Prop}
    (Inv : Nat → Gr → List (Addr × Obj) → (Str → Option Value) → Prop)
    (F : Fm H wr G₀ h₀ env.locals G mu s.heap m) (hh : A.handled = none) (hsz : n ≤ sizeLine) (hinv : Inv 0 G mu m)
    (turn : ∀ i ti G' mu' m' h tk I oI, i < n → Inv i G' mu' m' → GLe G G' → mu'.map (·.1) = mu.map (·.1) → (∀ p ∈ mu', p.1 ≠ I) → h₀.get? I = none → Fm H wr G₀ h₀ env.locals G' ((I, oI) :: mu') h m' →
      wpAny (model prog w) A (assign (.Name x px) env (.int (i : Int) ti)) (fun _ s₂ => wpAny (model prog w) A (execs body env) (fun f s₃ => match f with
          | .next | .cont => ForEnd H wr G₀ h₀ env.locals I oI G' mu' (Inv (i + 1)) s s₃
          | .brk => Q .next s₃
          | .ret v => Q (.ret v) s₃) (fun _ _ => False) s₂) (fun _ _ => False) { s with heap := h, toks := tk })
    (done : ∀ h' tk G' mu' m', Inv n G' mu' m' → GLe G G' → mu'.map (·.1) = mu.map (·.1) → Fm H wr G₀ h₀ env.locals G' mu' h' m' → Q .next { s with heap := h', toks := tk }) :
    wpAny (model prog w) A (call (.type "range") [.int (n : Int) t]) (fun xv s₁ => wpAny (model prog w) A (pyIter xv) (fun it s₂ => codeAny (model prog w) A (.forLoop (.Name x px) it body [] env) (fun r s' => match r with | .ok f => Q f s' | .error e => ER e s') s₂) E s₁) E s := by
  refine rng_it F hsz fun h' tk I hI nI F₁ => ?_
  have W := Walks.range (prog := prog) (w := w) hh I 0 1 n
  refine for_block (s := { s with heap := h', toks := tk }) Inv W (fun i h st => ⟨_, st⟩) ?_ F₁ (F.freshL nI) (F.inn.fresh nI) (F.fresh0 nI) (F.freshM nI) ?_ ?_ hinv ?_ done
  · intro b hb hbI; exact absurd (List.mem_singleton.mp hb) hbI
  · simpa using hI
  · intro i v s' Q E _ hQ; exact wpAny_pure hQ
  · rintro i v G' mu' m' h tk oI hi ⟨t', rfl⟩ a b c d e
    rw [show (0 : Int) + (i : Int) * 1 = i from by omega]
    exact turn i t' G' mu' m' h tk I oI hi a b c d (F.fresh0 nI) e
theorem cp_none {D C : Addr} {k : Nat} {h' : Heap} {tk : Nat} {G' : Gr} {mu' : List (Addr × Obj)} {ys : List Value} {m' : Str → Option Value} {Q : Value → Shared → Prop}
    (F : Fm H wr G₀ h₀ L G' ((D, lstO ys k) :: mu') h' m) (h0 : h₀.get? D = none) (hm : ∀ p ∈ mu', p.1 ≠ D) (hn : h'.Ns C m') (hCL : C ≠ L) (hCD : C ≠ D) (h0C : h₀.get? C = none) (gC : G' C = none) (hCm : ∀ p ∈ mu', p.1 ≠ C)
    (h : ∀ h'' G'', GLe G' G'' → LstG G'' D ys → Fm H wr G₀ h₀ L G'' mu' h'' m → Q (.ref D) { s with heap := h'', toks := tk }) :
    compPost (model prog w) A E none Q (.ref D) C (.ok .next) { s with heap := h', toks := tk } :=
  post_none (F.settle h0 hm) hn hCL h0C (by rw [GAdd.ne hCD]; exact gC) hCm fun h'' F'' => h h'' _ (GAdd.le (F.mus _ (.head _)).2.2) ⟨_, GAdd.self, rfl, k, rfl⟩ F''
theorem cp_as {D C : Addr} {k : Nat} {h' : Heap} {tk : Nat} {G' : Gr} {mu' : List (Addr × Obj)} {ys : List Value} {m' : Str → Option Value} {y : Str} {py : Pos} {Q : Flow → Shared → Prop}
    (F : Fm H wr G₀ h₀ env.locals G' ((D, lstO ys k) :: mu') h' m) (h0 : h₀.get? D = none) (hm : ∀ p ∈ mu', p.1 ≠ D) (hn : h'.Ns C m') (hCL : C ≠ env.locals) (hCD : C ≠ D) (h0C : h₀.get? C = none) (gC : G' C = none) (hCm : ∀ p ∈ mu', p.1 ≠ C)
    (hk : env.scope.kind = .function) (hx : env.kindOf y = some .local)
    (h : ∀ h'' tk' G'', GLe G' G'' → LstG G'' D ys → Fm H wr G₀ h₀ env.locals G'' mu' h'' (fun z => if z = y then some (.ref D) else m z) → Q .next { s with heap := h'', toks := tk' }) :
    compPost (model prog w) A E (some (assign (.Name y py) env)) (fun _ s' => Q .next s') (.ref D) C (.ok .next) { s with heap := h', toks := tk } := by
  have F1 := F.settle h0 hm
  obtain ⟨oC, hoC, hd⟩ := ns_obj hn
  have F2 := F1.addMu hoC hCL (by rw [GAdd.ne hCD]; exact gC)
  show wpAny _ _ (assign (.Name y py) env (.ref D)) _ _ _
  refine wpAny_assign_Name (st_local F2 (fun h2 F3 => ?_) hk hx)
  exact post_drop hd F3 h0C hCm fun h'' F4 => h h'' _ _ (GAdd.le (F.mus _ (.head _)).2.2) ⟨_, GAdd.self, rfl, k, rfl⟩ F4
theorem sub_from {value slice : Expr} {l : Addr} {vs : List Value} {k : Int} {t : Tok} {h : Heap} {g : Array GenState} {d : Drawn} {tk : Nat} {os : OsState} {Q : Value → Shared → Prop}
    (F : Fm H wr G₀ h₀ L G mu h m) (hl : LstG G l vs) (hk : 0 ≤ k) (hsz : vs.length ≤ sizeLine)
    (hQ : ∀ a G' h', GLe G G' → LstG G' a (vs.drop k.toNat) → Fm H wr G₀ h₀ L G' mu h' m → Q (.ref a) ⟨h', g, d, tk, os⟩)
    (hs : subscripted slice false (.ref l) (.ref h.objs.size) = operate [.ref h.objs.size, .ref l] (getItem (.ref l) (.ref h.objs.size)) := by with_unfolding_all rfl)
    (ht : ∀ r, letTemporaryGo value (.ref l) r = pure () := by intro _; with_unfolding_all rfl) :
    wpAny (model prog w) A (subscriptTail value slice (.ref l) (.ref h.objs.size)) Q E ⟨h.push { cls := .type "slice", data := .fields #[.int k t, .none, .none] }, g, d, tk, os⟩ :=
  sub_slice (s := ⟨h, g, d, tk, os⟩) F hl (.int k t) .none hsz (fun a G' h' gl hl' F' => hQ a G' h' gl (by
    have e := slicePick_from' vs.toArray k.toNat
    rw [show ((k.toNat : Nat) : Int) = k from by omega] at e
    rw [e] at hl'; simpa using hl') F') hs ht
theorem sub_upto {value slice : Expr} {l : Addr} {vs : List Value} {k : Int} {t : Tok} {h : Heap} {g : Array GenState} {d : Drawn} {tk : Nat} {os : OsState} {Q : Value → Shared → Prop}
    (F : Fm H wr G₀ h₀ L G mu h m) (hl : LstG G l vs) (hk : 0 ≤ k) (hsz : vs.length ≤ sizeLine)
    (hQ : ∀ a G' h', GLe G G' → LstG G' a (vs.take k.toNat) → Fm H wr G₀ h₀ L G' mu h' m → Q (.ref a) ⟨h', g, d, tk, os⟩)
    (hs : subscripted slice false (.ref l) (.ref h.objs.size) = operate [.ref h.objs.size, .ref l] (getItem (.ref l) (.ref h.objs.size)) := by with_unfolding_all rfl)
    (ht : ∀ r, letTemporaryGo value (.ref l) r = pure () := by intro _; with_unfolding_all rfl) :
    wpAny (model prog w) A (subscriptTail value slice (.ref l) (.ref h.objs.size)) Q E ⟨h.push { cls := .type "slice", data := .fields #[.none, .int k t, .none] }, g, d, tk, os⟩ :=
  sub_slice (s := ⟨h, g, d, tk, os⟩) F hl .none (.int k t) hsz (fun a G' h' gl hl' F' => hQ a G' h' gl (by
    have e := slicePick_upto' vs.toArray k.toNat
    rw [show ((k.toNat : Nat) : Int) = k from by omega] at e
    rw [e] at hl'; simpa using hl') F') hs ht
theorem gm_app {a : Addr} {ys : List Value} {k : Nat} {pl : Sem Bool} {Q : Value × List Value → Shared → Prop} (F : Fm H wr G₀ h₀ L G mu s.heap m) (hm : (a, lstO ys k) ∈ mu)
    (h : Q (.builtin "list.append", [.ref a]) s) : wpAny (model prog w) A (getMethod (.ref a) "append" pl) Q E s := Calls.getMethod_list_append (F.mus _ hm).1 rfl rfl h
theorem ap_mu {a : Addr} {ys : List Value} {k : Nat} {x : Value} {Q : Value → Shared → Prop} (F : Fm H wr G₀ h₀ L G mu s.heap m) (hm : (a, lstO ys k) ∈ mu) (hw : a ∈ wr ∨ h₀.get? a = none) (hsz : ys.length ≤ sizeLine)
    (h : ∀ h', Fm H wr G₀ h₀ L G (setMu a (lstO (ys ++ [x]) (k + 1)) mu) h' m → Q .none { s with heap := h' }) :
    wpAny (model prog w) A (call (.builtin "list.append") [.ref a, x]) Q E s :=
  append_at (hsz := by simpa using hsz) (F.mus _ hm).1 fun h' hs ho => h h' (F.upd hm hs (by simpa [lstO] using ho) hw)
theorem Room.hd {n : Nat} {env : Env} (r : Room A n) : (A.deeper env).handled = none := r.1
theorem Room.hu {n : Nat} {env : Env} (r : Room A (n + 1)) : (A.deeper env).units < cLine := (Room.deeper (env := env) r).units
end
theorem ForEnd.of {H : Heap} {wr : List Addr} {G₀ : Gr} {h₀ : Heap} {L I : Addr} {oI : Obj} {G' : Gr} {mu' : List (Addr × Obj)} {J : Gr → List (Addr × Obj) → (Str → Option Value) → Prop} {s : Shared} {h' : Heap} {tk' : Nat} {G'' : Gr} {mu'' : List (Addr × Obj)} {m'' : Str → Option Value}
    (F : Fm H wr G₀ h₀ L G'' ((I, oI) :: mu'') h' m'') (hm : mu''.map (·.1) = mu'.map (·.1)) (g : GLe G' G'') (j : J G'' mu'' m'') : ForEnd H wr G₀ h₀ L I oI G' mu' J s { s with heap := h', toks := tk' } := ⟨h', tk', G'', mu'', m'', rfl, F, hm, g, j⟩
theorem CompEnd.of {H : Heap} {wi : List Addr} {G' : Gr} {h : Heap} {C : Addr} {mu' : List (Addr × Obj)} {J : Gr → List (Addr × Obj) → Prop} {s : Shared} {h' : Heap} {tk' : Nat} {G'' : Gr} {mu'' : List (Addr × Obj)} {m'' : Str → Option Value}
    (F : Fm H wi G' h C G'' mu'' h' m'') (hm : mu''.map (·.1) = mu'.map (·.1)) (j : J G'' mu'') : CompEnd H wi G' h C mu' J s { s with heap := h', toks := tk' } := ⟨h', tk', G'', mu'', m'', rfl, F, hm, j⟩
theorem setMu_skip {a b : Addr} {o x : Obj} {mu : List (Addr × Obj)} (h : b ≠ a) : setMu a o ((b, x) :: mu) = (b, x) :: setMu a o mu := by simp [setMu, h]
theorem take_snoc {α : Type} {M : List α} {i : Nat} {r : α} (e : M[i]? = some r) : M.take (i + 1) = M.take i ++ [r] := by rw [List.take_add_one, e]; rfl
end
theorem rg3 : True := by
  k_with "ktn_open" => (((try dsimp only); repeat' (first | ((fail_if_success (with_reducible show wpAny _ _ _ _ _ _)); (rename Hid _ _ => hidq9); (with_reducible refine hidq9 _ _ ?_); clear hidq9; try dsimp only) | ((with_reducible show wpAny _ _ _ _ _ _); (fail_if_success goal_lacks CompEnd ForEnd WhEnd); refine wp_hide ?_; intro RQ' hRQ') | ((fail_if_success (with_reducible show wpAny _ _ (eval (Expr.ListComp _ _ _ _) _) _ _ _)); (fail_if_success (with_reducible show wpAny _ _ (exec (Stmt.For _ _ _ _ _) _) _ _ _)); (fail_if_success (with_reducible show wpAny _ _ (pyIter _) _ _ _)); (fail_if_success (with_reducible show CompEnd _ _ _ _ _ _ _ _ _)); (fail_if_success (with_reducible show ForEnd _ _ _ _ _ _ _ _ _ _ _ _)); (first | walk1 | (dsimp only; walk1))))))
  k_with "call builtin:all" => ((refine all_b (by assumption) (Room.hd (by assumption)) (by k_extra "ktr_rel") ?_; intro hS' tS' FS'))
  k_with "call builtin:any" => ((refine any_b (by assumption) (Room.hd (by assumption)) (by k_extra "ktr_rel") ?_; intro hS' tS' FS'))
  k_with "kln_le" => ((first | (refine Nat.le_trans (m := 200) ?_ (by decide); first | omega | (simp; done) | (simp; omega))))
  k_with "subscriptTail" => (first | ((with_reducible show wpAny _ _ (subscriptTail _ _ (Value.ref _) (Value.int _ _)) _ _ _); k_dflt (first | (refine sub_lst (by assumption) (by k_extra "ktr_rel") (by first | decide | omega) (by first | decide | omega) (by first | rfl | assumption) ?_) | (refine sub_tup (by assumption) (by k_extra "ktr_rel") (by first | decide | omega) (by first | decide | omega) (by first | rfl | assumption) (by first | rfl | assumption) ?_))) | (refine sub_lst (by assumption) (by k_extra "ktr_rel") (by first | decide | omega) (by first | decide | omega) (by first | rfl | assumption) ?_) | (refine sub_tup (by assumption) (by k_extra "ktr_rel") (by first | decide | omega) (by first | decide | omega) (by first | rfl | assumption) (by first | rfl | assumption) ?_) | (refine sub_from (by assumption) (by k_extra "ktr_rel") (by first | decide | omega) (by k_extra "kln_le") ?_; intro xS' gS' hS' glS' eS' FS') | (refine sub_upto (by assumption) (by k_extra "ktr_rel") (by first | decide | omega) (by k_extra "kln_le") ?_; intro xS' gS' hS' glS' eS' FS'))
  k_with "call type:list" => ((refine list_of (by assumption) (by k_extra "ktr_rel") (by k_extra "kln_le") ?_; intro xS' gS' hS' glS' eS' FS'))
  k_with "binaryOp Add ref ref" => ((refine add_lst (by assumption) (by k_extra "ktr_rel") (by k_extra "ktr_rel") (by k_extra "kln_le") ?_; intro xS' gS' hS' glS' eS' FS'))
  k_with "compareOp Eq ref ref" => ((refine eq_nil (by assumption) (by k_extra "ktr_rel") (by k_extra "ktr_rel") (Room.hu (by assumption)) ?_))
  k_with "compareOp NotEq ref ref" => ((refine ne_nil (by assumption) (by k_extra "ktr_rel") (by k_extra "ktr_rel") (Room.hu (by assumption)) ?_))
  k_with "kt_at_in" => (first | exact List.Mem.head _ | exact List.Mem.tail _ (List.Mem.head _) | exact List.Mem.tail _ (List.Mem.tail _ (List.Mem.head _)) | exact List.Mem.tail _ (List.Mem.tail _ (List.Mem.tail _ (List.Mem.head _))) | exact List.Mem.tail _ (List.Mem.tail _ (List.Mem.tail _ (List.Mem.tail _ (List.Mem.head _)))))
  k_with "getMethod ref" => (((with_reducible show wpAny _ _ (getMethod _ _ _) _ _ _); refine gm_app (by assumption) (by k_extra "kt_at_in") ?_))
  k_with "call builtin:list.append" => (k_dflt ((refine ap_mu (by assumption) (by k_extra "kt_at_in") (by first | assumption | exact .inr (by assumption) | exact .inl (by simp)) (by k_extra "kln_le") ?_; intro hS' FS'; (try simp (disch := assumption) only [setMu_head, setMu_nil, setMu_skip] at FS'))))
  k_with "kc_close" => (((try dsimp only); (all_goals (try ((with_reducible show wpAny _ _ _ _ _ _); (fail_if_success goal_lacks CompEnd ForEnd WhEnd); refine wp_hide ?_; intro RQ' hRQ'))); (repeat' (first | walk1 | (dsimp only; walk1) | ((rename Hid _ _ => hidq9); (with_reducible refine hidq9 _ _ ?_); clear hidq9; (try dsimp only); (try ((with_reducible show wpAny _ _ _ _ _ _); (fail_if_success goal_lacks CompEnd ForEnd WhEnd); refine wp_hide ?_; intro RQ' hRQ'))))); (all_goals (try (with_reducible refine stop_out ?_)))))
  k_with "eval ListComp" => (refine stop_in ?_)
  k_with "exec For" => (refine stop_in ?_)
  k_with "exec For Name Attribute cons nil" => (refine stop_in ?_)
  k_with "exec For Name Call cons nil" => (refine stop_in ?_)
  k_with "exec For Name Call" => (refine stop_in ?_)
  k_with "exec For Name List cons nil" => (refine stop_in ?_)
  k_with "exec For Name Name cons nil" => (refine stop_in ?_)
  k_with "exec For Name Name" => (refine stop_in ?_)
  k_with "exec For Name Subscript cons nil" => (refine stop_in ?_)
  k_with "exec For Name Tuple cons nil" => (refine stop_in ?_)
  k_with "exec For Name Tuple" => (refine stop_in ?_)
  k_with "exec For Tuple Call cons nil" => (refine stop_in ?_)
  k_with "exec For Tuple Call" => (refine stop_in ?_)
  k_with "exec For Tuple List cons nil" => (refine stop_in ?_)
  k_with "exec For Tuple Name cons nil" => (refine stop_in ?_)
  k_with "exec For Tuple Name" => (refine stop_in ?_)
  k_with "exec For Tuple Tuple cons nil" => (refine stop_in ?_)
  k_with "exec For Tuple Tuple" => (refine stop_in ?_)
  k_with "pyIter ref" => (refine stop_in ?_)
  k_with "pyIter str" => (refine stop_in ?_)
  k_with "pyIter bytes" => (refine stop_in ?_)
  k_with "newList nil" => (refine stop_in ?_)
  k_with "call type:range" => (refine stop_in ?_)
  k_with "call ref" => (((with_reducible show wpAny _ _ (call (Value.ref 72) _) _ _ _); (rename Fm _ _ _ _ _ _ _ _ _ => FF'); refine mk_PVar (by assumption) (by assumption) (Room.deeper (Room.le (by assumption) (by first | exact Nat.le_of_ble_eq_true rfl | exact rm_lit | omega))) (Fm.top FF') (Fm.inn FF') ?_; intro xS' gS' hS' tS' WS' iS'; (have glS := Went.sub WS'); (have FS' := Fm.call FF' WS'); clear FF'))
  k_with "call ref" => (((with_reducible show wpAny _ _ (call (Value.ref 99) _) _ _ _); (rename Fm _ _ _ _ _ _ _ _ _ => FF'); refine mk_PWild (by assumption) (by assumption) (Room.deeper (Room.le (by assumption) (by first | exact Nat.le_of_ble_eq_true rfl | exact rm_lit | omega))) (Fm.top FF') (Fm.inn FF') ?_; intro xS' gS' hS' tS' WS' iS'; (have glS := Went.sub WS'); (have FS' := Fm.call FF' WS'); clear FF'))
  k_with "call ref" => (((with_reducible show wpAny _ _ (call (Value.ref 153) _) _ _ _); (rename Fm _ _ _ _ _ _ _ _ _ => FF'); refine mk_PCon (by assumption) (by assumption) (Room.deeper (Room.le (by assumption) (by first | exact Nat.le_of_ble_eq_true rfl | exact rm_lit | omega))) (Fm.top FF') (Fm.inn FF') ?_; intro xS' gS' hS' tS' WS' iS'; (have glS := Went.sub WS'); (have FS' := Fm.call FF' WS'); clear FF'))
  k_with "call ref" => (((with_reducible show wpAny _ _ (call (Value.ref 180) _) _ _ _); (rename Fm _ _ _ _ _ _ _ _ _ => FF'); refine mk_PTuple (by assumption) (by assumption) (Room.deeper (Room.le (by assumption) (by first | exact Nat.le_of_ble_eq_true rfl | exact rm_lit | omega))) (Fm.top FF') (Fm.inn FF') ?_; intro xS' gS' hS' tS' WS' iS'; (have glS := Went.sub WS'); (have FS' := Fm.call FF' WS'); clear FF'))
  k_with "call ref" => (((with_reducible show wpAny _ _ (call (Value.ref 234) _) _ _ _); (rename Fm _ _ _ _ _ _ _ _ _ => FF'); refine mk_PAs (by assumption) (by assumption) (Room.deeper (Room.le (by assumption) (by first | exact Nat.le_of_ble_eq_true rfl | exact rm_lit | omega))) (Fm.top FF') (Fm.inn FF') ?_; intro xS' gS' hS' tS' WS' iS'; (have glS := Went.sub WS'); (have FS' := Fm.call FF' WS'); clear FF'))
  k_with "call ref" => (((with_reducible show wpAny _ _ (call (Value.ref 261) _) _ _ _); (rename Fm _ _ _ _ _ _ _ _ _ => FF'); refine mk_PLazy (by assumption) (by assumption) (Room.deeper (Room.le (by assumption) (by first | exact Nat.le_of_ble_eq_true rfl | exact rm_lit | omega))) (Fm.top FF') (Fm.inn FF') ?_; intro xS' gS' hS' tS' WS' iS'; (have glS := Went.sub WS'); (have FS' := Fm.call FF' WS'); clear FF'))
  k_with "call ref" => (((with_reducible show wpAny _ _ (call (Value.ref 288) _) _ _ _); (rename Fm _ _ _ _ _ _ _ _ _ => FF'); refine mk_PBang (by assumption) (by assumption) (Room.deeper (Room.le (by assumption) (by first | exact Nat.le_of_ble_eq_true rfl | exact rm_lit | omega))) (Fm.top FF') (Fm.inn FF') ?_; intro xS' gS' hS' tS' WS' iS'; (have glS := Went.sub WS'); (have FS' := Fm.call FF' WS'); clear FF'))
  k_with "call ref" => (((with_reducible show wpAny _ _ (call (Value.ref 362) _) _ _ _); (rename Fm _ _ _ _ _ _ _ _ _ => FF'); refine mk_Constructors (by assumption) (by assumption) (Room.deeper (Room.le (by assumption) (by first | exact Nat.le_of_ble_eq_true rfl | exact rm_lit | omega))) (Fm.top FF') (Fm.inn FF') ?_; intro xS' gS' hS' tS' WS' iS'; (have glS := Went.sub WS'); (have FS' := Fm.call FF' WS'); clear FF'))
  k_with "call ref" => (((with_reducible show wpAny _ _ (call (Value.ref 474) _) _ _ _); (rename Fm _ _ _ _ _ _ _ _ _ => FF'); refine mk_Watcher (by assumption) (by assumption) (Room.deeper (Room.le (by assumption) (by first | exact Nat.le_of_ble_eq_true rfl | exact rm_lit | omega))) (Fm.top FF') (Fm.inn FF') ?_; intro xS' gS' hS' tS' WS' iS'; (have glS := Went.sub WS'); (have FS' := Fm.call FF' WS'); clear FF'))
  k_with "call ref" => (((with_reducible show wpAny _ _ (call (Value.ref 507) _) _ _ _); (rename Fm _ _ _ _ _ _ _ _ _ => FF'); refine mk_ConInfo (by assumption) (by assumption) (Room.deeper (Room.le (by assumption) (by first | exact Nat.le_of_ble_eq_true rfl | exact rm_lit | omega))) (Fm.top FF') (Fm.inn FF') ?_; intro xS' gS' hS' tS' WS' iS'; (have glS := Went.sub WS'); (have FS' := Fm.call FF' WS'); clear FF'))
  k_with "eval Attribute Subscript" => (refine Attribute_any_ ?_)
  k_with "eval Attribute Call" => (refine Attribute_any_ ?_)
  k_with "kpf_close" => (((try dsimp only); first | (apply ForEnd.of; assumption; rfl; k_extra "ktr_room") | (apply CompEnd.of; assumption; rfl)))
  k_with "call builtin:len" => (((with_reducible show wpAny _ _ (call (Value.builtin "len") [Value.ref _]) _ _ _); refine len_l (by assumption) (by k_extra "ktr_rel") (by first | decide | omega | (simp; done) | (simp; omega)) ?_; intro tS' tkS'))
  k_with "call builtin:len" => (((with_reducible show wpAny _ _ (call (Value.builtin "len") [Value.str _ _]) _ _ _); refine SBL.len (by decide +kernel) ?_))
  trivial
section
noncomputable def plainC : Cell → Bool
  | .s .w => true
  | _ => false
noncomputable def hasPlain (M : List (List Cell)) : Bool := M.any fun r => r.all plainC
section
variable {w : World} {K : Frag} {H : Heap} {mg mb : Str → Option Value} {A : Around} {E : Value → Shared → Prop} {s : Shared} {G : Gr}
theorem rgoW49 : True := by
  k_with "call ref" => (((with_reducible show wpAny _ _ (call (Value.ref 373) _) _ _ _); (rename Fm _ _ _ _ _ _ _ _ _ => FF'); refine c_looked_at (by assumption) (by assumption) (Room.deeper (Room.le (by assumption) (by first | exact Nat.le_of_ble_eq_true rfl | exact rm_lit | omega))) (Fm.top FF') (Fm.inn FF') (Cel.up (by assumption) (by k_extra "ktr_room")) ?_; intro rS' gS' hS' tS' WS' iS'; (have glS := Went.sub WS'); (have FS' := Fm.call FF' WS'); clear FF'))
  trivial
set_option maxHeartbeats 4000000 in
theorem c_has_plain_row {v : Value} {M : List (List Cell)} {Q : Value → Shared → Prop} (B : Bs w K H mg mb) (k : KOk K) (rm : Room A 7) (hH : HLe H G) (hG : GIn G s.heap) (hv : MatG w.params G v M)
    (hM : M.length ≤ 64) (hr : ∀ r ∈ M, r.length ≤ 64)
    (h : ∀ G' h' tk', Went [] G s.heap G' h' → Q (.bool (hasPlain M)) { s with heap := h', toks := tk' }) :
    wpAny (model pw w) A (call (.ref 385) [v]) Q E s := dis (by
  simp (disch := k_dflt (
    refine dis ?_
    have hf := k.f385
    obtain ⟨t, e⟩ : ∃ t, t = topFd 28 := ⟨_, rfl⟩
    rw [← e] at hf
    conv at e => (rhs; whnf)
    subst e
    refine wpAny_call (code_fn (binds := [("rows", v)]) [] [] B hf hH hG rm.depth (by simp) (fun _ _ _ _ _ _ => BindsTo.of_eq (by rfl)) (by rfl) (by rfl) ?_)
    clear hf
    intro L h₁ cdv nL F
    obtain ⟨l, vs, rfl, hl, ha⟩ := hv
    k_extra "ktn_open"
    refine ev_comp (by rfl) (by rfl) (by rfl) ?_
    k_extra "ktn_open"
    refine comp_lst [] (fun i _ mu' ys => mu' = [] ∧ ys = ((M.take i).map (fun r => r.all plainC)).map Value.bool) (by assumption) hl rm.1 (ha.length ▸ Nat.le_trans hM (by decide)) (by rfl) (by rfl) (.inl ⟨_, _, rfl⟩) (by simp) ⟨rfl, rfl⟩ ?_ ?_
    · rintro i v ys G₁ mu₁ C h₂ tk₂ m₁ hv ⟨rfl, rfl⟩ gl hys hmu F₂
      clear F
      obtain ⟨r, er, l2, vs2, rfl, hl2, ha2⟩ := ha.get hv
      have hr2 := hr r (List.mem_of_getElem? er)
      k_extra "ktn_open"
      refine ev_comp (by rfl) (by rfl) (by rfl) ?_
      k_extra "ktn_open"
      refine comp_lst [] (fun j _ mu' ys => mu' = [] ∧ ys = ((r.take j).map plainC).map Value.bool) (by assumption) (hl2.mono (by k_extra "ktr_room")) rm.1 (ha2.length ▸ Nat.le_trans hr2 (by decide)) (by rfl) (by rfl) (.inl ⟨_, _, rfl⟩) (by simp) ⟨rfl, rfl⟩ ?_ ?_
      · rintro j v2 ys G₂ mu₂ C2 h₃ tk₃ m₂ hv2 ⟨rfl, rfl⟩ gl2 hys2 hmu2 F₃
        clear F₂
        obtain ⟨c, ec, hc⟩ := ha2.get hv2
        k_extra "ktn_open"
        rename Lk _ _ _ _ => iL
        cases iL with
        | w i =>
          k_extra "ktn_open"
          exact ⟨_, _, _, _, _, rfl, by assumption, rfl, rfl, by rw [take_snoc ec]; simp [plainC]⟩
        | a n i =>
          obtain ⟨pl, tk, l, i, hl⟩ := i
          k_extra "ktn_open"
          exact ⟨_, _, _, _, _, rfl, by assumption, rfl, rfl, by rw [take_snoc ec]; simp [plainC]⟩
        | p i a b =>
          obtain ⟨pl, tk, l, i, hl⟩ := i
          k_extra "ktn_open"
          exact ⟨_, _, _, _, _, rfl, by assumption, rfl, rfl, by rw [take_snoc ec]; simp [plainC]⟩
      · rintro D C2 k2 h3 tk3 G3 mu3 ys3 m3 ⟨rfl, rfl⟩ hys3 gl3 hmu3 F3 hD0 hDm hnC hCL hCD hC0 hGC hCm
        clear F₂
        refine cp_none F3 hD0 hDm hnC hCL hCD hC0 hGC hCm ?_
        intro h4 G4 gl4 hl4 F4
        clear F3
        rw [ha2.length, List.take_length] at hl4
        k_extra "ktn_open"
        exact ⟨_, _, _, _, _, rfl, by assumption, rfl, rfl, by rw [take_snoc er]; simp⟩
    · rintro D C2 k2 h3 tk3 G3 mu3 ys3 m3 ⟨rfl, rfl⟩ hys3 gl3 hmu3 F3 hD0 hDm hnC hCL hCD hC0 hGC hCm
      clear F
      refine cp_none F3 hD0 hDm hnC hCL hCD hC0 hGC hCm ?_
      intro h4 G4 gl4 hl4 F4
      clear F3
      rw [ha.length, List.take_length] at hl4
      k_extra "ktn_open"
      have := h _ _ ‹Nat› (Fm.done (by assumption) nL)
      simpa [hasPlain, List.any_map] using this)) only [↓und])
set_option maxHeartbeats 4000000 in
theorem c_lines_of {v : Value} {M : List (List Cell)} {Q : Value → Shared → Prop} (B : Bs w K H mg mb) (k : KOk K) (rm : Room A 7) (hH : HLe H G) (hG : GIn G s.heap) (hv : MatG w.params G v M)
    (hM : M.length ≤ 64) (hr : ∀ r ∈ M, r.length ≤ 64) (hr0 : ∀ r ∈ M, r ≠ [])
    (h : ∀ x G' h' tk', Went [] G s.heap G' h' → LinesG w.params G' (.ref x) M → Q (.ref x) { s with heap := h', toks := tk' }) :
    wpAny (model pw w) A (call (.ref 397) [v]) Q E s := dis (by
  simp (disch := k_dflt (
    refine dis ?_
    have hf := k.f397
    obtain ⟨t, e⟩ : ∃ t, t = topFd 30 := ⟨_, rfl⟩
    rw [← e] at hf
    conv at e => (rhs; whnf)
    subst e
    refine wpAny_call (code_fn (binds := [("rows", v)]) [] [] B hf hH hG rm.depth (by simp) (fun _ _ _ _ _ _ => BindsTo.of_eq (by rfl)) (by rfl) (by rfl) ?_)
    clear hf
    intro L h₁ cdv nL F
    obtain ⟨l, vs, rfl, hl, ha⟩ := hv
    k_extra "ktn_open"
    refine ev_comp (by rfl) (by rfl) (by rfl) ?_
    k_extra "ktn_open"
    refine comp_lst [] (fun i G' mu' ys => mu' = [] ∧ All2 (LineG w.params G') ys (M.take i)) (by assumption) hl rm.1 (ha.length ▸ Nat.le_trans hM (by decide)) (by rfl) (by rfl) (.inl ⟨_, _, rfl⟩) (by simp) ⟨rfl, .nil⟩ ?_ ?_
    · rintro i v ys G₁ mu₁ C h₂ tk₂ m₁ hv ⟨rfl, hys2⟩ gl hys hmu F₂
      clear F
      obtain ⟨r, er, l2, vs2, rfl, hl2, ha2⟩ := ha.get hv
      have hr2 := hr r (List.mem_of_getElem? er)
      have hr3 := hr0 r (List.mem_of_getElem? er)
      rw [← ha2.length] at hr2
      cases ha2 with
      | nil => exact absurd rfl hr3
      | @cons v0 c vs' cs hc ha3 =>
      simp only [List.length_cons] at hr2
      k_extra "ktn_open"
      exact ⟨_, _, _, _, _, rfl, by assumption, rfl, rfl, by rw [take_snoc er]; exact (hys2.mono fun _ _ => LineG.mono (by k_extra "ktr_room")).snoc ⟨_, _, _, _, _, rfl, rfl, by k_extra "ktr_rel", Lk.up (by assumption) (by k_extra "ktr_room"), ha3.mono fun _ _ => Cel.mono (by k_extra "ktr_room")⟩⟩
    · rintro D C2 k2 h3 tk3 G3 mu3 ys3 m3 ⟨rfl, h5⟩ hys3 gl3 hmu3 F3 hD0 hDm hnC hCL hCD hC0 hGC hCm
      clear F
      refine cp_none F3 hD0 hDm hnC hCL hCD hC0 hGC hCm ?_
      intro h4 G4 gl4 hl4 F4
      clear F3
      rw [ha.length, List.take_length] at h5
      k_extra "ktn_open"
      exact h _ _ _ _ (Fm.done (by assumption) nL) ⟨_, _, rfl, hl4, h5.mono fun _ _ => LineG.mono gl4⟩)) only [↓und])
end
end
section
noncomputable def headC : List Cell → Cell
  | c :: _ => c
  | [] => .s .w
noncomputable def withAny (M : List (List Cell)) : List (List Cell) := (M.filter fun r => plainC (headC r)).map List.tail
noncomputable def ar : Nm → Nat
  | .T2 => 2
  | _ => 0
noncomputable def conRow (n : Nm) : List Cell → Option (List Cell)
  | .s .w :: cs => some (if n = .T2 then .s .w :: .s .w :: cs else cs)
  | .s (.a m) :: cs => if m = n then some cs else none
  | .p a b :: cs => if n = .T2 then some (.s a :: .s b :: cs) else none
  | [] => none
noncomputable def withCon (n : Nm) (M : List (List Cell)) : List (List Cell) := M.filterMap (conRow n)
theorem withAny_no {M : List (List Cell)} {c : Cell} {cs : List Cell} (h : plainC c = false) : withAny (M ++ [c :: cs]) = withAny M := by simp [withAny, headC, h]
theorem withAny_yes {M : List (List Cell)} {c : Cell} {cs : List Cell} (h : plainC c = true) : withAny (M ++ [c :: cs]) = withAny M ++ [cs] := by simp [withAny, headC, h]
theorem withCon_no {n : Nm} {M : List (List Cell)} {r : List Cell} (h : conRow n r = none) : withCon n (M ++ [r]) = withCon n M := by simp [withCon, h]
theorem withCon_yes {n : Nm} {M : List (List Cell)} {r r' : List Cell} (h : conRow n r = some r') : withCon n (M ++ [r]) = withCon n M ++ [r'] := by simp [withCon, h]
section
variable {w : World} {K : Frag} {H : Heap} {mg mb : Str → Option Value} {A : Around} {E : Value → Shared → Prop} {s : Shared} {G : Gr}
set_option maxHeartbeats 4000000 in
theorem c_with_any {v : Value} {M : List (List Cell)} {Q : Value → Shared → Prop} (B : Bs w K H mg mb) (k : KOk K) (rm : Room A 7) (hH : HLe H G) (hG : GIn G s.heap) (hv : LinesG w.params G v M)
    (hM : M.length ≤ 64) (hr : ∀ r ∈ M, r.length ≤ 64)
    (h : ∀ x G' h' tk', Went [] G s.heap G' h' → MatG w.params G' (.ref x) (withAny M) → Q (.ref x) { s with heap := h', toks := tk' }) :
    wpAny (model pw w) A (call (.ref 412) [v]) Q E s := dis (by
  simp (disch := k_dflt (
    refine dis ?_
    have hf := k.f412
    obtain ⟨t, e⟩ : ∃ t, t = topFd 33 := ⟨_, rfl⟩
    rw [← e] at hf
    conv at e => (rhs; whnf)
    subst e
    refine wpAny_call (code_fn (binds := [("rows", v)]) [] [] B hf hH hG rm.depth (by simp) (fun _ _ _ _ _ _ => BindsTo.of_eq (by rfl)) (by rfl) (by rfl) ?_)
    clear hf
    intro L h₁ cdv nL F
    obtain ⟨l, vs, rfl, hl, ha⟩ := hv
    k_extra "ktn_open"
    refine ev_comp (by rfl) (by rfl) (by rfl) ?_
    k_extra "ktn_open"
    refine comp_lst [] (fun i G' mu' ys => mu' = [] ∧ All2 (RowG w.params G') ys (withAny (M.take i))) (by assumption) hl rm.1 (ha.length ▸ Nat.le_trans hM (by decide)) (by rfl) (by rfl) (.inl ⟨_, _, rfl⟩) (by simp) ⟨rfl, .nil⟩ ?_ ?_
    · rintro i v ys G₁ mu₁ C h₂ tk₂ m₁ hv ⟨rfl, hys2⟩ gl hys hmu F₂
      clear F
      obtain ⟨r, er, l2, v0, vs', c, cs, rfl, rfl, hl2, hc, ha3⟩ := ha.get hv
      have hr2 := hr _ (List.mem_of_getElem? er)
      simp only [List.length_cons, ← ha3.length] at hr2
      have hu : ∀ G', GLe G₁ G' → All2 (RowG w.params G') ys (withAny (M.take i)) := fun G' g => hys2.mono fun _ _ => RowG.mono g
      cases hc with
      | w i =>
        k_extra "ktn_open"
        exact ⟨_, _, _, _, _, rfl, by assumption, rfl, rfl, by
          rw [take_snoc er, withAny_yes rfl]
          exact (hu _ (by k_extra "ktr_room")).snoc ⟨_, _, rfl, by assumption, ha3.mono fun _ _ => Cel.mono (by k_extra "ktr_room")⟩⟩
      | a n i =>
        obtain ⟨pl, tk, l, i, hl⟩ := i
        k_extra "ktn_open"
        exact ⟨_, _, _, _, _, rfl, by assumption, rfl, rfl, by
          rw [take_snoc er, withAny_no rfl]
          exact hu _ (by k_extra "ktr_room")⟩
      | p i a b =>
        obtain ⟨pl, tk, l, i, hl⟩ := i
        k_extra "ktn_open"
        exact ⟨_, _, _, _, _, rfl, by assumption, rfl, rfl, by
          rw [take_snoc er, withAny_no rfl]
          exact hu _ (by k_extra "ktr_room")⟩
    · rintro D C2 k2 h3 tk3 G3 mu3 ys3 m3 ⟨rfl, h5⟩ hys3 gl3 hmu3 F3 hD0 hDm hnC hCL hCD hC0 hGC hCm
      clear F
      refine cp_none F3 hD0 hDm hnC hCL hCD hC0 hGC hCm ?_
      intro h4 G4 gl4 hl4 F4
      clear F3
      rw [ha.length, List.take_length] at h5
      k_extra "ktn_open"
      exact h _ _ _ _ (Fm.done (by assumption) nL) ⟨_, _, rfl, hl4, h5.mono fun _ _ => RowG.mono gl4⟩)) only [↓und])
set_option maxHeartbeats 4000000 in
theorem c_with_con {v : Value} {M : List (List Cell)} {n : Nm} {t1 t2 : Tok} {Q : Value → Shared → Prop} (B : Bs w K H mg mb) (k : KOk K) (rm : Room A 7) (hH : HLe H G) (hG : GIn G s.heap) (hv : LinesG w.params G v M)
    (hM : M.length ≤ 64) (hr : ∀ r ∈ M, r.length ≤ 64)
    (h : ∀ x G' h' tk', Went [] G s.heap G' h' → MatG w.params G' (.ref x) (withCon n M) → Q (.ref x) { s with heap := h', toks := tk' }) :
    wpAny (model pw w) A (call (.ref 402) [v, .str n.str t1, .int (ar n : Nat) t2]) Q E s := dis (by
  simp (disch := k_dflt (
    refine dis ?_
    have hf := k.f402
    obtain ⟨t, e⟩ : ∃ t, t = topFd 31 := ⟨_, rfl⟩
    rw [← e] at hf
    conv at e => (rhs; whnf)
    subst e
    refine wpAny_call (code_fn (binds := [("rows", v), ("name", .str n.str t1), ("many", .int (ar n : Nat) t2)]) [] [] B hf hH hG rm.depth (by simp) (fun _ _ _ _ _ _ => BindsTo.of_eq (by rfl)) (by rfl) (by rfl) ?_)
    clear hf
    intro L h₁ cdv nL F
    obtain ⟨l, vs, rfl, hl, ha⟩ := hv
    k_extra "kc_close"
    refine nt_mut (by assumption) (by decide) ?_
    intro a h₂ ha0 ham F₂
    clear F
    k_extra "kc_close"
    refine wpAny_For ?_
    k_extra "kc_close"
    refine for_lst (fun i G' mu' m' => ∃ ys k, mu' = [(a, lstO ys k)] ∧ m' "found" = some (.ref a) ∧ m' "name" = some (.str n.str t1) ∧ m' "many" = some (.int (ar n : Nat) t2) ∧ All2 (RowG w.params G') ys (withCon n (M.take i))) (by assumption) hl rm.1 (.inl ⟨_, _, rfl⟩) ⟨[], 0, rfl, rfl, rfl, rfl, .nil⟩ ?_ ?_
    · rintro i v G₁ mu₁ m₁ h₂ tk₂ I oI hv ⟨ys, k1, rfl, e1, e2, e3, hys⟩ gl hmu hI1 hI2 F₃
      clear F₂
      obtain ⟨r, er, l2, v0, vs', c, cs, rfl, rfl, hl2, hc, ha3⟩ := ha.get hv
      have hr2 := hr _ (List.mem_of_getElem? er)
      have hIa : I ≠ a := fun e => hI1 _ (.head _) e.symm
      simp only [List.length_cons, ← ha3.length] at hr2
      have hyl : ys.length ≤ 64 := by rw [hys.length]; exact Nat.le_trans (List.length_filterMap_le _ _) (Nat.le_trans (List.length_take_le' ..) hM)
      have hu : ∀ G', GLe G₁ G' → All2 (RowG w.params G') ys (withCon n (M.take i)) := fun G' g => hys.mono fun _ _ => RowG.mono g
      cases hc with
      | w i =>
        k_extra "kc_close"
        refine ev_comp (by rfl) (by rfl) (by rfl) ?_
        k_extra "kc_close"
        refine comp_rng [] (fun j G' mu' zs => mu' = [(I, oI), (a, lstO ys k1)] ∧ All2 (Cel w.params G') zs (List.replicate j (.s .w))) (by assumption) rm.1 (by cases n <;> decide) (by rfl) (by rfl) (by simp) ⟨rfl, .nil⟩ ?_ ?_
        · rintro j tj zs G₂ mu₂ C2 h₃ tk₃ m₃ hj ⟨rfl, hz⟩ gl2 hys2 hmu2 F₃
          rename Fm H [] G s.heap _ _ _ _ _ => FF
          clear FF
          k_extra "kc_close"
          exact ⟨_, _, _, _, _, rfl, by assumption, rfl, rfl, by rw [List.replicate_succ']; exact (hz.mono fun _ _ => Cel.mono (by k_extra "ktr_room")).snoc (.simp (.wild (by assumption)))⟩
        · rintro D C2 k2 h3 tk3 G3 mu3 ys3 m3 ⟨rfl, h5⟩ hys3 gl3 hmu3 F3 hD0 hDm hnC hCL hCD hC0 hGC hCm
          refine cp_none F3 hD0 hDm hnC hCL hCD hC0 hGC hCm ?_
          intro h4 G4 gl4 hl4 F4
          clear F3
          have h6 : ys3.length ≤ 2 := Nat.le_trans hys3 (by cases n <;> decide)
          k_extra "kc_close"
          k_extra "kpf_close"
          exact ⟨_, _, rfl, by with_unfolding_all exact e1, by with_unfolding_all exact e2, by with_unfolding_all exact e3, by
            rw [take_snoc er, withCon_yes (r' := List.replicate (ar n) (.s .w) ++ cs) (by cases n <;> rfl)]
            exact (hu _ (by k_extra "ktr_room")).snoc ⟨_, _, rfl, by assumption, (h5.mono fun _ _ => Cel.mono (by k_extra "ktr_room")).append (ha3.mono fun _ _ => Cel.mono (by k_extra "ktr_room"))⟩⟩
      | @a x n' hn' i =>
        obtain ⟨pl, tk, l3, i3, hl3⟩ := i
        k_extra "kc_close"
        · have q : (n'.str == n.str) = true := by assumption
          k_extra "kpf_close"
          exact ⟨_, _, rfl, by with_unfolding_all exact e1, by with_unfolding_all exact e2, by with_unfolding_all exact e3, by
            rw [take_snoc er, withCon_yes (n := n) (r := .s (.a n') :: cs) (r' := cs) (if_pos (Nm.str_inj q))]
            exact (hu _ (by k_extra "ktr_room")).snoc ⟨_, _, rfl, by assumption, (ha3.mono fun _ _ => Cel.mono (by k_extra "ktr_room"))⟩⟩
        · rename_i q
          k_extra "kpf_close"
          exact ⟨_, _, rfl, by with_unfolding_all exact e1, by with_unfolding_all exact e2, by with_unfolding_all exact e3, by
            rw [take_snoc er, withCon_no (n := n) (r := .s (.a n') :: cs) (if_neg (Nm.str_ne q))]
            exact hu _ (by k_extra "ktr_room")⟩
      | @p x v0 v1 c0 c1 d0 d1 i a1 b1 =>
        obtain ⟨pl, tk, l3, i3, hl3⟩ := i
        k_extra "kc_close"
        · have q : (Nm.T2.str == n.str) = true := by assumption
          k_extra "kpf_close"
          exact ⟨_, _, rfl, by with_unfolding_all exact e1, by with_unfolding_all exact e2, by with_unfolding_all exact e3, by
            rw [take_snoc er, withCon_yes (n := n) (r := .p c0 c1 :: cs) (r' := .s c0 :: .s c1 :: cs) (if_pos (Nm.str_inj q).symm)]
            exact (hu _ (by k_extra "ktr_room")).snoc ⟨_, _, rfl, by assumption, .cons (.simp (a1.mono (by k_extra "ktr_room"))) (.cons (.simp (b1.mono (by k_extra "ktr_room"))) (ha3.mono fun _ _ => Cel.mono (by k_extra "ktr_room")))⟩⟩
        · rename_i q
          k_extra "kpf_close"
          exact ⟨_, _, rfl, by with_unfolding_all exact e1, by with_unfolding_all exact e2, by with_unfolding_all exact e3, by
            rw [take_snoc er, withCon_no (n := n) (r := .p c0 c1 :: cs) (if_neg fun e => Nm.str_ne q e.symm)]
            exact hu _ (by k_extra "ktr_room")⟩
    · rintro h3 tk3 G3 mu3 m3 ⟨ys, k1, rfl, e1, e2, e3, hys⟩ gl3 hmu3 F3
      clear F₂
      have F4 := F3.settle ha0 (by simp)
      k_extra "kc_close"
      rw [ha.length, List.take_length] at hys
      refine h _ _ _ _ (Fm.done F4 nL) ⟨_, _, rfl, ⟨_, GAdd.self, rfl, _, rfl⟩, hys.mono fun _ _ => RowG.mono (GAdd.le (F3.mus _ (.head _)).2.2)⟩)) only [↓und])
end
end
section
noncomputable def NmV (v : Value) (n : Nm) : Prop := ∃ tk, v = .str n.str tk
noncomputable def eqN (n : Nm) : Value → Bool
  | .str x _ => x == n.str
  | _ => false
theorem eqN_nm {a b : Nm} : (a.str == b.str) = decide (a = b) := by
  by_cases q : a = b
  · subst q; simp
  · rw [decide_eq_false q]
    cases e : (a.str == b.str) with
    | false => rfl
    | true => exact absurd (Nm.str_inj e) q
theorem any_nms {ys : List Value} {ns : List Nm} {n : Nm} (h : All2 NmV ys ns) : ys.toArray.any (eqN n) = decide (n ∈ ns) := by
  rw [List.any_toArray]
  induction h with
  | nil => rfl
  | cons h _ ih =>
    obtain ⟨tk, rfl⟩ := h
    rw [List.any_cons, ih]
    simp only [eqN, eqN_nm]
    rw [Bool.eq_iff_iff, Bool.or_eq_true, decide_eq_true_eq, decide_eq_true_eq, decide_eq_true_eq, List.mem_cons]
    exact ⟨fun h => h.imp Eq.symm id, fun h => h.imp Eq.symm id⟩
theorem eq_nms {A : Around} {s : Shared} {ys : List Value} {ns : List Nm} {n : Nm} {t : Tok} (h : All2 NmV ys ns) : ∀ y, y ∈ ys.toArray → SeqAt.EqAt A s y (.str n.str t) (eqN n y) := by
  intro y hy
  obtain ⟨i, hi⟩ := List.getElem?_of_mem (List.mem_toArray.mp hy)
  obtain ⟨m, _, tk, rfl⟩ := h.get hi
  exact SeqAt.EqAt.str_str _ _ _ _
section
variable {prog : Program} {w : World} {K : Frag} {H : Heap} {mg mb : Str → Option Value} {A : Around} {E : Value → Shared → Prop} {s : Shared} {G : Gr}
  {wr : List Addr} {G₀ : Gr} {h₀ : Heap} {L : Addr} {mu : List (Addr × Obj)} {m : Str → Option Value}
theorem nin_nms {a : Addr} {ys : List Value} {ns : List Nm} {n : Nm} {t : Tok} {Q : Value → Shared → Prop} (h : All2 NmV ys ns) (hl : s.heap.IsList a ys.toArray) (hq : Q (.bool (!decide (n ∈ ns))) s) :
    wpAny (model prog w) A (compareOp .NotIn (.str n.str t) (.ref a)) Q E s := SeqAt.notIn_listAt (eqN n) hl (eq_nms h) (by rw [any_nms h]; exact hq)
theorem nin_nms_mu {a : Addr} {ys : List Value} {ns : List Nm} {n : Nm} {t : Tok} {k : Nat} {Q : Value → Shared → Prop} (F : Fm H wr G₀ h₀ L G mu s.heap m) (hm : (a, lstO ys k) ∈ mu) (h : All2 NmV ys ns) (hq : Q (.bool (!decide (n ∈ ns))) s) :
    wpAny (model prog w) A (compareOp .NotIn (.str n.str t) (.ref a)) Q E s := nin_nms h ⟨_, (F.mus _ hm).1, rfl, k, rfl⟩ hq
theorem nin_nms_g {a : Addr} {ys : List Value} {ns : List Nm} {n : Nm} {t : Tok} {Q : Value → Shared → Prop} (F : Fm H wr G₀ h₀ L G mu s.heap m) (hm : LstG G a ys) (h : All2 NmV ys ns) (hq : Q (.bool (!decide (n ∈ ns))) s) :
    wpAny (model prog w) A (compareOp .NotIn (.str n.str t) (.ref a)) Q E s := nin_nms h (hm.at F.inn) hq
end
noncomputable def addN (acc : List Nm) (n : Nm) : List Nm := if n ∈ acc then acc else acc ++ [n]
noncomputable def addHead (acc : List Nm) : Cell → List Nm
  | .s .w => acc
  | .s (.a n) => addN acc n
  | .p _ _ => addN acc .T2
noncomputable def headsOf (M : List (List Cell)) : List Nm := (M.map headC).foldl addHead []
theorem headsOf_snoc {M : List (List Cell)} {c : Cell} {cs : List Cell} : headsOf (M ++ [c :: cs]) = addHead (headsOf M) c := by simp [headsOf, headC]
theorem addN_len {acc : List Nm} {n : Nm} : (addN acc n).length ≤ acc.length + 1 := by unfold addN; split <;> simp
theorem addHead_len {acc : List Nm} {c : Cell} : (addHead acc c).length ≤ acc.length + 1 := by
  unfold addHead
  split
  · omega
  · exact addN_len
  · exact addN_len
theorem foldHead_len : ∀ (cs : List Cell) (acc : List Nm), (cs.foldl addHead acc).length ≤ acc.length + cs.length
  | [], _ => by simp
  | c :: cs, acc => by
    have h1 := foldHead_len cs (addHead acc c)
    have h2 := addHead_len (acc := acc) (c := c)
    simp only [List.foldl_cons, List.length_cons]; omega
theorem headsOf_len {M : List (List Cell)} : (headsOf M).length ≤ M.length := by have := foldHead_len (M.map headC) []; simpa [headsOf] using this
section
variable {w : World} {K : Frag} {H : Heap} {mg mb : Str → Option Value} {A : Around} {E : Value → Shared → Prop} {s : Shared} {G : Gr}
theorem rgpW610 : True := by
  k_with "compareOp NotIn str ref" => ((fail_if_success (k_extra "off:W6")); k_extra "W6:compareOp NotIn str ref")
  trivial
theorem rgoW610 : True := by
  k_with "W6:compareOp NotIn str ref" => (first | (refine nin_nms_mu (by assumption) (by k_extra "kt_at_in") (by assumption) ?_) | (refine nin_nms_g (by assumption) (by k_extra "ktr_rel") (by assumption) ?_))
  trivial
set_option maxHeartbeats 4000000 in
theorem c_heads_of {v : Value} {M : List (List Cell)} {Q : Value → Shared → Prop} (B : Bs w K H mg mb) (k : KOk K) (rm : Room A 7) (hH : HLe H G) (hG : GIn G s.heap) (hv : LinesG w.params G v M)
    (hM : M.length ≤ 64)
    (h : ∀ x ys G' h' tk', Went [] G s.heap G' h' → LstG G' x ys → All2 NmV ys (headsOf M) → Q (.ref x) { s with heap := h', toks := tk' }) :
    wpAny (model pw w) A (call (.ref 419) [v]) Q E s := dis (by
  simp (disch := k_dflt (
    refine dis ?_
    have hf := k.f419
    obtain ⟨t, e⟩ : ∃ t, t = topFd 34 := ⟨_, rfl⟩
    rw [← e] at hf
    conv at e => (rhs; whnf)
    subst e
    refine wpAny_call (code_fn (binds := [("rows", v)]) [] [] B hf hH hG rm.depth (by simp) (fun _ _ _ _ _ _ => BindsTo.of_eq (by rfl)) (by rfl) (by rfl) ?_)
    clear hf
    intro L h₁ cdv nL F
    obtain ⟨l, vs, rfl, hl, ha⟩ := hv
    k_extra "kc_close"
    refine nt_mut (by assumption) (by decide) ?_
    intro a h₂ ha0 ham F₂
    clear F
    k_extra "kc_close"
    refine wpAny_For ?_
    k_extra "kc_close"
    refine for_lst (fun i G' mu' m' => ∃ ys k, mu' = [(a, lstO ys k)] ∧ m' "found" = some (.ref a) ∧ All2 NmV ys (headsOf (M.take i))) (by assumption) hl rm.1 (.inl ⟨_, _, rfl⟩) ⟨[], 0, rfl, rfl, .nil⟩ ?_ ?_
    · rintro i v G₁ mu₁ m₁ h₂ tk₂ I oI hv ⟨ys, k1, rfl, e1, hys⟩ gl hmu hI1 hI2 F₃
      clear F₂
      obtain ⟨r, er, l2, v0, vs', c, cs, rfl, rfl, hl2, hc, ha3⟩ := ha.get hv
      have hIa : I ≠ a := fun e => hI1 _ (.head _) e.symm
      have hyl : ys.length ≤ 64 := by rw [hys.length]; exact Nat.le_trans headsOf_len (Nat.le_trans (List.length_take_le' ..) hM)
      have hsn := headsOf_snoc (M := M.take i) (c := c) (cs := cs)
      rw [← take_snoc er] at hsn
      cases hc with
      | w ic =>
        k_extra "kc_close"
        k_extra "kpf_close"
        exact ⟨_, _, rfl, by with_unfolding_all exact e1, by rw [hsn]; exact hys⟩
      | @a x n' hn' ic =>
        obtain ⟨pl, tk, l3, i3, hl3⟩ := ic
        k_extra "kc_close"
        · have q : n' ∈ headsOf (M.take i) := by assumption
          k_extra "kpf_close"
          exact ⟨_, _, rfl, by with_unfolding_all exact e1, by rw [hsn]; simp only [addHead, addN]; rw [if_pos q]; exact hys⟩
        · have q : n' ∉ headsOf (M.take i) := by assumption
          k_extra "kpf_close"
          exact ⟨_, _, rfl, by with_unfolding_all exact e1, by rw [hsn]; simp only [addHead, addN]; rw [if_neg q]; exact hys.snoc ⟨_, rfl⟩⟩
      | @p x v0 v1 c0 c1 d0 d1 ic a1 b1 =>
        obtain ⟨pl, tk, l3, i3, hl3⟩ := ic
        k_extra "kc_close"
        · have q : Nm.T2 ∈ headsOf (M.take i) := by assumption
          k_extra "kpf_close"
          exact ⟨_, _, rfl, by with_unfolding_all exact e1, by rw [hsn]; simp only [addHead, addN]; rw [if_pos q]; exact hys⟩
        · have q : Nm.T2 ∉ headsOf (M.take i) := by assumption
          k_extra "kpf_close"
          exact ⟨_, _, rfl, by with_unfolding_all exact e1, by rw [hsn]; simp only [addHead, addN]; rw [if_neg q]; exact hys.snoc ⟨_, rfl⟩⟩
    · rintro h3 tk3 G3 mu3 m3 ⟨ys, k1, rfl, e1, hys⟩ gl3 hmu3 F3
      clear F₂
      have F4 := F3.settle ha0 (by simp)
      k_extra "kc_close"
      rw [ha.length, List.take_length] at hys
      exact h _ _ _ _ _ (Fm.done F4 nL) ⟨_, GAdd.self, rfl, _, rfl⟩ hys)) only [↓und])
set_option maxHeartbeats 4000000 in
theorem c_is_tuple_name {n : Nm} {tk : Tok} {Q : Value → Shared → Prop} (B : Bs w K H mg mb) (k : KOk K) (rm : Room A 2) (hH : HLe H G) (hG : GIn G s.heap)
    (h : ∀ G' h' tk', Went [] G s.heap G' h' → Q (.bool (decide (n = .T2))) { s with heap := h', toks := tk' }) :
    wpAny (model pw w) A (call (.ref 305) [.str n.str tk]) Q E s := dis (by
  simp (disch := k_dflt (
    refine dis ?_
    have hf := k.f305
    obtain ⟨t, e⟩ : ∃ t, t = topFd 19 := ⟨_, rfl⟩
    rw [← e] at hf
    conv at e => (rhs; whnf)
    subst e
    refine wpAny_call (code_fn (binds := [("name", .str n.str tk)]) [] [] B hf hH hG rm.depth (by simp) (fun _ _ _ _ _ _ => BindsTo.of_eq (by rfl)) (by rfl) (by rfl) ?_)
    clear hf
    intro L h₁ cdv nL F
    have e1 : (Txt.item (Str.ofString "M.F") 0 == Str.ofString "(") = false := by decide +kernel
    have e2 : (Txt.item (Str.ofString "M.U") 0 == Str.ofString "(") = false := by decide +kernel
    have e3 : (Txt.item (Str.ofString "M.R") 0 == Str.ofString "(") = false := by decide +kernel
    have e4 : (Txt.item (Str.ofString "M.G") 0 == Str.ofString "(") = false := by decide +kernel
    have e5 : (Txt.item (Str.ofString "M.W") 0 == Str.ofString "(") = false := by decide +kernel
    have e6 : (Txt.item (Str.ofString "(,)") 0 == Str.ofString "(") = true := by decide +kernel
    have e7 : (Txt.item (Str.ofString "(,)") 1 == Str.ofString ",") = true := by decide +kernel
    cases n <;> simp only [Nm.str] at F
    · k_extra "kc_close"
      rw [e1]
      exact h _ _ _ (Fm.done (by assumption) nL)
    · k_extra "kc_close"
      rw [e2]
      exact h _ _ _ (Fm.done (by assumption) nL)
    · k_extra "kc_close"
      rw [e3]
      exact h _ _ _ (Fm.done (by assumption) nL)
    · k_extra "kc_close"
      rw [e4]
      exact h _ _ _ (Fm.done (by assumption) nL)
    · k_extra "kc_close"
      rw [e5]
      exact h _ _ _ (Fm.done (by assumption) nL)
    · k_extra "kc_close"
      rw [e7]
      exact h _ _ _ (Fm.done (by assumption) nL))) only [↓und])
end
end
theorem rgeW6 : True := by
  k_with "off:W6" => skip
  trivial
section
inductive Td (P : Params) (G : Gr) : Value → Cell → Prop
  | w {x pl} : InsF P G x 99 [("place", pl)] → Td P G (.ref x) (.s .w)
  | a {x n} : n ≠ Nm.T2 → ConG P G x n [] → Td P G (.ref x) (.s (.a n))
  | p {x v0 v1 c0 c1} : TpG P G x [v0, v1] → Lk P G v0 (.s c0) → Lk P G v1 (.s c1) → Td P G (.ref x) (.p c0 c1)
theorem Td.mono {P : Params} {G G' : Gr} (s : GLe G G') {v : Value} {c : Cell} (h : Td P G v c) : Td P G' v c := by
  cases h with
  | w i => exact .w (i.mono s)
  | a n i => exact .a n (i.mono s)
  | p i a b => exact .p (i.mono s) (a.mono s) (b.mono s)
noncomputable def tagN : Nm → Int
  | .F => 0 | .U => 1 | .R => 0 | .G => 1 | .W => 2 | .T2 => 0
noncomputable def tyN : Nm → Str
  | .F => "M.B" | .U => "M.B" | .R => "M.T" | .G => "M.T" | .W => "M.T" | .T2 => ""
noncomputable def InfG (P : Params) (G : Gr) (v : Value) (n : Nm) : Prop := ∃ x t1 t2 t3 t4 v1 v2 v3 v4, v = .ref x ∧
  InsF P G x 507 [("name", .str n.str t1), ("tag", .int (tagN n) t2), ("arity", .int 0 t3), ("stricts", v1), ("type_name", .str (tyN n) t4), ("scheme", v2), ("siblings", v3), ("is_newtype", v4)]
theorem InfG.mono {P : Params} {G G' : Gr} (s : GLe G G') {v : Value} {n : Nm} (h : InfG P G v n) : InfG P G' v n := let ⟨x, a, b, c, d, e, f, g, i, j, k⟩ := h; ⟨x, a, b, c, d, e, f, g, i, j, k.mono s⟩
noncomputable def DicG (w : World) (G : Gr) (d : Addr) (kvs : List (Str × Value)) : Prop := (d == sysModules) = false ∧ ∃ o, G d = some o ∧ o.IsDictOf (PySem.strKind pw w) kvs
theorem DicG.mono {w : World} {G G' : Gr} (s : GLe G G') {d : Addr} {kvs : List (Str × Value)} (h : DicG w G d kvs) : DicG w G' d kvs := let ⟨a, o, e, r⟩ := h; ⟨a, o, s _ _ e, r⟩
theorem DicG.at {w : World} {G : Gr} {h : Heap} {d : Addr} {kvs : List (Str × Value)} (x : DicG w G d kvs) (g : GIn G h) : h.DictOf (PySem.strKind pw w) d kvs := let ⟨_, o, e, r⟩ := x; Heap.dictOf_iff.mpr ⟨o, g _ _ e, r⟩
noncomputable def allN : List Nm := [.F, .U, .R, .G, .W]
noncomputable def ConsG (w : World) (G : Gr) (d : Addr) : Prop := ∃ vs, All2 (InfG w.params G) vs allN ∧ DicG w G d ((allN.map Nm.str).zip vs)
theorem ConsG.mono {w : World} {G G' : Gr} (s : GLe G G') {d : Addr} (h : ConsG w G d) : ConsG w G' d := let ⟨vs, a, b⟩ := h; ⟨vs, a.mono fun _ _ => InfG.mono s, b.mono s⟩
noncomputable def KnG (w : World) (G : Gr) (v : Value) : Prop := ∃ x d, v = .ref x ∧ InsF w.params G x 362 [("cons", .ref d)] ∧ ConsG w G d
theorem KnG.mono {w : World} {G G' : Gr} (s : GLe G G') {v : Value} (h : KnG w G v) : KnG w G' v := let ⟨x, d, a, b, c⟩ := h; ⟨x, d, a, b.mono s, c.mono s⟩
noncomputable def WatG (w : World) (G : Gr) (v : Value) : Prop := ∃ x y, v = .ref x ∧ InsF w.params G x 474 [("known", y)] ∧ KnG w G y
theorem WatG.mono {w : World} {G G' : Gr} (s : GLe G G') {v : Value} (h : WatG w G v) : WatG w G' v := let ⟨x, d, a, b, c⟩ := h; ⟨x, d, a, b.mono s, c.mono s⟩
section
variable {w : World} {K : Frag} {H : Heap} {mg mb : Str → Option Value} {A : Around} {E : Value → Shared → Prop} {s : Shared} {G : Gr}
  {wr : List Addr} {G₀ : Gr} {h₀ : Heap} {L : Addr} {mu : List (Addr × Obj)} {m : Str → Option Value}
theorem in_dg {d : Addr} {kvs : List (Str × Value)} {x : Str} {t : Tok} {Q : Value → Shared → Prop} (F : Fm H wr G₀ h₀ L G mu s.heap m) (hd : DicG w G d kvs) (h : Q (.bool (valueAt kvs x).isSome) { s with toks := s.toks + 1 }) :
    wpAny (model pw w) A (compareOp .In (.str x t) (.ref d)) Q E s := wpAny_in_of (strKind_is pw w x t) hd.1 (hd.at F.inn).mapOf h
theorem nin_dg {d : Addr} {kvs : List (Str × Value)} {x : Str} {t : Tok} {Q : Value → Shared → Prop} (F : Fm H wr G₀ h₀ L G mu s.heap m) (hd : DicG w G d kvs) (h : Q (.bool (!(valueAt kvs x).isSome)) { s with toks := s.toks + 1 }) :
    wpAny (model pw w) A (compareOp .NotIn (.str x t) (.ref d)) Q E s := wpAny_notIn_of (strKind_is pw w x t) hd.1 (hd.at F.inn).mapOf h
theorem sub_dg {value slice : Expr} {d : Addr} {kvs : List (Str × Value)} {x : Str} {t : Tok} {v : Value} {Q : Value → Shared → Prop} (F : Fm H wr G₀ h₀ L G mu s.heap m) (hd : DicG w G d kvs) (hv : valueAt kvs x = some v) (h : Q v { s with toks := s.toks + 1 })
    (hs : subscripted slice false (.ref d) (.str x t) = operate [.ref d, .str x t] (getItem (.ref d) (.str x t)) := by with_unfolding_all rfl) :
    wpAny (model pw w) A (subscriptTail value slice (.ref d) (.str x t)) Q E s :=
  tail_any (hd.at F.inn).typeIs slot_dict_getitem.lookup (wpAny_getItem_of (strKind_is pw w x t) (hd.at F.inn).mapOf hv h) hs
theorem rgoW711 : True := by
  k_with "call ref" => (((with_reducible show wpAny _ _ (call (Value.ref 305) _) _ _ _); (rename Fm _ _ _ _ _ _ _ _ _ => FF'); refine c_is_tuple_name (by assumption) (by assumption) (Room.deeper (Room.le (by assumption) (by first | exact Nat.le_of_ble_eq_true rfl | exact rm_lit | omega))) (Fm.top FF') (Fm.inn FF') ?_; intro gS' hS' tS' WS'; (have glS := Went.sub WS'); (have FS' := Fm.call FF' WS'); clear FF'))
  trivial
set_option maxHeartbeats 4000000 in
theorem c_built {n : Nm} {t1 : Tok} {l : Addr} {Q : Value → Shared → Prop} (B : Bs w K H mg mb) (k : KOk K) (rm : Room A 6) (hH : HLe H G) (hG : GIn G s.heap)
    (h : ∀ x G' h' tk', Went [] G s.heap G' h' → (if n = .T2 then InsF w.params G' x 180 [("place", .none), ("items", .ref l)] else InsF w.params G' x 153 [("place", .none), ("name", .str n.str t1), ("args", .ref l)]) → Q (.ref x) { s with heap := h', toks := tk' }) :
    wpAny (model pw w) A (call (.ref 392) [.str n.str t1, .ref l]) Q E s := dis (by
  simp (disch := k_dflt (
    refine dis ?_
    have hf := k.f392
    obtain ⟨t, e⟩ : ∃ t, t = topFd 29 := ⟨_, rfl⟩
    rw [← e] at hf
    conv at e => (rhs; whnf)
    subst e
    refine wpAny_call (code_fn (binds := [("name", .str n.str t1), ("args", .ref l)]) [] [] B hf hH hG rm.depth (by simp) (fun _ _ _ _ _ _ => BindsTo.of_eq (by rfl)) (by rfl) (by rfl) ?_)
    clear hf
    intro L h₁ cdv nL F
    by_cases q : n = .T2
    · subst q
      k_extra "kc_close"
      exact h _ _ _ _ (Fm.done (by assumption) nL) (by rw [if_pos rfl]; assumption)
    · k_extra "kc_close"
      all_goals first | (exfalso; exact absurd (by assumption) q) | exact h _ _ _ _ (Fm.done (by assumption) nL) (by rw [if_neg q]; assumption))) only [↓und])
end
end
section
theorem valueAt_cons {k k' : Str} {v : Value} {r : List (Str × Value)} : valueAt ((k', v) :: r) k = if k' = k then some v else valueAt r k := by
  unfold valueAt
  rw [List.find?_cons]
  by_cases q : k' = k
  · rw [if_pos q]; simp [q]
  · rw [if_neg q]; simp [q]
theorem valueAt_in {R : Value → Nm → Prop} {vs : List Value} {ns : List Nm} {n : Nm} (h : All2 R vs ns) (hn : n ∈ ns) : ∃ v, valueAt ((ns.map Nm.str).zip vs) n.str = some v ∧ R v n := by
  induction h with
  | nil => cases hn
  | @cons a b as bs h _ ih =>
    rw [List.map_cons, List.zip_cons_cons, valueAt_cons]
    by_cases q : b = n
    · subst q; exact ⟨a, if_pos rfl, h⟩
    · rw [if_neg fun e => q (Nm.str_inj (by rw [e]; exact beq_self_eq_true _))]
      exact ih ((List.mem_cons.mp hn).resolve_left fun e => q e.symm)
theorem valueAt_out {R : Value → Nm → Prop} {vs : List Value} {ns : List Nm} {n : Nm} (h : All2 R vs ns) (hn : n ∉ ns) : valueAt ((ns.map Nm.str).zip vs) n.str = none := by
  induction h with
  | nil => rfl
  | @cons a b as bs h _ ih =>
    rw [List.map_cons, List.zip_cons_cons, valueAt_cons]
    rw [if_neg fun e => hn (by rw [Nm.str_inj (a := b) (b := n) (by rw [e]; exact beq_self_eq_true _)]; exact List.mem_cons_self ..)]
    exact ih fun h => hn (List.mem_cons_of_mem _ h)
theorem allN_mem {n : Nm} (h : n ≠ .T2) : n ∈ allN := by revert h; cases n <;> decide
structure HasV (kvs : List (Str × Value)) (x : Str) (v : Value) : Prop where
  is : valueAt kvs x = some v
structure NoV (kvs : List (Str × Value)) (x : Str) : Prop where
  is : valueAt kvs x = none
theorem ConsG_at {w : World} {G : Gr} {d : Addr} (h : ConsG w G d) : ∃ vs kvs, All2 (InfG w.params G) vs allN ∧ kvs = (allN.map Nm.str).zip vs ∧ DicG w G d kvs ∧
    (∀ n, n ≠ Nm.T2 → ∃ v, HasV kvs n.str v ∧ InfG w.params G v n) ∧ NoV kvs Nm.T2.str := by
  obtain ⟨vs, ha, hd⟩ := h
  exact ⟨vs, _, ha, rfl, hd, fun n hn => let ⟨v, a, b⟩ := valueAt_in ha (allN_mem hn); ⟨v, ⟨a⟩, b⟩, ⟨valueAt_out ha (by decide)⟩⟩
section
variable {w : World} {K : Frag} {H : Heap} {mg mb : Str → Option Value} {A : Around} {E : Value → Shared → Prop} {s : Shared} {G : Gr}
section
variable {wr : List Addr} {G₀ : Gr} {h₀ : Heap} {L : Addr} {mu : List (Addr × Obj)} {m : Str → Option Value} {d : Addr} {kvs : List (Str × Value)} {x : Str} {t : Tok} {v : Value} {Q : Value → Shared → Prop}
theorem in_yes (F : Fm H wr G₀ h₀ L G mu s.heap m) (hd : DicG w G d kvs) (hv : HasV kvs x v) (h : Q (.bool true) { s with toks := s.toks + 1 }) :
    wpAny (model pw w) A (compareOp .In (.str x t) (.ref d)) Q E s := in_dg F hd (by rw [hv.is]; exact h)
theorem in_no (F : Fm H wr G₀ h₀ L G mu s.heap m) (hd : DicG w G d kvs) (hv : NoV kvs x) (h : Q (.bool false) { s with toks := s.toks + 1 }) :
    wpAny (model pw w) A (compareOp .In (.str x t) (.ref d)) Q E s := in_dg F hd (by rw [hv.is]; exact h)
theorem nin_yes (F : Fm H wr G₀ h₀ L G mu s.heap m) (hd : DicG w G d kvs) (hv : HasV kvs x v) (h : Q (.bool false) { s with toks := s.toks + 1 }) :
    wpAny (model pw w) A (compareOp .NotIn (.str x t) (.ref d)) Q E s := nin_dg F hd (by rw [hv.is]; exact h)
theorem nin_no (F : Fm H wr G₀ h₀ L G mu s.heap m) (hd : DicG w G d kvs) (hv : NoV kvs x) (h : Q (.bool true) { s with toks := s.toks + 1 }) :
    wpAny (model pw w) A (compareOp .NotIn (.str x t) (.ref d)) Q E s := nin_dg F hd (by rw [hv.is]; exact h)
theorem sub_yes {value slice : Expr} (F : Fm H wr G₀ h₀ L G mu s.heap m) (hd : DicG w G d kvs) (hv : HasV kvs x v) (h : Q v { s with toks := s.toks + 1 })
    (hs : subscripted slice false (.ref d) (.str x t) = operate [.ref d, .str x t] (getItem (.ref d) (.str x t)) := by with_unfolding_all rfl) :
    wpAny (model pw w) A (subscriptTail value slice (.ref d) (.str x t)) Q E s := sub_dg F hd hv.is h hs
end
theorem rgoW812 : True := by
  k_with "call ref" => (((with_reducible show wpAny _ _ (call (Value.ref 305) _) _ _ _); (rename Fm _ _ _ _ _ _ _ _ _ => FF'); refine c_is_tuple_name (by assumption) (by assumption) (Room.deeper (Room.le (by assumption) (by first | exact Nat.le_of_ble_eq_true rfl | exact rm_lit | omega))) (Fm.top FF') (Fm.inn FF') ?_; intro gS' hS' tS' WS'; (have glS := Went.sub WS'); (have FS' := Fm.call FF' WS'); clear FF'))
  trivial
theorem rgpW813 : True := by
  k_with "compareOp In str ref" => ((fail_if_success (k_extra "off:W8")); k_extra "W8:compareOp In str ref")
  trivial
theorem rgoW813 : True := by
  k_with "W8:compareOp In str ref" => (first | (refine in_yes (by assumption) (DicG.mono (by k_extra "ktr_room") (by assumption)) (by assumption) ?_) | (refine in_no (by assumption) (DicG.mono (by k_extra "ktr_room") (by assumption)) (by assumption) ?_))
  trivial
theorem rgpW814 : True := by
  k_with "compareOp NotIn str ref" => ((fail_if_success (k_extra "off:W8")); k_extra "W8:compareOp NotIn str ref")
  trivial
theorem rgoW814 : True := by
  k_with "W8:compareOp NotIn str ref" => (first | (refine nin_yes (by assumption) (DicG.mono (by k_extra "ktr_room") (by assumption)) (by assumption) ?_) | (refine nin_no (by assumption) (DicG.mono (by k_extra "ktr_room") (by assumption)) (by assumption) ?_))
  trivial
theorem rgpW815 : True := by
  k_with "subscriptTail" => ((fail_if_success (k_extra "off:W8")); k_extra "W8:subscriptTail")
  trivial
theorem rgoW815 : True := by
  k_with "W8:subscriptTail" => (((with_reducible show wpAny _ _ (subscriptTail _ _ (Value.ref _) (Value.str _ _)) _ _ _); refine sub_yes (by assumption) (DicG.mono (by k_extra "ktr_room") (by assumption)) (by assumption) ?_))
  trivial
set_option maxHeartbeats 1000000 in
theorem c_arity {v : Value} {n : Nm} {t1 : Tok} {Q : Value → Shared → Prop} (B : Bs w K H mg mb) (k : KOk K) (rm : Room A 6) (hH : HLe H G) (hG : GIn G s.heap) (hv : KnG w G v)
    (h : ∀ t2 G' h' tk', Went [] G s.heap G' h' → Q (.int (ar n : Nat) t2) { s with heap := h', toks := tk' }) :
    wpAny (model pw w) A (call (.ref 347) [v, .str n.str t1]) Q E s := dis (by
  simp (disch := k_dflt (
    refine dis ?_
    have hf := k.f347
    obtain ⟨t, e⟩ : ∃ t, t = clsFd 23 1 := ⟨_, rfl⟩
    rw [← e] at hf
    conv at e => (rhs; whnf)
    subst e
    obtain ⟨x, d, rfl, hx, hd⟩ := hv
    obtain ⟨vs, kvs, hvs, _, hdic, hat, hno⟩ := ConsG_at hd
    refine wpAny_call (code_fn (binds := [("self", .ref x), ("name", .str n.str t1)]) [] [] B hf hH hG rm.depth (by simp) (fun _ _ _ _ _ _ => BindsTo.of_eq (by rfl)) (by rfl) (by rfl) ?_)
    clear hf
    intro L h₁ cdv nL F
    by_cases q : n = .T2
    · subst q
      k_extra "kc_close"
      rw [show ((Nm.T2.str.length : Int) - 1) = ((ar Nm.T2 : Nat) : Int) from by decide +kernel]
      exact h _ _ _ _ (Fm.done (by assumption) nL)
    · obtain ⟨v1, hv1, y, u1, u2, u3, u4, u5, u6, u7, u8, rfl, hi⟩ := hat n q
      have e0 : (ar n : Int) = 0 := by cases n <;> first | rfl | exact absurd rfl q
      rw [e0] at h
      k_extra "kc_close"
      exact h _ _ _ _ (Fm.done (by assumption) nL))) only [↓und])
end
end
theorem rgeW8 : True := by
  k_with "off:W8" => skip
  trivial
section
section
variable {w : World} {A : Around} {E : Value → Shared → Prop} {s : Shared}
theorem ints_of {g : Nat → Option Int} : ∀ {vs : List Value}, (∀ j v, vs[j]? = some v → ∃ k t, g j = some k ∧ v = .int k t) → ∃ ns : List Int, IntsAre vs ns ∧ ns.length = vs.length ∧ ∀ j k, ns[j]? = some k → g j = some k := by
  intro vs
  induction vs generalizing g with
  | nil => intro _; exact ⟨[], .nil, rfl, fun j k e => by simp at e⟩
  | cons v vs ih =>
    intro h
    obtain ⟨k, t, hg, rfl⟩ := h 0 v rfl
    obtain ⟨ns, a, b, c⟩ := ih (g := fun j => g (j + 1)) fun j u e => h (j + 1) u (by simpa using e)
    refine ⟨k :: ns, .cons k t a, by simp [b], fun j k' e => ?_⟩
    cases j with
    | zero => simp at e; subst e; exact hg
    | succ j => exact c j k' (by simpa using e)
theorem sorted_dict {d : Addr} {kvs : List (Int × Value)} {Q : Value → Shared → Prop} (hh : A.handled = none) (lo : (d == sysModules) = false) (hd : s.heap.DictOf (intKind pw w) d kvs) (h64 : kvs.length < 64)
    (h : ∀ D h' tk out ns' e, s.heap.get? D = none → (∀ b o, s.heap.get? b = some o → h'.get? b = some o) → h'.get? D = some (seqObj "list" out e) → IntsAre out.toList ns' → ns'.Perm (kvs.map (·.1)) → ns'.Pairwise (· ≤ ·) → Q (.ref D) { s with heap := h', toks := tk }) :
    wpAny (model pw w) A (call (.builtin "sorted") [.ref d]) Q E s := by
  obtain ⟨ep, hat⟩ := hd.dictAt
  refine call_function_entry kind_sorted plain_sorted entry_sorted (args_sorted1 _) ?_
  unfold Builtin.«sorted»
  refine wpAny_bind (m := checkCount "sorted" 1 1 _) (wpAny_pure ?_)
  refine wpAny_bind (kdu_collect (A := A.in1) (kdl_dict (knd := intKind pw w) (kvs := kvs) (ep := ep) lo) hh hat (Nat.le_trans (Nat.le_of_lt h64) (by decide)) fun h' tk acc hk hacc => ?_)
  have hl : acc.toList.length = kvs.length := by rw [Array.length_toList]; exact hacc.1
  obtain ⟨ns, hI, hn, hns⟩ := ints_of (g := fun j => (kvs.map (·.1))[j]?) (vs := acc.toList) fun j v e => by
    obtain ⟨k, x, hx, hkey⟩ := hacc.2 j v (by rw [← Array.getElem?_toList]; exact e)
    obtain ⟨t, rfl⟩ := Value.isInt_shape hkey
    exact ⟨k, t, by simp [hx], rfl⟩
  have hnk : ns = kvs.map (·.1) := by
    refine List.ext_getElem? fun j => ?_
    cases e : ns[j]? with
    | some k => exact (hns j k e).symm
    | none =>
      have : ns.length ≤ j := List.getElem?_eq_none_iff.mp e
      exact (List.getElem?_eq_none (by simp; omega)).symm
  refine wpAny_bind (wpAny_newList ?_ (by rw [hl]; exact Nat.le_trans (Nat.le_of_lt h64) (by decide)))
  have hoL : (h'.push (seqObj "list" acc.toList.toArray 0)).get? h'.objs.size = some (seqObj "list" acc.toList.toArray 0) := Heap.get?_push_size _ rfl
  refine wpAny_bind (wpAny_holding (wpAny_call_entry slot_list_sort ⟨_, hoL, rfl⟩ entry_list_sort (list_sort_tree hoL hI (by rw [hl]; exact h64) fun out ns' a1 a2 a3 => ⟨_, rfl, ?_⟩) (args_list_sort _)))
  obtain ⟨e, he⟩ := sortedHeap_at (out := out) hoL
  refine wpAny_pure ⟨_, rfl, h _ _ _ out ns' e ?_ ?_ he a1 (hnk ▸ a2) a3⟩
  · cases q : s.heap.get? h'.objs.size with
    | none => rfl
    | some o => have := hk _ _ q; rw [none_size] at this; cases this
  · intro b o e
    have hlt := Heap.lt_size (hk b o e)
    rw [sortedHeap_old (Nat.ne_of_lt hlt) (by rw [size_push']; exact Nat.lt_succ_of_lt hlt)]
    exact Heap.get?_push_of_some _ (hk b o e)
end
section
variable {w : World} {K : Frag} {H : Heap} {mg mb : Str → Option Value} {A : Around} {E : Value → Shared → Prop} {s : Shared} {G : Gr}
  {wr : List Addr} {G₀ : Gr} {h₀ : Heap} {L : Addr} {mu : List (Addr × Obj)} {m : Str → Option Value} {env : Env}
theorem setd_mu {Kt : Type} [DecidableEq Kt] {knd : KeyKind pw w Kt} {d : Addr} {o : Obj} {kvs : List (Kt × Value)} {k : Kt} {key v : Value} {Q : Unit → Shared → Prop}
    (F : Fm H wr G₀ h₀ L G mu s.heap m) (hm : (d, o) ∈ mu) (ho : o.IsDictOf knd kvs) (hw : d ∈ wr ∨ h₀.get? d = none) (hkey : knd.is k key = true) (hsz : kvs.length ≤ 64)
    (h : ∀ h' o', o'.IsDictOf knd (stored kvs k v) → Fm H wr G₀ h₀ L G (setMu d o' mu) h' m → Q () { s with heap := h', toks := s.toks + 1 }) :
    wpAny (model pw w) A (setItem (.ref d) key v) Q E s :=
  wpAny_setItem_pairs (hsz := Nat.le_trans hsz (by decide)) hkey (Heap.dictOf_iff.mpr ⟨o, (F.mus _ hm).1, ho⟩) fun h' hd hs => by
    obtain ⟨o', ho', hd'⟩ := Heap.dictOf_iff.mp hd
    exact h h' o' hd' (F.upd hm hs ho' hw)
theorem nd_mut {Kt : Type} [DecidableEq Kt] {knd : KeyKind pw w Kt} {Q : Value → Shared → Prop} (B : Bs w K H mg mb) (F : Fm H wr G₀ h₀ L G mu s.heap m)
    (h : ∀ a o h', o.IsDictOf knd [] → h₀.get? a = none → (∀ p ∈ mu, p.1 ≠ a) → (a == sysModules) = false → Fm H wr G₀ h₀ L G ((a, o) :: mu) h' m → Q (.ref a) { s with heap := h' }) : wpAny (model pw w) A newDict Q E s := by
  have hlt : mainGlobals < s.heap.objs.size := by
    obtain ⟨o, _, _, ho, _⟩ := B.g
    exact Heap.lt_size (F.topIn _ _ ho)
  refine wpAny_newObj_type (h _ _ _ ?_ F.h0size F.musize ?_ (F.allocMut _)) (Nat.zero_le _)
  · exact ⟨#[], 0, ⟨rfl, rfl, rfl⟩, rfl, by intro i hi; simp at hi, .nil, .nil⟩
  · have : s.heap.objs.size ≠ sysModules := fun e => by rw [e] at hlt; revert hlt; decide
    simpa using this
theorem for_dict {x : Str} {px : Pos} {body : List Stmt} {d : Addr} {kvs : List (Str × Value)} {Q : Flow → Shared → Prop} {ER : Value → Shared → Prop}
    (Inv : Nat → Gr → List (Addr × Obj) → (Str → Option Value) → Prop)
    (F : Fm H wr G₀ h₀ env.locals G mu s.heap m) (hd : DicG w G d kvs) (hh : A.handled = none) (hinv : Inv 0 G mu m)
    (turn : ∀ i k v t G' mu' m' h tk I oI, kvs[i]? = some (k, v) → Inv i G' mu' m' → GLe G G' → mu'.map (·.1) = mu.map (·.1) → (∀ p ∈ mu', p.1 ≠ I) → h₀.get? I = none → Fm H wr G₀ h₀ env.locals G' ((I, oI) :: mu') h m' →
      wpAny (model pw w) A (assign (.Name x px) env (.str k t)) (fun _ s₂ => wpAny (model pw w) A (execs body env) (fun f s₃ => match f with
          | .next | .cont => ForEnd H wr G₀ h₀ env.locals I oI G' mu' (Inv (i + 1)) s s₃
          | .brk => Q .next s₃
          | .ret v => Q (.ret v) s₃) (fun _ _ => False) s₂) (fun _ _ => False) { s with heap := h, toks := tk })
    (done : ∀ h' tk G' mu' m', Inv kvs.length G' mu' m' → GLe G G' → mu'.map (·.1) = mu.map (·.1) → Fm H wr G₀ h₀ env.locals G' mu' h' m' → Q .next { s with heap := h', toks := tk }) :
    wpAny (model pw w) A (pyIter (.ref d)) (fun it s₂ => codeAny (model pw w) A (.forLoop (.Name x px) it body [] env) (fun r s' => match r with | .ok f => Q f s' | .error e => ER e s') s₂) E s := by
  obtain ⟨ep, hat⟩ := (hd.at F.inn).dictAt
  obtain ⟨lo, ol, hol, hr⟩ := hd
  have nI : s.heap.get? s.heap.objs.size = none := none_size _
  have lI : d ≠ s.heap.objs.size := fun q => by have := F.inn _ _ hol; rw [q, nI] at this; cases this
  refine wpAny_pyIter_dict lo hat ?_
  obtain ⟨sh, sg, sd, st, so⟩ := s
  dsimp only at *
  have F₁ := F.kept fun b o e => Heap.get?_push_of_some ({ cls := .type "dict_keyiterator", data := .fields #[.ref d, .int 0 0, .int kvs.length 0, .int ep 0] } : Obj) e
  have W := Walks.dictKeys (knd := PySem.strKind pw w) (A := A) hh sh.objs.size d lI kvs ep
  refine for_block (s := ⟨_, sg, sd, st, so⟩) Inv W (fun i h st => by obtain ⟨⟨o, ho, _⟩, _⟩ := st; exact ⟨o, ho⟩) ?_ F₁ (Ne.symm F.Lsize) F.Gsize F.h0size F.musize
    ⟨⟨_, Heap.get?_push_size _ rfl, rfl, rfl⟩, hat.push _⟩ ?_ hinv ?_ done
  · intro b hb hbI
    rcases List.mem_cons.mp hb with q | q
    · exact absurd q hbI
    · exact ⟨ol, (List.mem_singleton.mp q) ▸ hol⟩
  · intro i v s' Q E _ hQ; exact wpAny_pure hQ
  · rintro i v G' mu' m' h tk oI hi ⟨k, x, hx, hk⟩ a b c d' e
    obtain ⟨t, rfl⟩ := Value.isStrOf_shape hk
    exact turn i k x t G' mu' m' h tk _ oI hx a b c d' F.h0size e
end
end
section
noncomputable def DicI (w : World) (G : Gr) (d : Addr) (kvs : List (Int × Value)) : Prop := (d == sysModules) = false ∧ ∃ o, G d = some o ∧ o.IsDictOf (intKind pw w) kvs
theorem DicI.mono {w : World} {G G' : Gr} (s : GLe G G') {d : Addr} {kvs : List (Int × Value)} (h : DicI w G d kvs) : DicI w G' d kvs := let ⟨a, o, e, r⟩ := h; ⟨a, o, s _ _ e, r⟩
theorem DicI.at {w : World} {G : Gr} {h : Heap} {d : Addr} {kvs : List (Int × Value)} (x : DicI w G d kvs) (g : GIn G h) : h.DictOf (intKind pw w) d kvs := let ⟨_, o, e, r⟩ := x; Heap.dictOf_iff.mpr ⟨o, g _ _ e, r⟩
section
variable {w : World} {K : Frag} {H : Heap} {mg mb : Str → Option Value} {A : Around} {E : Value → Shared → Prop} {s : Shared} {G : Gr}
  {wr : List Addr} {G₀ : Gr} {h₀ : Heap} {L : Addr} {mu : List (Addr × Obj)} {m : Str → Option Value} {env : Env}
theorem Fm.took {h : Heap} {h' : Heap} {D : Addr} {o : Obj} (F : Fm H wr G₀ h₀ L G mu h m) (n : h.get? D = none) (hk : ∀ b o, h.get? b = some o → h'.get? b = some o) (hD : h'.get? D = some o) : Fm H wr G₀ h₀ L (GAdd G D o) mu h' m := by
  refine F.call ⟨GAdd.le (F.inn.fresh n), ?_, ?_, fun b o _ e => hk b o e, fun b o e => ⟨o, hk b o e⟩⟩
  · intro b o e
    by_cases q : b = D
    · subst q; rw [GAdd.self] at e; cases e; exact hD
    · rw [GAdd.ne q] at e; exact hk _ _ (F.inn b o e)
  · intro b o e
    by_cases q : b = D
    · exact .inr (q ▸ n)
    · rw [GAdd.ne q] at e; exact .inl e
theorem sorted_g {d : Addr} {kvs : List (Int × Value)} {Q : Value → Shared → Prop} (F : Fm H wr G₀ h₀ L G mu s.heap m) (hh : A.handled = none) (hd : DicI w G d kvs) (h64 : kvs.length < 64) (hs : (kvs.map (·.1)).Pairwise (· ≤ ·))
    (h : ∀ D h' tk out G', GLe G G' → LstG G' D out → IntsAre out (kvs.map (·.1)) → Fm H wr G₀ h₀ L G' mu h' m → Q (.ref D) { s with heap := h', toks := tk }) :
    wpAny (model pw w) A (call (.builtin "sorted") [.ref d]) Q E s := by
  refine sorted_dict hh hd.1 (hd.at F.inn) h64 fun D h' tk out ns' e n hk hD hI hp hw => ?_
  have q : ns' = kvs.map (·.1) := hp.eq_of_pairwise (fun a b _ _ x y => Int.le_antisymm x y) hw hs
  subst q
  exact h D h' tk out.toList _ (GAdd.le (F.inn.fresh n)) ⟨_, GAdd.self, rfl, e, by simp [seqObj]⟩ hI (F.took n hk hD)
theorem sub_dgi {value slice : Expr} {d : Addr} {kvs : List (Int × Value)} {x : Int} {t : Tok} {v : Value} {Q : Value → Shared → Prop} (F : Fm H wr G₀ h₀ L G mu s.heap m) (hd : DicI w G d kvs) (hv : valueAt kvs x = some v) (h : Q v { s with toks := s.toks + 1 })
    (hs : subscripted slice false (.ref d) (.int x t) = operate [.ref d, .int x t] (getItem (.ref d) (.int x t)) := by with_unfolding_all rfl) :
    wpAny (model pw w) A (subscriptTail value slice (.ref d) (.int x t)) Q E s :=
  tail_any (hd.at F.inn).typeIs slot_dict_getitem.lookup (wpAny_getItem_of (intKind_is pw w x t) (hd.at F.inn).mapOf hv h) hs
theorem in_t2 {l : Addr} {t t1 t2 : Tok} {Q : Value → Shared → Prop} (F : Fm H wr G₀ h₀ L G mu s.heap m) (hl : G l = some ⟨.type "tuple", none, .seq [.str (Str.ofString "[]") t1, .str (Str.ofString ":") t2].toArray 0, #[]⟩) (h : Q (.bool false) s) :
    wpAny (model pw w) A (compareOp .In (.str Nm.T2.str t) (.ref l)) Q E s := by
  refine SeqAt.in_tupleAt (eqN .T2) ⟨_, F.inn _ _ hl, rfl, 0, rfl⟩ (fun y hy => ?_) ?_
  · simp only [List.mem_toArray, List.mem_cons, List.not_mem_nil, or_false] at hy
    rcases hy with rfl | rfl <;> exact SeqAt.EqAt.str_str _ _ _ _
  · have e : [Value.str (Str.ofString "[]") t1, .str (Str.ofString ":") t2].toArray.any (eqN .T2) = false := by
      rw [List.any_toArray]; simp only [List.any_cons, List.any_nil, eqN]; decide +kernel
    rw [e]; exact h
end
end
section
noncomputable def sibs : Nm → List Nm
  | .F | .U => [.F, .U]
  | .R | .G | .W => [.R, .G, .W]
  | .T2 => [.T2]
noncomputable def sameT (n a : Nm) : Bool := tyN a == tyN n
noncomputable def grpN (n : Nm) (i : Nat) : List Nm := (allN.take i).filter (sameT n)
noncomputable def FK (p : Int × Value) (n : Nm) : Prop := p.1 = tagN n ∧ NmV p.2 n
theorem grp_all {n : Nm} (h : n ≠ .T2) : grpN n 5 = sibs n := by revert h; cases n <;> decide +kernel
theorem grp_yes {n a : Nm} {i : Nat} (e : allN[i]? = some a) (h : (tyN a == tyN n) = true) : grpN n (i + 1) = grpN n i ++ [a] := by
  unfold grpN; rw [take_snoc e, List.filter_append]; simp [sameT, h]
theorem grp_no {n a : Nm} {i : Nat} (e : allN[i]? = some a) (h : (tyN a == tyN n) = false) : grpN n (i + 1) = grpN n i := by
  unfold grpN; rw [take_snoc e, List.filter_append]; simp [sameT, h]
theorem FK_keys {kvs : List (Int × Value)} {ns : List Nm} (h : All2 FK kvs ns) : kvs.map (·.1) = ns.map tagN := by
  induction h with
  | nil => rfl
  | cons h _ ih => simp [h.1, ih]
theorem grp_tags {n a : Nm} {i : Nat} (hn : n ≠ .T2) (e : allN[i]? = some a) (h : (tyN a == tyN n) = true) : tagN a ∉ (grpN n i).map tagN := by
  have hi : i < 5 := (List.getElem?_eq_some_iff.mp e).1
  revert h hn
  rcases i with _ | _ | _ | _ | _ | i
  · cases e; cases n <;> decide +kernel
  · cases e; cases n <;> decide +kernel
  · cases e; cases n <;> decide +kernel
  · cases e; cases n <;> decide +kernel
  · cases e; cases n <;> decide +kernel
  · omega
theorem sib_pw {n : Nm} : ((sibs n).map tagN).Pairwise (· ≤ ·) := by cases n <;> decide
theorem sib_nd {n : Nm} : ((sibs n).map tagN).Nodup := by cases n <;> decide
theorem FK_len {kvs : List (Int × Value)} {n : Nm} {i : Nat} (h : All2 FK kvs (grpN n i)) : kvs.length ≤ 5 := by
  rw [h.length]
  exact Nat.le_trans (List.length_filter_le ..) (Nat.le_trans (List.length_take_le' ..) (by decide))
theorem sib_len {n : Nm} : (sibs n).length ≤ 3 := by cases n <;> decide
theorem kvs_at {vs : List Value} {i : Nat} {k : Str} {v : Value} (e : ((allN.map Nm.str).zip vs)[i]? = some (k, v)) : ∃ a, allN[i]? = some a ∧ k = a.str ∧ a ≠ Nm.T2 := by
  obtain ⟨h1, -⟩ := List.getElem?_zip_eq_some.mp e
  rw [List.getElem?_map] at h1
  obtain ⟨a, ha, rfl⟩ := Option.map_eq_some_iff.mp h1
  exact ⟨a, ha, rfl, fun q => by have := List.mem_of_getElem? ha; rw [q] at this; revert this; decide⟩
theorem fk_get {fk : List (Int × Value)} {ns : List Nm} {out : List Value} (h : All2 FK fk ns) (ho : IntsAre out (fk.map (·.1))) (hn : (ns.map tagN).Nodup) {i : Nat} {v : Value} (e : out[i]? = some v) :
    ∃ k t x a, v = .int k t ∧ valueAt fk k = some x ∧ ns[i]? = some a ∧ NmV x a := by
  have hl : i < fk.length := by
    have := ho.length
    rw [List.length_map] at this
    rw [← this]; exact (List.getElem?_eq_some_iff.mp e).1
  obtain ⟨a, ha, hk, hx⟩ := h.get (List.getElem?_eq_getElem hl)
  obtain ⟨k, t, rfl, hk2⟩ : ∃ k t, v = .int k t ∧ (fk.map (·.1))[i]? = some k := by
    clear hn h hl ha hk hx
    generalize fk.map (·.1) = ks at ho
    induction ho generalizing i with
    | nil => simp at e
    | cons k t _ ih =>
      cases i with
      | zero => simp at e; exact ⟨k, t, e.symm, rfl⟩
      | succ i => simpa using ih (by simpa using e)
  rw [List.getElem?_map, List.getElem?_eq_getElem hl] at hk2
  simp at hk2
  subst hk2
  exact ⟨_, t, fk[i].2, a, rfl, valueAt_of_get (by rw [FK_keys h]; exact hn) (i := i) (by rw [List.getElem?_eq_getElem hl]), ha, hx⟩
section
variable {w : World} {K : Frag} {H : Heap} {mg mb : Str → Option Value} {A : Around} {E : Value → Shared → Prop} {s : Shared} {G : Gr}
theorem rgpW916 : True := by
  k_with "compareOp In str ref" => ((fail_if_success (k_extra "off:W9")); k_extra "W9:compareOp In str ref")
  trivial
theorem rgoW916 : True := by
  k_with "W9:compareOp In str ref" => (refine in_t2 (by assumption) (by assumption) ?_)
  trivial
theorem rgpW917 : True := by
  k_with "compareOp NotIn str ref" => ((fail_if_success (k_extra "off:W9")); k_extra "W9:compareOp NotIn str ref")
  trivial
theorem rgoW917 : True := by
  k_with "W9:compareOp NotIn str ref" => (first | (refine nin_yes (by assumption) (DicG.mono (by k_extra "ktr_room") (by assumption)) (by assumption) ?_) | (refine nin_no (by assumption) (DicG.mono (by k_extra "ktr_room") (by assumption)) (by assumption) ?_))
  trivial
theorem rgpW918 : True := by
  k_with "subscriptTail" => ((fail_if_success (k_extra "off:W9")); k_extra "W9:subscriptTail")
  trivial
theorem rgoW918 : True := by
  k_with "W9:subscriptTail" => (((with_reducible show wpAny _ _ (subscriptTail _ _ (Value.ref _) (Value.str _ _)) _ _ _); refine sub_yes (by assumption) (DicG.mono (by k_extra "ktr_room") (by assumption)) (by assumption) ?_))
  trivial
theorem rgpW919 : True := by
  k_with "eval Name" => ((fail_if_success (k_extra "off:W9")); k_extra "W9:eval Name")
  trivial
theorem rgoW919 : True := by
  k_with "W9:eval Name" => (first | (with_unfolding_all refine nm_local (by assumption) (by first | rfl | assumption) ?_) | (with_unfolding_all refine nm_glob (by assumption) (by assumption) (KOk.gl (by assumption)) ?_) | (with_unfolding_all refine nm_blt (by assumption) (by assumption) (KOk.bl (by assumption)) (by boot_by_name) (by decide) ?_) | (with_unfolding_all refine nm_glob (by assumption) (by assumption) (by assumption) ?_) | (with_unfolding_all refine nm_cell (by assumption) (by rfl) (by k_extra "kt_at_in") (by assumption) ?_))
  trivial
theorem rgoW920 : True := by
  k_with "W9:eval Name" => (k_extra "keq_rows")
  trivial
theorem rgoW921 : True := by
  k_with "W9:subscriptTail" => (((with_reducible show wpAny _ _ (subscriptTail _ _ (Value.ref _) (Value.int _ _)) _ _ _); refine sub_dgi (by assumption) (by first | assumption | (refine DicI.mono ?_ (by assumption); k_extra "ktr_room")) (by assumption) ?_))
  trivial
theorem rgpW922 : True := by
  k_with "setItem ref" => ((fail_if_success (k_extra "off:W9")); k_extra "W9:setItem ref")
  trivial
theorem rgoW922 : True := by
  k_with "W9:setItem ref" => (k_dflt ((refine setd_mu (knd := intKind pw _) (by assumption) (by k_extra "kt_at_in") (by assumption) (.inr (by assumption)) (intKind_is _ _ _ _) (by omega) ?_; intro hS' oS' hoS' FS'; (try simp (disch := assumption) only [setMu_head, setMu_nil, setMu_skip] at FS'))))
  trivial
theorem rgpW923 : True := by
  k_with "storeName" => ((fail_if_success (k_extra "off:W9")); k_extra "W9:storeName")
  trivial
theorem rgoW923 : True := by
  k_with "W9:storeName" => ((with_unfolding_all refine st_cell (by assumption) (by rfl) (by k_extra "kt_at_in") (by assumption) (by first | assumption | exact .inr (by assumption)) ?_; intro hS' oS' FS' hoS'; (try simp (disch := assumption) only [setMu_head, setMu_nil, setMu_skip] at FS')))
  trivial
set_option maxHeartbeats 4000000 in
theorem c_siblings {v : Value} {n : Nm} {t1 : Tok} {Q : Value → Shared → Prop} (B : Bs w K H mg mb) (k : KOk K) (kn : KNm K) (rm : Room A 6) (hH : HLe H G) (hG : GIn G s.heap) (hv : KnG w G v)
    (h : ∀ x ys G' h' tk', Went [] G s.heap G' h' → LstG G' x ys → All2 NmV ys (sibs n) → Q (.ref x) { s with heap := h', toks := tk' }) :
    wpAny (model pw w) A (call (.ref 359) [v, .str n.str t1]) Q E s := dis (by
  simp (disch := k_dflt (
    refine dis ?_
    have hf := k.f359
    obtain ⟨tn, hnil⟩ := kn.nil
    obtain ⟨tc, hcon⟩ := kn.con
    obtain ⟨t, e⟩ : ∃ t, t = clsFd 23 3 := ⟨_, rfl⟩
    rw [← e] at hf
    conv at e => (rhs; whnf)
    subst e
    obtain ⟨x, d, rfl, hx, hd⟩ := hv
    obtain ⟨vs, kvs, hvs, ekvs, hdic, hat, hno⟩ := ConsG_at hd
    refine wpAny_call (code_fnC (binds := [("self", .ref x), ("name", .str n.str t1)]) [] [] B hf hH hG rm.depth (by simp) (fun _ _ _ _ _ _ => BindsTo.of_eq (by rfl)) (by rfl) (by decide) ?_)
    clear hf
    intro L h₁ tk₁ cdv cells nL hcn _ F hC
    obtain ⟨oc, rfl, hoc⟩ := CellsAre.one (n := "found") (c := L + 1) hC
    clear hC
    have hcn0 : s.heap.get? (L + 1) = none := hcn _ (.head _)
    change Fm H [] G s.heap L G [(L + 1, oc)] h₁ (fun y => if y = "name" then some (.str n.str t1) else if y = "self" then some (.ref x) else none) at F
    change oc.data = .cell none at hoc
    by_cases q : n = .T2
    · subst q
      k_extra "kc_close"
      exact h _ _ _ _ _ (Fm.done (by assumption) nL) (by assumption) (.cons ⟨_, rfl⟩ .nil)
    · obtain ⟨v1, hv1, y, u1, u2, u3, u4, u5, u6, u7, u8, rfl, hi⟩ := hat n q
      k_extra "kc_close"
      rw [eval_Dict_empty]
      refine wpAny_bind (wpAny_standAt ?_)
      refine nd_mut (knd := intKind pw _) (by assumption) (by assumption) ?_
      intro d2 od h₂ hod hd0 hdm lod F₂
      clear F
      have hcd : (L + 1) ≠ d2 := hdm _ (.head _)
      have hdc : d2 ≠ (L + 1) := Ne.symm hcd
      k_extra "kc_close"
      refine wpAny_For ?_
      k_extra "kc_close"
      rename Fm _ _ _ _ _ _ _ _ _ => F₃
      rename Obj => oc2
      rename oc2.data = _ => hoc2
      clear F₂
      change Fm H [] G s.heap L G [(d2, od), (L + 1, oc2)] _ (fun y => if y = "name" then some (.str n.str t1) else if y = "self" then some (.ref x) else none) at F₃
      refine for_dict (fun i G' mu' m' => ∃ o fk, mu' = [(d2, o), (L + 1, oc2)] ∧ o.IsDictOf (intKind pw w) fk ∧ All2 FK fk (grpN n i) ∧ m' "self" = some (.ref x) ∧ m' "name" = some (.str n.str t1)) (by assumption) hdic rm.1 ⟨_, _, rfl, hod, .nil, rfl, rfl⟩ ?_ ?_
      · rintro i k2 v2 t2 G₁ mu₁ m₁ h3 tk3 I oI hv ⟨o2, fk, rfl, ho2, hfk, e1, e2⟩ gl hmu hI1 hI2 F4
        clear F₃
        have hId : I ≠ d2 := fun e => hI1 _ (.head _) e.symm
        have hIc : I ≠ (L + 1) := fun e => hI1 _ (.tail _ (.head _)) e.symm
        rw [ekvs] at hv
        obtain ⟨a, ha, rfl, han⟩ := kvs_at hv
        obtain ⟨v3, hv3, y3, u1, u2, u3, u4, u5, u6, u7, u8, rfl, hi3⟩ := hat a han
        have hfl := FK_len hfk
        k_extra "kc_close"
        · have qe : (tyN a == tyN n) = true := by assumption
          k_extra "kpf_close"
          refine ⟨_, _, rfl, by assumption, ?_, by with_unfolding_all exact e1, by with_unfolding_all exact e2⟩
          rw [stored_absent (valueAt_none_of_not_mem (by rw [FK_keys hfk]; exact grp_tags q ha qe)), grp_yes ha qe]
          exact hfk.snoc ⟨rfl, _, rfl⟩
        · have qe : (tyN a == tyN n) = false := by assumption
          k_extra "kpf_close"
          refine ⟨_, _, rfl, by assumption, ?_, by with_unfolding_all exact e1, by with_unfolding_all exact e2⟩
          rw [grp_no ha qe]
          exact hfk
      · rintro h3 tk3 G3 mu3 m3 ⟨o2, fk, rfl, ho2, hfk, e1, e2⟩ gl3 hmu3 F4
        clear F₃
        have F5 := F4.settle hd0 (by simpa using hcd)
        have gl5 : GLe G3 (GAdd G3 d2 o2) := GAdd.le (F4.mus _ (.head _)).2.2
        have hdi : DicI w (GAdd G3 d2 o2) d2 fk := ⟨lod, _, GAdd.self, ho2⟩
        clear F4
        have hlen : kvs.length = 5 := by rw [ekvs, List.length_zip, List.length_map, hvs.length]; rfl
        rw [hlen, grp_all q] at hfk
        k_extra "kc_close"
        refine ev_comp (by rfl) (by rfl) (by rfl) ?_
        k_extra "kc_close"
        refine sorted_g (by assumption) rm.1 hdi (by have := hfk.length; have := sib_len (n := n); omega) (by rw [FK_keys hfk]; exact sib_pw) ?_
        intro D h5 tk5 out G5 gl6 hD hI F6
        clear F5
        k_extra "kc_close"
        refine comp_lst [] (fun i G' mu' ys => mu' = [(L + 1, oc2)] ∧ All2 NmV ys ((sibs n).take i)) (by assumption) hD rm.1 (by
          have h1 := hI.length; rw [List.length_map, hfk.length] at h1; have := sib_len (n := n); rw [h1]; exact Nat.le_trans this (by decide)) (by rfl) (by rfl) (.inl ⟨_, _, rfl⟩) (by simp) ⟨rfl, .nil⟩ ?_ ?_
        · rintro i v ys G₁ mu₁ C h₂ tk₂ m₁ hv ⟨rfl, hys2⟩ gl hys hmu F₂
          obtain ⟨k2, t2, x2, a, rfl, hva, hsa, hx2⟩ := fk_get hfk hI sib_nd hv
          k_extra "kc_close"
          k_extra "kpf_close"
          exact ⟨rfl, by rw [take_snoc hsa]; exact hys2.snoc hx2⟩
        · rintro D C2 k2 h3 tk3 G3 mu3 ys3 m3 ⟨rfl, h5⟩ hys3 gl3 hmu3 F3 hD0 hDm hnC hCL hCD hC0 hGC hCm
          refine cp_none F3 hD0 hDm hnC hCL hCD hC0 hGC hCm ?_
          intro h4 G4 gl4 hl4 F4
          clear F3
          have h1 := hI.length; rw [List.length_map, hfk.length] at h1
          rw [h1, List.take_length] at h5
          k_extra "kc_close"
          exact h _ _ _ _ _ (Fm.done (by assumption) nL) (by assumption) h5)) only [↓und])
end
end
theorem rgeW9 : True := by
  k_with "off:W9" => skip
  trivial
section
noncomputable def toldC : List Nm → C1
  | [] => .w
  | h :: t => match (sibs h).find? (fun a => decide (a ∉ h :: t)) with
    | some n => .a n
    | none => .w
theorem told_at {h : Nm} {t : List Nm} {i : Nat} {n : Nm} (e : (sibs h)[i]? = some n) (ha : ∀ a ∈ (sibs h).take i, a ∈ h :: t) (hn : n ∉ h :: t) : toldC (h :: t) = .a n ∧ n ≠ Nm.T2 := by
  have hs : sibs h = (sibs h).take i ++ n :: (sibs h).drop (i + 1) := by
    have q := List.take_append_drop (i + 1) (sibs h)
    rw [take_snoc e, List.append_assoc] at q
    exact q.symm
  constructor
  · have : (sibs h).find? (fun a => decide (a ∉ h :: t)) = some n := by
      rw [hs, List.find?_append, List.find?_eq_none.mpr, List.find?_cons, decide_eq_true hn]
      · rfl
      · intro a hm; simp only [decide_eq_true_eq]; exact fun q => q (ha a hm)
    simp only [toldC, this]
  · rintro rfl
    have hm := List.mem_of_getElem? e
    revert hm hn; cases h <;> simp [sibs]
theorem told_none {h : Nm} {t : List Nm} (ha : ∀ a ∈ sibs h, a ∈ h :: t) : toldC (h :: t) = .w := by
  have : (sibs h).find? (fun a => decide (a ∉ h :: t)) = none := List.find?_eq_none.mpr fun a hm => by simp only [decide_eq_true_eq]; exact fun q => q (ha a hm)
  simp only [toldC, this]
section
variable {prog : Program} {w : World} {H : Heap} {A : Around} {E : Value → Shared → Prop} {s : Shared} {G : Gr}
  {wr : List Addr} {G₀ : Gr} {h₀ : Heap} {L : Addr} {mu : List (Addr × Obj)} {m : Str → Option Value}
theorem ne_cons {l b : Addr} {v : Value} {vs : List Value} {Q : Value → Shared → Prop} (F : Fm H wr G₀ h₀ L G mu s.heap m) (hl : LstG G l (v :: vs)) (hb : LstG G b []) (hu : A.units < cLine) (h : Q (.bool true) s) :
    wpAny (model prog w) A (compareOp .NotEq (.ref l) (.ref b)) Q E s := ne_nil F hl hb hu h
theorem ne_none {l b : Addr} {Q : Value → Shared → Prop} (F : Fm H wr G₀ h₀ L G mu s.heap m) (hl : LstG G l []) (hb : LstG G b []) (hu : A.units < cLine) (h : Q (.bool false) s) :
    wpAny (model prog w) A (compareOp .NotEq (.ref l) (.ref b)) Q E s := ne_nil F hl hb hu h
theorem eq_cons {l b : Addr} {v : Value} {vs : List Value} {Q : Value → Shared → Prop} (F : Fm H wr G₀ h₀ L G mu s.heap m) (hl : LstG G l (v :: vs)) (hb : LstG G b []) (hu : A.units < cLine) (h : Q (.bool false) s) :
    wpAny (model prog w) A (compareOp .Eq (.ref l) (.ref b)) Q E s := eq_nil F hl hb hu h
theorem eq_none {l b : Addr} {Q : Value → Shared → Prop} (F : Fm H wr G₀ h₀ L G mu s.heap m) (hl : LstG G l []) (hb : LstG G b []) (hu : A.units < cLine) (h : Q (.bool true) s) :
    wpAny (model prog w) A (compareOp .Eq (.ref l) (.ref b)) Q E s := eq_nil F hl hb hu h
end
theorem sib_ys {ys : List Value} {n : Nm} (h : All2 NmV ys (sibs n)) : ys.length ≤ 3 ∧ ys.length = (sibs n).length := ⟨by rw [h.length]; exact sib_len, h.length⟩
end
theorem rg4 : True := by
  k_with "eval Name" => (first | (with_unfolding_all refine nm_local (by assumption) (by first | rfl | assumption) ?_) | (with_unfolding_all refine nm_glob (by assumption) (by assumption) (KOk.gl (by assumption)) ?_) | (with_unfolding_all refine nm_blt (by assumption) (by assumption) (KOk.bl (by assumption)) (by boot_by_name) (by decide) ?_) | (with_unfolding_all refine nm_glob (by assumption) (by assumption) (by assumption) ?_) | (with_unfolding_all refine nm_cell (by assumption) (by rfl) (by k_extra "kt_at_in") (by assumption) ?_))
  k_with "storeName" => (first | (with_unfolding_all refine st_local (by assumption) ?_; intro hS' FS') | (with_unfolding_all refine st_cell (by assumption) (by rfl) (by k_extra "kt_at_in") (by assumption) (by first | assumption | exact .inr (by assumption)) ?_; intro hS' oS' FS' hoS'; (try simp (disch := assumption) only [setMu_head, setMu_nil, setMu_skip] at FS')))
  k_with "call ref" => (((with_reducible show wpAny _ _ (call (Value.ref 305) _) _ _ _); (rename Fm _ _ _ _ _ _ _ _ _ => FF'); refine c_is_tuple_name (by assumption) (by assumption) (Room.deeper (Room.le (by assumption) (by first | exact Nat.le_of_ble_eq_true rfl | exact rm_lit | omega))) (Fm.top FF') (Fm.inn FF') ?_; intro gS' hS' tS' WS'; (have glS := Went.sub WS'); (have FS' := Fm.call FF' WS'); clear FF'))
  k_with "call ref" => (((with_reducible show wpAny _ _ (call (Value.ref 347) _) _ _ _); (rename Fm _ _ _ _ _ _ _ _ _ => FF'); refine c_arity (by assumption) (by assumption) (Room.deeper (Room.le (by assumption) (by first | exact Nat.le_of_ble_eq_true rfl | exact rm_lit | omega))) (Fm.top FF') (Fm.inn FF') (by (first | assumption | (refine KnG.mono ?_ (by assumption); k_extra "ktr_room"))) ?_; intro t2S' gS' hS' tS' WS'; (have glS := Went.sub WS'); (have FS' := Fm.call FF' WS'); clear FF'))
  k_with "call ref" => (((with_reducible show wpAny _ _ (call (Value.ref 359) _) _ _ _); (rename Fm _ _ _ _ _ _ _ _ _ => FF'); refine c_siblings (by assumption) (by assumption) (by assumption) (Room.deeper (Room.le (by assumption) (by first | exact Nat.le_of_ble_eq_true rfl | exact rm_lit | omega))) (Fm.top FF') (Fm.inn FF') (by (first | assumption | (refine KnG.mono ?_ (by assumption); k_extra "ktr_room"))) ?_; intro xS' ysS' gS' hS' tS' WS' lS' aS'; (have lnS := sib_ys aS'); (have glS := Went.sub WS'); (have FS' := Fm.call FF' WS'); clear FF'))
  k_with "call ref" => (((with_reducible show wpAny _ _ (call (Value.ref 385) _) _ _ _); (rename Fm _ _ _ _ _ _ _ _ _ => FF'); refine c_has_plain_row (by assumption) (by assumption) (Room.deeper (Room.le (by assumption) (by first | exact Nat.le_of_ble_eq_true rfl | exact rm_lit | omega))) (Fm.top FF') (Fm.inn FF') (by (first | assumption | (refine MatG.mono ?_ (by assumption); k_extra "ktr_room"))) (by assumption) (by assumption) ?_; intro gS' hS' tS' WS'; (have glS := Went.sub WS'); (have FS' := Fm.call FF' WS'); clear FF'))
  k_with "call ref" => (((with_reducible show wpAny _ _ (call (Value.ref 397) _) _ _ _); (rename Fm _ _ _ _ _ _ _ _ _ => FF'); refine c_lines_of (by assumption) (by assumption) (Room.deeper (Room.le (by assumption) (by first | exact Nat.le_of_ble_eq_true rfl | exact rm_lit | omega))) (Fm.top FF') (Fm.inn FF') (by first | exact ⟨_, _, rfl, by assumption, .cons (by (first | assumption | (refine RowG.mono ?_ (by assumption); k_extra "ktr_room"))) .nil⟩ | (first | assumption | (refine MatG.mono ?_ (by assumption); k_extra "ktr_room"))) (by assumption) (by assumption) (by assumption) ?_; intro xS' gS' hS' tS' WS' lS'; (have glS := Went.sub WS'); (have FS' := Fm.call FF' WS'); clear FF'))
  k_with "call ref" => (((with_reducible show wpAny _ _ (call (Value.ref 402) _) _ _ _); (rename Fm _ _ _ _ _ _ _ _ _ => FF'); refine c_with_con (by assumption) (by assumption) (Room.deeper (Room.le (by assumption) (by first | exact Nat.le_of_ble_eq_true rfl | exact rm_lit | omega))) (Fm.top FF') (Fm.inn FF') (by first | exact ⟨_, _, rfl, by assumption, .cons (by (first | assumption | (refine LineG.mono ?_ (by assumption); k_extra "ktr_room"))) .nil⟩ | (first | assumption | (refine LinesG.mono ?_ (by assumption); k_extra "ktr_room"))) (by assumption) (by assumption) ?_; intro xS' gS' hS' tS' WS' lS'; (have glS := Went.sub WS'); (have FS' := Fm.call FF' WS'); clear FF'))
  k_with "call ref" => (((with_reducible show wpAny _ _ (call (Value.ref 412) _) _ _ _); (rename Fm _ _ _ _ _ _ _ _ _ => FF'); refine c_with_any (by assumption) (by assumption) (Room.deeper (Room.le (by assumption) (by first | exact Nat.le_of_ble_eq_true rfl | exact rm_lit | omega))) (Fm.top FF') (Fm.inn FF') (by (first | assumption | (refine LinesG.mono ?_ (by assumption); k_extra "ktr_room"))) (by assumption) (by assumption) ?_; intro xS' gS' hS' tS' WS' lS'; (have glS := Went.sub WS'); (have FS' := Fm.call FF' WS'); clear FF'))
  k_with "call ref" => (((with_reducible show wpAny _ _ (call (Value.ref 419) _) _ _ _); (rename Fm _ _ _ _ _ _ _ _ _ => FF'); refine c_heads_of (by assumption) (by assumption) (Room.deeper (Room.le (by assumption) (by first | exact Nat.le_of_ble_eq_true rfl | exact rm_lit | omega))) (Fm.top FF') (Fm.inn FF') (by (first | assumption | (refine LinesG.mono ?_ (by assumption); k_extra "ktr_room"))) (by assumption) ?_; intro xS' ysS' gS' hS' tS' WS' lS' aS'; (have glS := Went.sub WS'); (have FS' := Fm.call FF' WS'); clear FF'))
  k_with "k_nil" => ((refine nt_lst (by assumption) (by decide) ?_; intro aS' gS' hS' glS' eS' FS'; k_extra "kc_close"))
  k_with "compareOp Eq ref ref" => (first | (refine eq_cons (by assumption) (by k_extra "ktr_rel") (by k_extra "ktr_rel") (Room.hu (by assumption)) ?_) | (refine eq_none (by assumption) (by k_extra "ktr_rel") (by k_extra "ktr_rel") (Room.hu (by assumption)) ?_) | (refine eq_nil (by assumption) (by k_extra "ktr_rel") (by k_extra "ktr_rel") (Room.hu (by assumption)) ?_))
  k_with "compareOp NotEq ref ref" => (first | (refine ne_cons (by assumption) (by k_extra "ktr_rel") (by k_extra "ktr_rel") (Room.hu (by assumption)) ?_) | (refine ne_none (by assumption) (by k_extra "ktr_rel") (by k_extra "ktr_rel") (Room.hu (by assumption)) ?_) | (refine ne_nil (by assumption) (by k_extra "ktr_rel") (by k_extra "ktr_rel") (Room.hu (by assumption)) ?_))
  k_with "eval Name" => (k_extra "keq_rows")
  trivial
section
section
variable {w : World} {K : Frag} {H : Heap} {mg mb : Str → Option Value} {A : Around} {E : Value → Shared → Prop} {s : Shared} {G : Gr}
theorem rgpW1024 : True := by
  k_with "compareOp NotIn str ref" => ((fail_if_success (k_extra "off:W10")); k_extra "W10:compareOp NotIn str ref")
  trivial
theorem rgoW1024 : True := by
  k_with "W10:compareOp NotIn str ref" => (refine nin_nms_g (by assumption) (by k_extra "ktr_rel") (by assumption) ?_)
  trivial
theorem rgpW1025 : True := by
  k_with "k_tail" => ((fail_if_success (k_extra "off:W10")); k_extra "W10:k_tail")
  trivial
theorem rgoW1025 : True := by
  k_with "W10:k_tail" => ((
  refine ev_comp (by rfl) (by rfl) (by rfl) ?_
  k_extra "kc_close"
  refine comp_lst [] (fun i G' mu' ys => mu' = [] ∧ ys = []) (by assumption) (LstG.mono hl (by k_extra "ktr_room")) rm.1 (ha.length ▸ Nat.le_trans hM (by decide)) (by rfl) (by rfl) (.inl ⟨_, _, rfl⟩) (by simp) ⟨rfl, rfl⟩ ?_ ?_
  · rintro i v ys G₁ mu₁ C h₂ tk₂ m₁ hv ⟨rfl, rfl⟩ gl hys hmu F₂
    obtain ⟨r, er, l2, v0, vs', c, cs, rfl, rfl, hl2, hc, ha3⟩ := ha.get hv
    cases hc with
    | w ic =>
      k_extra "kc_close"
      k_extra "kpf_close"
      exact ⟨rfl, by simp⟩
    | a n' ic =>
      obtain ⟨pl, tk, l3, i3, hl3⟩ := ic
      k_extra "kc_close"
      k_extra "kpf_close"
      exact ⟨rfl, by simp⟩
    | p ic a1 b1 =>
      obtain ⟨pl, tk, l3, i3, hl3⟩ := ic
      k_extra "kc_close"
      k_extra "kpf_close"
      exact ⟨rfl, by simp⟩
  · rintro D C2 k2 h3 tk3 G3 mu3 ys3 m3 ⟨rfl, rfl⟩ hys3 gl3 hmu3 F3 hD0 hDm hnC hCL hCD hC0 hGC hCm
    refine cp_none F3 hD0 hDm hnC hCL hCD hC0 hGC hCm ?_
    intro h4 G4 gl4 hl4 F4
    clear F3
    k_extra "kc_close"
    walk_at "k_nil"
    exact h _ _ _ _ (Fm.done (by assumption) nL) (.w (by assumption))))
  trivial
set_option maxHeartbeats 4000000 in
theorem c_not_told {v lv : Value} {M : List (List Cell)} {xh : Addr} {ysh : List Value} {hs : List Nm} {Q : Value → Shared → Prop} (B : Bs w K H mg mb) (k : KOk K) (kn : KNm K) (rm : Room A 9) (hH : HLe H G) (hG : GIn G s.heap)
    (hv : WatG w G v) (hlv : LinesG w.params G lv M) (hxh : LstG G xh ysh) (hys : All2 NmV ysh hs) (hM : M.length ≤ 64)
    (h : ∀ x G' h' tk', Went [] G s.heap G' h' → Td w.params G' (.ref x) (.s (toldC hs)) → Q (.ref x) { s with heap := h', toks := tk' }) :
    wpAny (model pw w) A (call (.ref 457) [v, lv, .ref xh]) Q E s := dis (by
  simp (disch := k_dflt (
    refine dis ?_
    have hf := k.f457
    obtain ⟨t, e⟩ : ∃ t, t = clsFd 36 3 := ⟨_, rfl⟩
    rw [← e] at hf
    conv at e => (rhs; whnf)
    subst e
    obtain ⟨x0, y, rfl, hx0, hy⟩ := hv
    obtain ⟨y0, d, rfl, hy0, hd⟩ := id hy
    obtain ⟨l, vs, rfl, hl, ha⟩ := hlv
    refine wpAny_call (code_fn (binds := [("self", .ref x0), ("lines", .ref l), ("heads", .ref xh)]) [] [] B hf hH hG rm.depth (by simp) (fun _ _ _ _ _ _ => BindsTo.of_eq (by rfl)) (by rfl) (by rfl) ?_)
    clear hf
    intro L h₁ cdv nL F
    cases hys with
    | nil =>
      k_extra "kc_close"
      walk_at "k_nil"
      rw [show toldC [] = .w from rfl] at h
      walk_at "k_tail"
    | @cons hv0 h0 hvs ht hh0 hht =>
      have hall : All2 NmV (hv0 :: hvs) (h0 :: ht) := .cons hh0 hht
      obtain ⟨tk0, rfl⟩ := hh0
      k_extra "kc_close"
      walk_at "k_nil"
      refine wpAny_For ?_
      k_extra "kc_close"
      rename LstG _ _ _ => hsl
      rename All2 _ _ (sibs _) => hsy
      rename Fm _ _ _ _ _ _ _ _ _ => F2
      refine for_lst (fun i G' mu' m' => mu' = [] ∧ (∀ a ∈ (sibs h0).take i, a ∈ h0 :: ht) ∧ m' "self" = some (.ref x0) ∧ m' "heads" = some (.ref xh) ∧ m' "lines" = some (.ref l)) (by assumption) hsl rm.1 (.inl ⟨_, _, rfl⟩) ⟨rfl, by simp, rfl, rfl, rfl⟩ ?_ ?_
      · rintro i v G₁ mu₁ m₁ h₂ tk₂ I oI hv ⟨rfl, hin, e1, e2, e3⟩ gl hmu hI1 hI2 F₃
        clear F2
        obtain ⟨a, ea, tka, rfl⟩ := hsy.get hv
        k_extra "kc_close"
        · have q : a ∈ h0 :: ht := by assumption
          k_extra "kpf_close"
          exact ⟨rfl, by rw [take_snoc ea]; intro b hb; rcases List.mem_append.mp hb with hb | hb; exact hin b hb; exact (List.mem_singleton.mp hb) ▸ q, by with_unfolding_all exact e1, by with_unfolding_all exact e2, by with_unfolding_all exact e3⟩
        · have q : a ∉ h0 :: ht := by assumption
          obtain ⟨htold, hT2⟩ := told_at ea hin q
          have har : ar a = 0 := by revert hT2; cases a <;> simp [ar]
          rw [htold] at h
          refine ev_comp (by rfl) (by rfl) (by rfl) ?_
          k_extra "kc_close"
          rw [har]
          refine comp_rng [] (fun i G' mu' ys => mu' = [(I, oI)] ∧ ys = []) (by assumption) rm.1 (by decide) (by rfl) (by rfl) (by simp) ⟨rfl, rfl⟩ ?_ ?_
          · intro i ti ys G' mu' C h tk m₁ hi
            exact absurd hi (by omega)
          · rintro D C2 k2 h3 tk3 G3 mu3 ys3 m3 ⟨rfl, rfl⟩ hys3 gl3 hmu3 F3 hD0 hDm hnC hCL hCD hC0 hGC hCm
            refine cp_none F3 hD0 hDm hnC hCL hCD hC0 hGC hCm ?_
            intro h4 G4 gl4 hl4 F4
            clear F3
            k_extra "kc_close"
            exact h _ _ _ _ (Fm.done (Fm.dropMu (by assumption)) nL) (.a hT2 ⟨_, _, _, by assumption, LstG.mono hl4 (by k_extra "ktr_room")⟩)
      · rintro h3 tk3 G3 mu3 m3 ⟨rfl, hin, e1, e2, e3⟩ gl3 hmu3 F3
        clear F2
        rw [hsy.length, List.take_length] at hin
        rw [told_none hin] at h
        k_extra "kc_close"
        walk_at "k_tail")) only [↓und])
end
end
theorem rgeW10 : True := by
  k_with "off:W10" => skip
  trivial
section
inductive Kd | B | T | P
  deriving DecidableEq
noncomputable def names : Kd → List Nm
  | .B | .P => [.F, .U]
  | .T => [.R, .G, .W]
noncomputable def wt : Kd → Nat
  | .P => 3
  | _ => 1
noncomputable def wtL (ks : List Kd) : Nat := (ks.map wt).sum
theorem wtL_cons {k : Kd} {ks : List Kd} : wtL (k :: ks) = wt k + wtL ks := by simp [wtL]
theorem wt_pos {k : Kd} : 1 ≤ wt k := by cases k <;> decide
theorem len_wt {ks : List Kd} : ks.length ≤ wtL ks := by
  induction ks with
  | nil => simp [wtL]
  | cons k ks ih => rw [wtL_cons, List.length_cons, Nat.add_comm (wt k)]; exact Nat.add_le_add ih wt_pos
theorem wt_tail {k : Kd} {ks : List Kd} : wtL ks < wtL (k :: ks) := by rw [wtL_cons]; exact Nat.lt_add_of_pos_left wt_pos
theorem rm_dec1 {N : Nat} : 11 + 2 * N + 1 ≤ 10 + 2 * (N + 1) := by omega
theorem rm_dec2 {N : Nat} : 10 + 2 * N + 1 ≤ 10 + 2 * (N + 1) := Nat.le_succ_of_le (Nat.le_refl _)
theorem rm_dec {N : Nat} (h : 1 ≤ N) : 11 + 2 * (N - 1) + 1 ≤ 10 + 2 * N := by
  cases N with
  | zero => cases h
  | succ N => exact rm_dec1
theorem len_eq {a b c d : Nat} (h : a = b) (q : (a : Int) = (d : Int)) (s : d = c) : b = c := h.symm.trans ((Int.ofNat.inj q).trans s)
theorem len_eq' {a b c d : Nat} (h : a = b) (z : b = c) (s : d = c) : (a : Int) = (d : Int) := by rw [h, z, s]
inductive CellT : Kd → Cell → Prop
  | w {k} : CellT k (.s .w)
  | a {k n} : k ≠ .P → n ∈ names k → CellT k (.s (.a n))
  | p0 {n} : n ∈ names .B → CellT .P (.p (.a n) .w)
  | p1 {n} : n ∈ names .B → CellT .P (.p .w (.a n))
noncomputable def One : List Cell → Prop
  | [] => True
  | c :: cs => if plainC c = true then One cs else cs.all plainC = true
theorem One.plain {cs : List Cell} (h : cs.all plainC = true) : One cs := by
  induction cs with
  | nil => trivial
  | cons c cs ih =>
    rw [List.all_cons, Bool.and_eq_true] at h
    unfold One; rw [if_pos h.1]; exact ih h.2
noncomputable def MatT (ks : List Kd) (M : List (List Cell)) : Prop := ∀ r ∈ M, All2 CellT ks r ∧ One r
noncomputable def ask0 : Cell → Option Nm
  | .s (.a n) => some n
  | .p (.a n) _ => some n
  | _ => none
noncomputable def ask1 : Cell → Option Nm
  | .p _ (.a n) => some n
  | _ => none
noncomputable def asked (f : Cell → Option Nm) (M : List (List Cell)) : List Nm := (M.map headC).filterMap f
noncomputable def allIn (ns as : List Nm) : Bool := ns.all fun n => decide (n ∈ as)
noncomputable def full (k : Kd) (M : List (List Cell)) : Bool := match k with
  | .P => allIn (names .P) (asked ask0 M) || allIn (names .P) (asked ask1 M)
  | k => allIn (names k) (asked ask0 M)
noncomputable def firstN (ns as : List Nm) : C1 := match as with
  | [] => .w
  | _ :: _ => match ns.find? fun n => decide (n ∉ as) with
    | some n => .a n
    | none => .w
noncomputable def pairC (a b : C1) : Cell := if a = .w ∧ b = .w then .s .w else .p a b
noncomputable def colC (k : Kd) (M : List (List Cell)) : Cell := match k with
  | .P => pairC (firstN (names .P) (asked ask0 M)) (firstN (names .P) (asked ask1 M))
  | k => .s (firstN (names k) (asked ask0 M))
noncomputable def anyFull : List Kd → List (List Cell) → Bool
  | [], _ => false
  | k :: ks, M => full k M || anyFull ks (M.map List.tail)
noncomputable def cols : List Kd → List (List Cell) → List Cell
  | [], _ => []
  | k :: ks, M => colC k M :: cols ks (M.map List.tail)
noncomputable def due (ks : List Kd) (M : List (List Cell)) : Option (List Cell) := if hasPlain M || anyFull ks M then none else some (cols ks M)
noncomputable def kdsOf : Nm → List Kd
  | .T2 => [.B, .B]
  | _ => []
noncomputable def wrapN (n : Nm) (l : List Cell) : List Cell := match n, l with
  | .T2, .s a :: .s b :: r => .p a b :: r
  | .T2, l => l
  | n, l => .s (.a n) :: l
noncomputable def byCon (ns : List Nm) (ks : List Kd) (M : List (List Cell)) : Option (List Cell) := ns.findSome? fun n => (due (kdsOf n ++ ks) (withCon n M)).map (wrapN n)
theorem due_no {ks : List Kd} {M : List (List Cell)} (h : (hasPlain M || anyFull ks M) = true) : due ks M = none := by unfold due; rw [if_pos h]
theorem due_yes {ks : List Kd} {M : List (List Cell)} (h : (hasPlain M || anyFull ks M) = false) : due ks M = some (cols ks M) := by unfold due; rw [if_neg (by rw [h]; decide)]
theorem due_plain {ks : List Kd} {M : List (List Cell)} (h : hasPlain M = true) : due ks M = none := by simp [due, h]
theorem due_nil {M : List (List Cell)} (hT : MatT [] M) : due [] M = match M with | [] => some [] | _ :: _ => none := by
  cases M with
  | nil => rfl
  | cons r M =>
    have := (hT r (.head _)).1
    cases this
    rfl
inductive Thin : List (List Cell) → List (List Cell) → Prop
  | nil : Thin [] []
  | keep {r M N} : Thin M N → Thin (r :: M) (r :: N)
  | drop {r M N} : r.all plainC = true → Thin M N → Thin (r :: M) N
theorem plain_head {r : List Cell} (h : r.all plainC = true) : headC r = .s .w := by
  cases r with
  | nil => rfl
  | cons c cs =>
    rw [List.all_cons, Bool.and_eq_true] at h
    obtain ⟨h, -⟩ := h
    show c = .s .w
    revert h; unfold plainC; split <;> simp
theorem plain_tail {r : List Cell} (h : r.all plainC = true) : r.tail.all plainC = true := by
  cases r with
  | nil => rfl
  | cons c cs => rw [List.all_cons, Bool.and_eq_true] at h; exact h.2
theorem Thin.asked {f : Cell → Option Nm} (hf : f (.s .w) = none) {M N : List (List Cell)} (h : Thin M N) : asked f M = asked f N := by
  induction h with
  | nil => rfl
  | keep _ ih => simp only [Mine.asked, List.map_cons, List.filterMap_cons] at ih ⊢; rw [ih]
  | drop hp _ ih => rw [← ih]; simp only [Mine.asked, List.map_cons, List.filterMap_cons, plain_head hp, hf]
theorem Thin.tail {M N : List (List Cell)} (h : Thin M N) : Thin (M.map List.tail) (N.map List.tail) := by
  induction h with
  | nil => exact .nil
  | keep _ ih => exact .keep ih
  | drop hp _ ih => exact .drop (plain_tail hp) ih
theorem Thin.full {k : Kd} {M N : List (List Cell)} (h : Thin M N) : full k M = full k N := by
  cases k <;> simp only [Mine.full, h.asked (f := ask0) rfl, h.asked (f := ask1) rfl]
theorem Thin.col {k : Kd} {M N : List (List Cell)} (h : Thin M N) : colC k M = colC k N := by
  cases k <;> simp only [colC, h.asked (f := ask0) rfl, h.asked (f := ask1) rfl]
theorem Thin.any {ks : List Kd} : ∀ {M N : List (List Cell)}, Thin M N → anyFull ks M = anyFull ks N := by
  induction ks with
  | nil => intros; rfl
  | cons k ks ih => intro M N h; simp only [anyFull, h.full, ih h.tail]
theorem Thin.cols {ks : List Kd} : ∀ {M N : List (List Cell)}, Thin M N → cols ks M = cols ks N := by
  induction ks with
  | nil => intros; rfl
  | cons k ks ih => intro M N h; simp only [Mine.cols, h.col, ih h.tail]
theorem withAny_cons {r : List Cell} {M : List (List Cell)} : withAny (r :: M) = if plainC (headC r) = true then r.tail :: withAny M else withAny M := by
  simp only [withAny, List.filter_cons]; split <;> rfl
theorem thin_any {M : List (List Cell)} (h : ∀ r ∈ M, One r) : Thin (M.map List.tail) (withAny M) := by
  induction M with
  | nil => exact .nil
  | cons r M ih =>
    have ih' := ih fun r hr => h r (.tail _ hr)
    rw [withAny_cons, List.map_cons]
    by_cases q : plainC (headC r) = true
    · rw [if_pos q]; exact .keep ih'
    · rw [if_neg q]
      refine .drop ?_ ih'
      have := h r (.head _)
      cases r with
      | nil => rfl
      | cons c cs => unfold One at this; rw [if_neg (show ¬ plainC c = true from q)] at this; exact this
theorem plain_any {M : List (List Cell)} : hasPlain (withAny M) = hasPlain M := by
  induction M with
  | nil => rfl
  | cons r M ih =>
    rw [withAny_cons]
    have e : r.all plainC = (plainC (headC r) && r.tail.all plainC) := by cases r <;> rfl
    simp only [hasPlain] at ih ⊢
    rw [List.any_cons, e]
    by_cases q : plainC (headC r) = true
    · rw [if_pos q, List.any_cons, ih, q, Bool.true_and]
    · rw [if_neg q, ih, (Bool.not_eq_true _).mp q, Bool.false_and, Bool.false_or]
theorem matT_any {k : Kd} {ks : List Kd} {M : List (List Cell)} (h : MatT (k :: ks) M) : MatT ks (withAny M) := by
  intro r hr
  simp only [withAny, List.mem_map, List.mem_filter] at hr
  obtain ⟨r', ⟨hm, hp⟩, rfl⟩ := hr
  obtain ⟨ht, ho⟩ := h r' hm
  cases ht with
  | cons a b =>
    refine ⟨b, ?_⟩
    simp only [headC] at hp
    unfold One at ho; rw [if_pos hp] at ho; exact ho
noncomputable def hd1 : Cell → Option Nm
  | .s .w => none
  | .s (.a n) => some n
  | .p _ _ => some .T2
theorem mem_addN {acc : List Nm} {a n : Nm} : n ∈ addN acc a ↔ n ∈ acc ∨ n = a := by
  unfold addN
  split
  · exact ⟨.inl, fun h => h.elim id fun e => e ▸ by assumption⟩
  · simp
theorem nodup_addN {acc : List Nm} {a : Nm} (h : acc.Nodup) : (addN acc a).Nodup := by
  unfold addN
  split
  · exact h
  · rename_i q
    rw [List.nodup_append]
    refine ⟨h, by simp, ?_⟩
    intro x hx y hy e
    rw [List.mem_singleton] at hy
    subst hy; subst e; exact q hx
theorem fold_heads {cs : List Cell} : ∀ {acc : List Nm}, acc.Nodup → (cs.foldl addHead acc).Nodup ∧ ∀ n, n ∈ cs.foldl addHead acc ↔ n ∈ acc ∨ n ∈ cs.filterMap hd1 := by
  induction cs with
  | nil => intro acc h; exact ⟨h, fun n => by simp⟩
  | cons c cs ih =>
    intro acc h
    rw [List.foldl_cons]
    have hn : (addHead acc c).Nodup := by
      unfold addHead; split
      · exact h
      · exact nodup_addN h
      · exact nodup_addN h
    obtain ⟨h1, h2⟩ := ih hn
    refine ⟨h1, fun n => ?_⟩
    rw [h2 n]
    unfold addHead
    split
    · simp [hd1]
    · rw [mem_addN]; simp [hd1, or_assoc]
    · rw [mem_addN]; simp [hd1, or_assoc]
theorem heads_nodup {M : List (List Cell)} : (headsOf M).Nodup := (fold_heads .nil).1
theorem mem_heads {M : List (List Cell)} {n : Nm} : n ∈ headsOf M ↔ n ∈ (M.map headC).filterMap hd1 := by
  have := (fold_heads (cs := M.map headC) .nil).2 n
  simpa [headsOf] using this
theorem len_sub : ∀ {as bs : List Nm}, as.Nodup → (∀ a ∈ as, a ∈ bs) → as.length ≤ bs.length ∧ (as.length = bs.length → ∀ b ∈ bs, b ∈ as)
  | [], bs, _, _ => ⟨Nat.zero_le _, fun h b hb => by rw [List.length_eq_zero_iff.mp h.symm] at hb; exact hb⟩
  | a :: as, bs, hn, hs => by
    obtain ⟨h1, h2⟩ := List.nodup_cons.mp hn
    have ha := hs a (.head _)
    obtain ⟨i1, i2⟩ := len_sub (bs := bs.erase a) h2 fun x hx => (List.mem_erase_of_ne fun (e : x = a) => h1 (e ▸ hx)).mpr (hs x (.tail _ hx))
    have hl := List.length_erase_of_mem ha
    have hp : 0 < bs.length := List.length_pos_of_mem ha
    refine ⟨by rw [List.length_cons]; omega, fun e b hb => ?_⟩
    rw [List.length_cons] at e
    by_cases q : b = a
    · exact q ▸ .head _
    · exact .tail _ (i2 (by omega) b ((List.mem_erase_of_ne q).mpr hb))
theorem hd_ask {k : Kd} {c : Cell} (hk : k ≠ .P) (h : CellT k c) : hd1 c = ask0 c ∧ ∀ n, ask0 c = some n → n ∈ names k ∧ c = .s (.a n) := by
  cases h with
  | w => exact ⟨rfl, fun n e => by cases e⟩
  | a _ hn => exact ⟨rfl, fun n e => by cases e; exact ⟨hn, rfl⟩⟩
  | p0 | p1 => exact absurd rfl hk
theorem matT_head {k : Kd} {ks : List Kd} {M : List (List Cell)} (h : MatT (k :: ks) M) : ∀ c ∈ M.map headC, CellT k c := by
  intro c hc
  obtain ⟨r, hr, rfl⟩ := List.mem_map.mp hc
  have := (h r hr).1
  cases this with
  | cons a _ => exact a
theorem heads_ask {k : Kd} {ks : List Kd} {M : List (List Cell)} (hk : k ≠ .P) (h : MatT (k :: ks) M) {n : Nm} : n ∈ headsOf M ↔ n ∈ asked ask0 M := by
  rw [mem_heads]; unfold asked
  have := matT_head h
  generalize M.map headC = cs at this
  rw [List.mem_filterMap, List.mem_filterMap]
  constructor
  · rintro ⟨c, hc, e⟩; exact ⟨c, hc, (hd_ask hk (this c hc)).1 ▸ e⟩
  · rintro ⟨c, hc, e⟩; exact ⟨c, hc, (hd_ask hk (this c hc)).1 ▸ e⟩
theorem ask_names {k : Kd} {ks : List Kd} {M : List (List Cell)} (hk : k ≠ .P) (h : MatT (k :: ks) M) {n : Nm} (hn : n ∈ asked ask0 M) : n ∈ names k := by
  obtain ⟨c, hc, e⟩ := List.mem_filterMap.mp hn
  exact ((hd_ask hk (matT_head h c hc)).2 n e).1
theorem sibs_names {k : Kd} {n : Nm} (h : n ∈ names k) : sibs n = names k := by
  cases k <;> simp only [names, List.mem_cons, List.not_mem_nil, or_false] at h
  · rcases h with rfl | rfl <;> rfl
  · rcases h with rfl | rfl | rfl <;> rfl
  · rcases h with rfl | rfl <;> rfl
theorem names_nd {k : Kd} : (names k).Nodup := by cases k <;> decide
theorem full_iff {k : Kd} {M : List (List Cell)} (hk : k ≠ .P) : full k M = true ↔ ∀ n ∈ names k, n ∈ asked ask0 M := by
  cases k with
  | P => exact absurd rfl hk
  | B | T => simp only [full, allIn, List.all_eq_true, decide_eq_true_eq]
theorem full_len {k : Kd} {ks : List Kd} {M : List (List Cell)} {h0 : Nm} {t : List Nm} (hk : k ≠ .P) (h : MatT (k :: ks) M) (e : headsOf M = h0 :: t) : full k M = true ↔ (headsOf M).length = (sibs h0).length := by
  have hs : sibs h0 = names k := sibs_names (ask_names hk h ((heads_ask hk h).mp (e ▸ .head _)))
  rw [full_iff hk, hs]
  obtain ⟨l1, l2⟩ := len_sub (as := headsOf M) (bs := names k) heads_nodup fun a ha => ask_names hk h ((heads_ask hk h).mp ha)
  constructor
  · intro q
    have := (len_sub (as := names k) (bs := headsOf M) names_nd fun a ha => (heads_ask hk h).mpr (q a ha)).1
    omega
  · intro q n hn
    exact (heads_ask hk h).mp (l2 q n hn)
theorem full_nil {k : Kd} {M : List (List Cell)} (hk : k ≠ .P) (h : asked ask0 M = []) : full k M = false := by
  cases e : full k M with
  | false => rfl
  | true =>
    have := (full_iff hk).mp e
    rw [h] at this
    cases k with
    | B => exact absurd (this .F (by decide)) (by simp)
    | T => exact absurd (this .R (by decide)) (by simp)
    | P => exact absurd rfl hk
theorem find_mem {ns as bs : List Nm} (h : ∀ n, n ∈ as ↔ n ∈ bs) : (ns.find? fun n => decide (n ∉ as)) = ns.find? fun n => decide (n ∉ bs) := by
  congr 1; funext n; exact decide_eq_decide.mpr (not_congr (h n))
theorem col_told {k : Kd} {ks : List Kd} {M : List (List Cell)} (hk : k ≠ .P) (h : MatT (k :: ks) M) : colC k M = .s (toldC (headsOf M)) := by
  have hm := fun n => heads_ask hk h (n := n)
  have e : colC k M = .s (firstN (names k) (asked ask0 M)) := by cases k <;> first | rfl | exact absurd rfl hk
  rw [e]; congr 1
  cases eh : headsOf M with
  | nil =>
    rw [eh] at hm
    have : asked ask0 M = [] := List.eq_nil_iff_forall_not_mem.mpr fun n hn => by have := (hm n).mpr hn; simp at this
    rw [this]; rfl
  | cons h0 t =>
    rw [eh] at hm
    have hs : sibs h0 = names k := sibs_names (ask_names hk h ((hm h0).mp (.head _)))
    cases ea : asked ask0 M with
    | nil => have := (hm h0).mp (.head _); rw [ea] at this; simp at this
    | cons a as =>
      simp only [firstN, toldC, hs]
      rw [find_mem (as := a :: as) (bs := h0 :: t) fun n => by rw [hm n, ea]]
      try (cases (names k).find? fun n => decide (n ∉ h0 :: t) <;> rfl)
theorem due_wild1 {k : Kd} {ks : List Kd} {M : List (List Cell)} (hk : k ≠ .P) (h : MatT (k :: ks) M) (hp : hasPlain M = false) (hf : full k M = false) :
    due (k :: ks) M = (due ks (withAny M)).map (.s (toldC (headsOf M)) :: ·) := by
  have ht := thin_any fun r hr => (h r hr).2
  simp only [due, anyFull, cols, hp, hf, Bool.false_or, plain_any, ht.any, ht.cols, col_told hk h]
  split <;> rfl
theorem due_full1 {k : Kd} {ks : List Kd} {M : List (List Cell)} (hf : full k M = true) : due (k :: ks) M = none := by simp [due, anyFull, hf]
theorem con_plain {k : Kd} {ks : List Kd} {M : List (List Cell)} {n : Nm} (hk : k ≠ .P) (h : MatT (k :: ks) M) (hn : n ∈ asked ask0 M) : hasPlain (withCon n M) = true := by
  obtain ⟨c, hc, e⟩ := List.mem_filterMap.mp hn
  obtain ⟨r, hr, rfl⟩ := List.mem_map.mp hc
  obtain ⟨ht, ho⟩ := h r hr
  cases ht with
  | @cons _ c _ cs a b =>
    have hc : c = .s (.a n) := ((hd_ask hk a).2 n e).2
    subst hc
    unfold One at ho; rw [if_neg (by simp [plainC])] at ho
    unfold hasPlain; rw [List.any_eq_true]
    refine ⟨cs, ?_, ho⟩
    unfold withCon; rw [List.mem_filterMap]
    exact ⟨_, hr, by simp [conRow]⟩
theorem by_full1 {k : Kd} {ks : List Kd} {M : List (List Cell)} {h0 : Nm} (hk : k ≠ .P) (h : MatT (k :: ks) M) (hf : full k M = true) (hs : sibs h0 = names k) : byCon (sibs h0) ks M = none := by
  unfold byCon
  rw [List.findSome?_eq_none_iff]
  intro n hn
  rw [hs] at hn
  rw [due_plain (con_plain hk h ((full_iff hk).mp hf n hn))]; rfl
theorem matT_con {k : Kd} {ks : List Kd} {M : List (List Cell)} {n : Nm} (hk : k ≠ .P) (hn : n ≠ .T2) (h : MatT (k :: ks) M) : MatT ks (withCon n M) := by
  intro r hr
  obtain ⟨r', hr', e⟩ := List.mem_filterMap.mp hr
  obtain ⟨ht, ho⟩ := h r' hr'
  cases ht with
  | @cons _ c _ cs a b =>
    cases a with
    | w =>
      simp only [conRow, if_neg hn, Option.some.injEq] at e; subst e
      exact ⟨b, by unfold One at ho; rw [if_pos (by decide)] at ho; exact ho⟩
    | @a _ m _ hm =>
      simp only [conRow] at e
      split at e
      · cases e; exact ⟨b, by unfold One at ho; rw [if_neg (by simp [plainC])] at ho; exact One.plain ho⟩
      · cases e
    | p0 | p1 => exact absurd rfl hk
noncomputable def expR : List Cell → List Cell
  | .s c :: cs => .s c :: .s c :: cs
  | .p a b :: cs => .s a :: .s b :: cs
  | [] => []
theorem con_exp {ks : List Kd} {M : List (List Cell)} (h : MatT (.P :: ks) M) : withCon .T2 M = M.map expR := by
  induction M with
  | nil => rfl
  | cons r M ih =>
    have ih' := ih fun r hr => h r (.tail _ hr)
    have := (h r (.head _)).1
    unfold withCon at ih' ⊢
    rw [List.filterMap_cons, List.map_cons, ih']
    cases this with
    | cons a b =>
      cases a with
      | w => rfl
      | a hk _ => exact absurd rfl hk
      | p0 | p1 => rfl
theorem exp_row {ks : List Kd} {r : List Cell} (h : All2 CellT (.P :: ks) r) (ho : One r) : (All2 CellT (.B :: .B :: ks) (expR r) ∧ One (expR r)) ∧ (expR r).all plainC = r.all plainC ∧
    ask0 (headC (expR r)) = ask0 (headC r) ∧ ask0 (headC (expR r).tail) = ask1 (headC r) ∧ (expR r).tail.tail = r.tail := by
  cases h with
  | @cons _ c _ cs a b =>
    cases a with
    | w =>
      unfold One at ho; rw [if_pos (by rfl)] at ho
      exact ⟨⟨.cons .w (.cons .w b), by unfold expR One; rw [if_pos (by rfl)]; unfold One; rw [if_pos (by rfl)]; exact ho⟩, rfl, rfl, rfl, rfl⟩
    | a hk _ => exact absurd rfl hk
    | p0 hn =>
      unfold One at ho; rw [if_neg (by simp [plainC])] at ho
      exact ⟨⟨.cons (.a (by decide) hn) (.cons .w b), by unfold expR One; rw [if_neg (by simp [plainC]), List.all_cons, ho]; rfl⟩, rfl, rfl, rfl, rfl⟩
    | p1 hn =>
      unfold One at ho; rw [if_neg (by simp [plainC])] at ho
      exact ⟨⟨.cons .w (.cons (.a (by decide) hn) b), by unfold expR One; rw [if_pos (by rfl)]; unfold One; rw [if_neg (by simp [plainC])]; exact ho⟩, rfl, rfl, rfl, rfl⟩
theorem matT_exp {ks : List Kd} {M : List (List Cell)} (h : MatT (.P :: ks) M) : MatT (.B :: .B :: ks) (withCon .T2 M) := by
  rw [con_exp h]
  intro r hr
  obtain ⟨r', hr', rfl⟩ := List.mem_map.mp hr
  exact (exp_row (h r' hr').1 (h r' hr').2).1
theorem asked_map {f g : Cell → Option Nm} {t : List Cell → List Cell} {M : List (List Cell)} (h : ∀ r ∈ M, f (headC (t r)) = g (headC r)) : asked f (M.map t) = asked g M := by
  induction M with
  | nil => rfl
  | cons r M ih =>
    have ih' := ih fun r hr => h r (.tail _ hr)
    simp only [asked, List.map_cons, List.filterMap_cons] at ih' ⊢
    rw [h r (.head _), ih']
theorem exp_facts {ks : List Kd} {M : List (List Cell)} (h : MatT (.P :: ks) M) : hasPlain (M.map expR) = hasPlain M ∧ asked ask0 (M.map expR) = asked ask0 M ∧ asked ask0 ((M.map expR).map List.tail) = asked ask1 M ∧ ((M.map expR).map List.tail).map List.tail = M.map List.tail := by
  refine ⟨?_, asked_map fun r hr => (exp_row (h r hr).1 (h r hr).2).2.2.1, ?_, ?_⟩
  · unfold hasPlain
    rw [List.any_map, Bool.eq_iff_iff, List.any_eq_true, List.any_eq_true]
    constructor
    · rintro ⟨r, hr, e⟩; exact ⟨r, hr, (exp_row (h r hr).1 (h r hr).2).2.1.symm.trans e⟩
    · rintro ⟨r, hr, e⟩; exact ⟨r, hr, (exp_row (h r hr).1 (h r hr).2).2.1.trans e⟩
  · rw [List.map_map]; exact asked_map fun r hr => (exp_row (h r hr).1 (h r hr).2).2.2.2.1
  · rw [List.map_map, List.map_map]
    exact List.map_congr_left fun r hr => (exp_row (h r hr).1 (h r hr).2).2.2.2.2
theorem heads_T2 {ks : List Kd} {M : List (List Cell)} (h : MatT (.P :: ks) M) : headsOf M = [] ∨ headsOf M = [.T2] := by
  have hs : ∀ n ∈ headsOf M, n ∈ [Nm.T2] := by
    intro n hn
    obtain ⟨c, hc, e⟩ := List.mem_filterMap.mp (mem_heads.mp hn)
    have := matT_head h c hc
    cases this with
    | w => cases e
    | a hk _ => exact absurd rfl hk
    | p0 | p1 => cases e; simp
  have hl := (len_sub heads_nodup hs).1
  cases e : headsOf M with
  | nil => exact .inl rfl
  | cons a t =>
    rw [e] at hl hs
    have : t = [] := by cases t with
      | nil => rfl
      | cons => simp at hl
    rw [this, List.mem_singleton.mp (hs a (.head _))]; exact .inr rfl
theorem first_w {ns as : List Nm} (h : allIn ns as = false) (ha : as ≠ []) : firstN ns as ≠ .w := by
  cases as with
  | nil => exact absurd rfl ha
  | cons a t =>
    unfold firstN
    cases e : ns.find? fun n => decide (n ∉ a :: t) with
    | some n => simp
    | none =>
      exfalso
      have := List.find?_eq_none.mp e
      have : allIn ns (a :: t) = true := by
        unfold allIn; rw [List.all_eq_true]
        intro n hn
        have := this n hn
        rw [decide_eq_true_eq]
        rw [decide_eq_true_eq] at this
        exact Classical.not_not.mp this
      rw [h] at this; cases this
theorem heads_nilP {ks : List Kd} {M : List (List Cell)} (h : MatT (.P :: ks) M) : headsOf M = [] ↔ asked ask0 M = [] ∧ asked ask1 M = [] := by
  have hc := matT_head h
  rw [List.eq_nil_iff_forall_not_mem]
  simp only [mem_heads]
  unfold asked
  generalize M.map headC = cs at hc
  constructor
  · intro q
    have hw : ∀ c ∈ cs, c = .s .w := by
      intro c h1
      cases hc c h1 with
      | w => rfl
      | a hk _ => exact absurd rfl hk
      | p0 | p1 => exact absurd (List.mem_filterMap.mpr ⟨_, h1, (rfl : hd1 _ = some Nm.T2)⟩) (q .T2)
    constructor <;> rw [List.filterMap_eq_nil_iff] <;> intro c h1 <;> rw [hw c h1] <;> rfl
  · rintro ⟨q0, q1⟩ n hn
    obtain ⟨c, h1, e⟩ := List.mem_filterMap.mp hn
    rw [List.filterMap_eq_nil_iff] at q0 q1
    have e0 := q0 c h1
    have e1 := q1 c h1
    cases hc c h1 with
    | w => cases e
    | a hk _ => exact absurd rfl hk
    | p0 => cases e0
    | p1 => cases e1
theorem due_wildP {ks : List Kd} {M : List (List Cell)} (h : MatT (.P :: ks) M) (hp : hasPlain M = false) (hh : headsOf M = []) :
    due (.P :: ks) M = (due ks (withAny M)).map (.s (toldC []) :: ·) := by
  have ht := thin_any fun r hr => (h r hr).2
  obtain ⟨e0, e1⟩ := (heads_nilP h).mp hh
  have hf : full .P M = false := by simp only [full, e0, e1]; decide
  have hc : colC .P M = .s .w := by simp only [colC, e0, e1]; rfl
  simp only [due, anyFull, cols, hp, hf, hc, Bool.false_or, plain_any, ht.any, ht.cols, toldC]
  split <;> rfl
theorem due_P {ks : List Kd} {M : List (List Cell)} (h : MatT (.P :: ks) M) (hh : headsOf M = [.T2]) : due (.P :: ks) M = byCon [.T2] ks M := by
  obtain ⟨f1, f2, f3, f4⟩ := exp_facts h
  have hn : ¬ (asked ask0 M = [] ∧ asked ask1 M = []) := fun q => by rw [(heads_nilP h).mpr q] at hh; cases hh
  unfold byCon
  simp only [List.findSome?_cons, List.findSome?_nil, con_exp h, kdsOf, List.cons_append, List.nil_append]
  have g : anyFull (.B :: .B :: ks) (M.map expR) = anyFull (.P :: ks) M := by
    simp only [anyFull, full, f2, f3, f4, show names .B = names .P from rfl, Bool.or_assoc]
  by_cases e : (hasPlain M || anyFull (.P :: ks) M) = true
  · rw [due_no e, due_no (by rw [f1, g]; exact e)]; rfl
  · rw [Bool.not_eq_true] at e
    rw [due_yes e, due_yes (by rw [f1, g]; exact e)]
    simp only [anyFull, full, Bool.or_eq_false_iff] at e
    obtain ⟨-, ⟨a0, a1⟩, -⟩ := e
    have : ¬ (firstN (names .P) (asked ask0 M) = .w ∧ firstN (names .P) (asked ask1 M) = .w) := fun ⟨x, y⟩ => by
      by_cases q : asked ask0 M = []
      · exact first_w a1 (fun z => hn ⟨q, z⟩) y
      · exact first_w a0 q x
    simp only [cols, colC, f2, f3, f4, Option.map_some, wrapN, pairC, if_neg this, show names .B = names .P from rfl]
theorem due_full {k : Kd} {ks : List Kd} {M : List (List Cell)} {h0 : Nm} {t : List Nm} (h : MatT (k :: ks) M) (e : headsOf M = h0 :: t) (hl : (headsOf M).length = (sibs h0).length) : due (k :: ks) M = byCon (sibs h0) ks M := by
  by_cases hk : k = .P
  · subst hk
    rcases heads_T2 h with q | q
    · rw [q] at e; cases e
    · rw [q] at e; cases e; exact due_P h q
  · have hf := (full_len hk h e).mpr hl
    rw [due_full1 hf, by_full1 hk h hf (sibs_names (ask_names hk h ((heads_ask hk h).mp (e ▸ List.Mem.head _))))]
theorem due_wild {k : Kd} {ks : List Kd} {M : List (List Cell)} (h : MatT (k :: ks) M) (hp : hasPlain M = false) (hn : ∀ h0 t, headsOf M = h0 :: t → (headsOf M).length ≠ (sibs h0).length) :
    due (k :: ks) M = (due ks (withAny M)).map (.s (toldC (headsOf M)) :: ·) := by
  by_cases hk : k = .P
  · subst hk
    rcases heads_T2 h with q | q
    · rw [q]; exact due_wildP h hp q
    · exact absurd (by rw [q]; rfl) (hn _ _ q)
  · refine due_wild1 hk h hp ?_
    cases e : headsOf M with
    | nil =>
      refine full_nil hk (List.eq_nil_iff_forall_not_mem.mpr fun n hm => ?_)
      have := (heads_ask hk h).mpr hm
      rw [e] at this; simp at this
    | cons h0 t =>
      cases q : full k M with
      | false => rfl
      | true => exact absurd ((full_len hk h e).mp q) (hn h0 t e)
theorem con_typed {k : Kd} {ks : List Kd} {M : List (List Cell)} {h0 : Nm} {t : List Nm} (h : MatT (k :: ks) M) (e : headsOf M = h0 :: t) {n : Nm} (hn : n ∈ sibs h0) : MatT (kdsOf n ++ ks) (withCon n M) ∧ wtL (kdsOf n ++ ks) < wtL (k :: ks) ∧ (kdsOf n).length = ar n := by
  by_cases hk : k = .P
  · subst hk
    rcases heads_T2 h with q | q
    · rw [q] at e; cases e
    · rw [q] at e; cases e
      rw [List.mem_singleton.mp hn]
      exact ⟨matT_exp h, by simp only [kdsOf, List.cons_append, List.nil_append, wtL_cons, wt]; omega, rfl⟩
  · have hs : sibs h0 = names k := sibs_names (ask_names hk h ((heads_ask hk h).mp (e ▸ List.Mem.head _)))
    rw [hs] at hn
    have h2 : n ≠ .T2 := by rintro rfl; revert hn; cases k <;> decide
    have e2 : kdsOf n = [] := by revert h2; cases n <;> simp [kdsOf]
    have e3 : ar n = 0 := by revert h2; cases n <;> simp [ar]
    rw [e2]
    exact ⟨matT_con hk h2 h, by rw [wtL_cons, List.nil_append]; cases k <;> simp [wt], e3.symm⟩
theorem due_pair {ks : List Kd} {M : List (List Cell)} {cs : List Cell} (h : due (.B :: .B :: ks) M = some cs) : ∃ a b r, cs = .s a :: .s b :: r := by
  unfold due at h
  split at h
  · cases h
  · cases h; exact ⟨_, _, _, rfl⟩
end
section
noncomputable def ToldG (P : Params) (G : Gr) (v : Value) : Option (List Cell) → Prop
  | none => v = .none
  | some cs => ∃ l vs, v = .ref l ∧ LstG G l vs ∧ All2 (Td P G) vs cs
theorem Td.lk {P : Params} {G : Gr} {v : Value} {c : C1} (h : Td P G v (.s c)) : Lk P G v (.s c) := by
  cases h with
  | w i => exact .w i
  | a n i => exact .a n i
theorem told_wrap {P : Params} {G : Gr} {n : Nm} {t1 : Tok} {cs : List Cell} {vs : List Value} {x l : Addr} (h : All2 (Td P G) vs cs) (h2 : n = .T2 → ∃ a b r, cs = .s a :: .s b :: r)
    (hi : if n = .T2 then InsF P G x 180 [("place", .none), ("items", .ref l)] else InsF P G x 153 [("place", .none), ("name", .str n.str t1), ("args", .ref l)]) (hl : LstG G l (vs.take (ar n))) :
    All2 (Td P G) (.ref x :: vs.drop (ar n)) (wrapN n cs) := by
  by_cases q : n = .T2
  · subst q
    obtain ⟨a, b, r, rfl⟩ := h2 rfl
    rw [if_pos rfl] at hi
    cases h with
    | cons ha h => cases h with
      | cons hb h => exact .cons (.p ⟨_, _, hi, hl⟩ ha.lk hb.lk) h
  · rw [if_neg q] at hi
    have e : ar n = 0 := by revert q; cases n <;> simp [ar]
    have e2 : wrapN n cs = .s (.a n) :: cs := by revert q; cases n <;> simp [wrapN]
    rw [e] at hl ⊢
    rw [e2]
    exact .cons (.a q ⟨_, _, _, hi, hl⟩) h
theorem if_mono {P : Params} {G G' : Gr} (g : GLe G G') {c : Prop} [Decidable c] {x y C D : Addr} {es fs : List (Str × Value)} (h : if c then InsF P G x C es else InsF P G y D fs) : if c then InsF P G' x C es else InsF P G' y D fs := by
  split
  · rename_i q; rw [if_pos q] at h; exact h.mono g
  · rename_i q; rw [if_neg q] at h; exact h.mono g
theorem byCon_at {ns : List Nm} {ks : List Kd} {M : List (List Cell)} {i : Nat} {n : Nm} {cs : List Cell} (e : ns[i]? = some n) (hn : ∀ a ∈ ns.take i, due (kdsOf a ++ ks) (withCon a M) = none) (hd : due (kdsOf n ++ ks) (withCon n M) = some cs) :
    byCon ns ks M = some (wrapN n cs) := by
  have hs : ns = ns.take i ++ n :: ns.drop (i + 1) := by
    have q := List.take_append_drop (i + 1) ns
    rw [take_snoc e, List.append_assoc] at q
    exact q.symm
  have h1 : (ns.take i).findSome? (fun n => (due (kdsOf n ++ ks) (withCon n M)).map (wrapN n)) = none := List.findSome?_eq_none_iff.mpr fun a ha => by rw [hn a ha]; rfl
  unfold byCon
  rw [hs, List.findSome?_append, h1, List.findSome?_cons, hd]; rfl
theorem byCon_none {ns : List Nm} {ks : List Kd} {M : List (List Cell)} (hn : ∀ a ∈ ns, due (kdsOf a ++ ks) (withCon a M) = none) : byCon ns ks M = none :=
  List.findSome?_eq_none_iff.mpr fun a ha => by rw [hn a ha]; rfl
theorem matT_len {ks : List Kd} {M : List (List Cell)} (h : MatT ks M) (hk : wtL ks ≤ 64) : ∀ r ∈ M, r.length ≤ 64 := fun r hr => by
  rw [← (h r hr).1.length]; exact Nat.le_trans len_wt hk
theorem cols_len {ks : List Kd} : ∀ {M : List (List Cell)}, (cols ks M).length = ks.length := by
  induction ks with
  | nil => intro M; rfl
  | cons k ks ih => intro M; simp only [cols, List.length_cons, ih]
theorem due_len {ks : List Kd} {M : List (List Cell)} {cs : List Cell} (h : due ks M = some cs) : cs.length = ks.length := by
  unfold due at h
  split at h
  · cases h
  · cases h; exact cols_len
theorem con_len {n : Nm} {M : List (List Cell)} (h : M.length ≤ 64) : (withCon n M).length ≤ 64 := Nat.le_trans (List.length_filterMap_le ..) h
theorem any_len {M : List (List Cell)} (h : M.length ≤ 64) : (withAny M).length ≤ 64 := by
  unfold withAny; rw [List.length_map]; exact Nat.le_trans (List.length_filter_le ..) h
noncomputable def MissOK (w : World) (H : Heap) (N : Nat) : Prop := ∀ (A : Around) (E : Value → Shared → Prop) (s : Shared) (G : Gr) (v rv : Value) (ks : List Kd) (M : List (List Cell)) (t : Tok) (Q : Value → Shared → Prop),
  wtL ks ≤ N → Room A (10 + 2 * N) → HLe H G → GIn G s.heap → WatG w G v → MatG w.params G rv M → MatT ks M → M.length ≤ 64 →
  (∀ x G' h' tk', Went [] G s.heap G' h' → ToldG w.params G' x (due ks M) → Q x { s with heap := h', toks := tk' }) →
  wpAny (model pw w) A (call (.ref 445) [v, rv, .int (ks.length : Nat) t]) Q E s
section
variable {w : World} {K : Frag} {H : Heap} {mg mb : Str → Option Value} {A : Around} {E : Value → Shared → Prop} {s : Shared} {G : Gr}
theorem rgoW1126 : True := by
  k_with "call ref" => (((with_reducible show wpAny _ _ (call (Value.ref 392) _) _ _ _); (rename Fm _ _ _ _ _ _ _ _ _ => FF'); refine c_built (by assumption) (by assumption) (Room.deeper (Room.le (by assumption) (by first | exact Nat.le_of_ble_eq_true rfl | exact rm_lit | omega))) (Fm.top FF') (Fm.inn FF') ?_; intro xS' gS' hS' tS' WS' iS'; (have glS := Went.sub WS'); (have FS' := Fm.call FF' WS'); clear FF'))
  trivial
set_option maxHeartbeats 4000000 in
theorem c_by_con {N : Nat} {v lv : Value} {ks : List Kd} {M : List (List Cell)} {xn : Addr} {ysn : List Value} {ns : List Nm} {t : Tok} {Q : Value → Shared → Prop} (B : Bs w K H mg mb) (k : KOk K) (ih : MissOK w H N) (hN : N ≤ 60)
    (rm : Room A (11 + 2 * N)) (hH : HLe H G) (hG : GIn G s.heap) (hv : WatG w G v) (hlv : LinesG w.params G lv M) (hxn : LstG G xn ysn) (hys : All2 NmV ysn ns) (hM : M.length ≤ 64) (hr : ∀ r ∈ M, r.length ≤ 64)
    (hns : ∀ n ∈ ns, MatT (kdsOf n ++ ks) (withCon n M) ∧ wtL (kdsOf n ++ ks) ≤ N ∧ (kdsOf n).length = ar n)
    (h : ∀ x G' h' tk', Went [] G s.heap G' h' → ToldG w.params G' x (byCon ns ks M) → Q x { s with heap := h', toks := tk' }) :
    wpAny (model pw w) A (call (.ref 452) [v, lv, .int ((ks.length + 1 : Nat) : Int) t, .ref xn]) Q E s := dis (by
  simp (disch := k_dflt (
    refine dis ?_
    have hf := k.f452
    obtain ⟨td, e⟩ : ∃ t, t = clsFd 36 2 := ⟨_, rfl⟩
    rw [← e] at hf
    conv at e => (rhs; whnf)
    subst e
    have hwat := hv
    obtain ⟨x0, y, rfl, hx0, hy⟩ := hv
    obtain ⟨y0, d, rfl, hy0, hd⟩ := id hy
    obtain ⟨l, vs, rfl, hl, ha⟩ := id hlv
    refine wpAny_call (code_fn (binds := [("self", .ref x0), ("lines", .ref l), ("many", .int ((ks.length + 1 : Nat) : Int) t), ("names", .ref xn)]) [] [] B hf hH hG rm.depth (by simp) (fun _ _ _ _ _ _ => BindsTo.of_eq (by rfl)) (by rfl) (by rfl) ?_)
    clear hf
    intro L h₁ cdv nL F
    k_extra "kc_close"
    refine wpAny_For ?_
    k_extra "kc_close"
    refine for_lst (fun i G' mu' m' => mu' = [] ∧ (∀ a ∈ ns.take i, due (kdsOf a ++ ks) (withCon a M) = none) ∧ m' "self" = some (.ref x0) ∧ m' "lines" = some (.ref l) ∧ m' "many" = some (.int ((ks.length + 1 : Nat) : Int) t)) (by assumption) hxn rm.1 (.inl ⟨_, _, rfl⟩) ⟨rfl, by simp, rfl, rfl, rfl⟩ ?_ ?_
    · rintro i v G₁ mu₁ m₁ h₂ tk₂ I oI hv ⟨rfl, hin, e1, e2, e3⟩ gl hmu hI1 hI2 F₃
      clear F
      obtain ⟨n, en, tkn, rfl⟩ := hys.get hv
      obtain ⟨hT, hwt, har⟩ := hns n (List.mem_of_getElem? en)
      k_extra "kc_close"
      rw [show ((ar n : Nat) : Int) + ((ks.length + 1 : Nat) : Int) - 1 = (((kdsOf n ++ ks).length : Nat) : Int) from by rw [List.length_append, har]; omega]
      rename Fm _ _ _ _ _ _ _ _ _ => FF
      refine ih _ _ _ _ _ _ _ (withCon n M) _ _ hwt (Room.deeper (Room.le rm (by first | exact Nat.le_of_ble_eq_true rfl | exact rm_lit | omega))) (Fm.top FF) (Fm.inn FF) (WatG.mono (by k_extra "ktr_room") hwat) (by assumption) hT (con_len hM) ?_
      intro x5 G5 h5 tk5 W5 hx5
      have gl5 := Went.sub W5
      have F5 := Fm.call FF W5
      clear FF
      cases hdue : due (kdsOf n ++ ks) (withCon n M) with
      | none =>
        rw [hdue] at hx5
        change x5 = .none at hx5
        subst hx5
        k_extra "kc_close"
        k_extra "kpf_close"
        exact ⟨rfl, by rw [take_snoc en]; intro b hb; rcases List.mem_append.mp hb with hb | hb; exact hin b hb; exact (List.mem_singleton.mp hb) ▸ hdue, by with_unfolding_all exact e1, by with_unfolding_all exact e2, by with_unfolding_all exact e3⟩
      | some cs =>
        rw [hdue] at hx5
        obtain ⟨l5, vs5, rfl, hl5, ha5⟩ := hx5
        have hvl : vs5.length ≤ 64 := by
          rw [ha5.length, due_len hdue]; have := len_wt (ks := kdsOf n ++ ks); omega
        rw [byCon_at en hin hdue] at h
        k_extra "kc_close"
        rename ite _ _ _ => hb
        rename LstG _ _ (List.take _ _) => ht
        refine h _ _ _ _ (Fm.done (Fm.dropMu (by assumption)) nL) ⟨_, _, rfl, by assumption, ?_⟩
        rw [List.singleton_append, show ((ar n : Nat) : Int).toNat = ar n from rfl]
        refine told_wrap (t1 := tkn) (ha5.mono fun _ _ => Td.mono (by k_extra "ktr_room")) (fun q => ?_) (if_mono (by k_extra "ktr_room") hb) (LstG.mono ht (by k_extra "ktr_room"))
        subst q
        exact due_pair hdue
    · rintro h3 tk3 G3 mu3 m3 ⟨rfl, hin, e1, e2, e3⟩ gl3 hmu3 F3
      clear F
      rw [hys.length, List.take_length] at hin
      k_extra "kc_close"
      exact h _ _ _ _ (Fm.done (by assumption) nL) (by rw [byCon_none hin]; rfl))) only [↓und])
end
end
section
section
variable {w : World} {K : Frag} {H : Heap} {mg mb : Str → Option Value}
theorem rgoW1227 : True := by
  k_with "call ref" => (((with_reducible show wpAny _ _ (call (Value.ref 457) _) _ _ _); (rename Fm _ _ _ _ _ _ _ _ _ => FF'); refine c_not_told (by assumption) (by assumption) (by assumption) (Room.deeper (Room.le (by assumption) (by first | exact Nat.le_of_ble_eq_true rfl | exact rm_lit | omega))) (Fm.top FF') (Fm.inn FF') (by (first | assumption | (refine WatG.mono ?_ (by assumption); k_extra "ktr_room"))) (by (first | assumption | (refine LinesG.mono ?_ (by assumption); k_extra "ktr_room"))) (by k_extra "ktr_rel") (by assumption) (by assumption) ?_; intro xS' gS' hS' tS' WS' iS'; (have glS := Went.sub WS'); (have FS' := Fm.call FF' WS'); clear FF'))
  trivial
theorem rgpW1228 : True := by
  k_with "k_rest" => ((fail_if_success (k_extra "off:W12")); k_extra "W12:k_rest")
  trivial
theorem rgoW1228 : True := by
  k_with "W12:k_rest" => ((
  rw [len_pred]
  rename Fm _ _ _ _ _ _ _ _ _ => FF
  refine ih' _ _ _ _ _ _ _ (withAny M) _ _ (Nat.le_of_lt_succ (Nat.lt_of_lt_of_le wt_tail hwt)) (Room.deeper (Room.le rm2 rm_dec2)) (Fm.top FF) (Fm.inn FF) (WatG.mono (by k_extra "ktr_room") hwat) (by assumption) hta (any_len hM) ?_
  intro x5 G5 h5 tk5 W5 hx5
  have gl5 := Went.sub W5
  have F5 := Fm.call FF W5
  clear FF
  cases hdue : due ks (withAny M) with
  | none =>
    rw [hdue] at hx5 h
    change x5 = .none at hx5
    subst hx5
    k_extra "kc_close"
    exact h _ _ _ _ (Fm.done (by assumption) nL) rfl
  | some cs =>
    rw [hdue] at hx5 h
    obtain ⟨l5, vs5, rfl, hl5, ha5⟩ := hx5
    have hvl : vs5.length ≤ 64 := by
      rw [ha5.length, due_len hdue]; exact hk64
    k_extra "kc_close"
    rename Td _ _ _ _ => htd
    refine h _ _ _ _ (Fm.done (by assumption) nL) ⟨_, _, rfl, by assumption, ?_⟩
    exact .cons (htd.mono (by k_extra "ktr_room")) (ha5.mono fun _ _ => Td.mono (by k_extra "ktr_room"))))
  trivial
theorem len_pred {kd : Kd} {ks : List Kd} : (((kd :: ks).length : Nat) : Int) - 1 = ((ks.length : Nat) : Int) := by rw [List.length_cons]; omega
set_option maxHeartbeats 4000000 in
theorem miss_step (B : Bs w K H mg mb) (k : KOk K) (kn : KNm K) (N : Nat) (hN : N ≤ 60) (ih : ∀ N', N = N' + 1 → MissOK w H N') : MissOK w H N := dis (by
  simp (disch := k_dflt (
    refine dis ?_
    intro A E s G v rv ks M t Q hwt rm hH hG hv hrv hT hM h
    have rm1 : Room A 1 := Room.le rm rm_lit
    have rm2 := rm
    have h64 := Nat.le_trans hwt (Nat.le_trans hN (Nat.le_of_ble_eq_true rfl : 60 ≤ 64))
    have hr := matT_len hT h64
    have hf := k.f445
    obtain ⟨td, e⟩ : ∃ t, t = clsFd 36 1 := ⟨_, rfl⟩
    rw [← e] at hf
    conv at e => (rhs; whnf)
    subst e
    have hwat := hv
    obtain ⟨x0, y, rfl, hx0, hy⟩ := hv
    obtain ⟨y0, d, rfl, hy0, hd⟩ := id hy
    obtain ⟨l, vs, rfl, hl, ha⟩ := id hrv
    refine wpAny_call (code_fn (binds := [("self", .ref x0), ("rows", .ref l), ("many", .int (ks.length : Nat) t)]) [] [] B hf hH hG rm.depth (by simp) (fun _ _ _ _ _ _ => BindsTo.of_eq (by rfl)) (by rfl) (by rfl) ?_)
    clear hf
    intro L h₁ cdv nL F
    cases ks with
    | nil =>
      rw [due_nil hT] at h
      cases ha with
      | nil =>
        k_extra "kc_close"
        walk_at "k_nil"
        walk_at "k_nil"
        exact h _ _ _ _ (Fm.done (by assumption) nL) ⟨_, _, rfl, by assumption, .nil⟩
      | cons hr0 ht =>
        k_extra "kc_close"
        walk_at "k_nil"
        exact h _ _ _ _ (Fm.done (by assumption) nL) rfl
    | cons kd ks =>
      cases N with
      | zero => exact absurd (Nat.lt_of_lt_of_le wt_tail hwt) (Nat.not_lt_zero _)
      | succ N' =>
      have hk64 := Nat.le_trans len_wt (Nat.le_trans (Nat.le_of_lt wt_tail) h64)
      have ih' := ih N' rfl
      have hne : ((kd :: ks).length : Int) ≠ 0 := Int.ofNat_ne_zero.mpr (Nat.succ_ne_zero _)
      have hr0 : ∀ r ∈ M, r ≠ [] := fun r hm e => by have := (hT r hm).1; rw [e] at this; cases this
      k_extra "kc_close"
      · exact absurd (by assumption) hne
      · have hp : hasPlain M = true := by assumption
        rw [due_plain hp] at h
        have hM0 : M ≠ [] := fun e => by rw [e] at hp; cases hp
        cases ha with
        | nil => exact absurd rfl hM0
        | cons _ _ =>
          k_extra "kc_close"
          walk_at "k_nil"
          exact h _ _ _ _ (Fm.done (by assumption) nL) rfl
      · have hp : hasPlain M = false := by assumption
        rename All2 _ _ (headsOf _) => hhs
        rename LstG _ _ _ => hxs
        have hdw := due_wild hT hp
        have hdf := fun h0 t => due_full (h0 := h0) (t := t) hT
        have hct := fun h0 t n => con_typed (h0 := h0) (t := t) (n := n) hT
        have hta := matT_any hT
        generalize hgs : headsOf M = hs at hhs hdw hdf hct
        cases hhs with
        | nil =>
          rw [hdw (by simp)] at h
          have hall : All2 NmV [] [] := .nil
          k_extra "kc_close"
          walk_at "k_nil"
          walk_at "k_rest"
        | @cons hv0 h0 hvs ht hh0 hht =>
          have hall : All2 NmV (hv0 :: hvs) (h0 :: ht) := .cons hh0 hht
          obtain ⟨tk0, rfl⟩ := hh0
          have hlen : hvs.length ≤ 64 := by
            have q := headsOf_len (M := M)
            rw [hgs, List.length_cons, ← hht.length] at q; omega
          k_extra "kc_close"
          walk_at "k_nil"
          · rename ((List.length (Value.str _ _ :: _) : Nat) : Int) = _ => hq
            rename All2 NmV _ (sibs _) => hsy
            rename LinesG _ _ _ _ => hln
            rename LstG _ _ _ => hsl
            rename Fm _ _ _ _ _ _ _ _ _ => FF
            have hl2 : (h0 :: ht).length = (sibs h0).length := len_eq hall.length hq (And.right (a := _ ≤ 3) (by assumption))
            rw [hdf _ _ rfl hl2] at h
            refine c_by_con B k ih' (Nat.le_of_succ_le hN) (Room.deeper (Room.le rm2 rm_dec1)) (Fm.top FF) (Fm.inn FF) (WatG.mono (by k_extra "ktr_room") hwat) (LinesG.mono (by k_extra "ktr_room") hln) hsl hsy hM hr (fun n hn => ?_) ?_
            · have := hct _ _ n rfl hn
              exact ⟨this.1, Nat.le_of_lt_succ (Nat.lt_of_lt_of_le this.2.1 hwt), this.2.2⟩
            · intro x5 G5 h5 tk5 W5 hx5
              try dsimp only
              repeat (rename Hid _ _ => hq1; (with_reducible refine hq1 _ _ ?_); clear hq1; try dsimp only)
              exact h _ _ _ _ (Fm.done (Fm.call FF W5) nL) hx5
          · rename ((List.length (Value.str _ _ :: _) : Nat) : Int) ≠ _ => hq
            rename All2 NmV _ (sibs _) => hsy
            rw [hdw (fun a b e z => hq (by
              cases e
              exact len_eq' hall.length z (And.right (a := _ ≤ 3) (by assumption))))] at h
            walk_at "k_rest")) only [↓und])
theorem miss_ok (B : Bs w K H mg mb) (k : KOk K) (kn : KNm K) : ∀ N ≤ 60, MissOK w H N
  | 0, h => miss_step B k kn 0 h fun _ e => by cases e
  | N + 1, h => miss_step B k kn (N + 1) h fun N' e => by cases e; exact miss_ok B k kn N (by omega)
end
end
theorem rgeW12 : True := by
  k_with "off:W12" => skip
  trivial
section
noncomputable def dueU (ks : List Kd) (M : List (List Cell)) : Option (List Cell) := match M with
  | [] => some []
  | _ :: _ => due ks M
section
variable {w : World} {K : Frag} {H : Heap} {mg mb : Str → Option Value} {A : Around} {E : Value → Shared → Prop} {s : Shared} {G : Gr}
set_option maxHeartbeats 4000000 in
theorem c_unmatched {rv : Value} {d : Addr} {ks : List Kd} {M : List (List Cell)} {Q : Value → Shared → Prop} (B : Bs w K H mg mb) (k : KOk K) (kn : KNm K) (hN : wtL ks ≤ 60) (rm : Room A 140) (hH : HLe H G) (hG : GIn G s.heap)
    (hrv : MatG w.params G rv M) (hd : ConsG w G d) (hT : MatT ks M) (hM : M.length ≤ 64)
    (h : ∀ x G' h' tk', Went [] G s.heap G' h' → ToldG w.params G' x (dueU ks M) → Q x { s with heap := h', toks := tk' }) :
    wpAny (model pw w) A (call (.ref 483) [rv, .ref d]) Q E s := dis (by
  simp (disch := k_dflt (
    refine dis ?_
    have hr := matT_len hT (by omega)
    have hf := k.f483
    obtain ⟨td, e⟩ : ∃ t, t = topFd 37 := ⟨_, rfl⟩
    rw [← e] at hf
    conv at e => (rhs; whnf)
    subst e
    obtain ⟨l, vs, rfl, hl, ha⟩ := id hrv
    refine wpAny_call (code_fn (binds := [("rows", .ref l), ("cons", .ref d)]) [] [] B hf hH hG rm.depth (by simp) (fun _ _ _ _ _ _ => BindsTo.of_eq (by rfl)) (by rfl) (by rfl) ?_)
    clear hf
    intro L h₁ cdv nL F
    cases ha with
    | nil =>
      k_extra "kc_close"
      walk_at "k_nil"
      walk_at "k_nil"
      exact h _ _ _ _ (Fm.done (by assumption) nL) ⟨_, _, rfl, by assumption, .nil⟩
    | @cons v0 r0 vs M hr0 ha =>
      change ∀ x G' h' tk', Went [] G s.heap G' h' → ToldG w.params G' x (due ks (r0 :: M)) → Q x { s with heap := h', toks := tk' } at h
      have hall : All2 (RowG w.params G) (v0 :: vs) (r0 :: M) := .cons hr0 ha
      have hvl : (v0 :: vs).length ≤ 64 := by rw [hall.length]; exact hM
      k_extra "kc_close"
      walk_at "k_nil"
      refine ev_comp (by rfl) (by rfl) (by rfl) ?_
      k_extra "kc_close"
      refine comp_lst [] (fun i G' mu' ys => mu' = [] ∧ All2 (RowG w.params G') ys ((r0 :: M).take i)) (by assumption) (LstG.mono hl (by k_extra "ktr_room")) rm.1 (Nat.le_trans hvl (by decide)) (by rfl) (by rfl) (.inl ⟨_, _, rfl⟩) (by simp) ⟨rfl, .nil⟩ ?_ ?_
      · rintro i v ys G₁ mu₁ C h₂ tk₂ m₁ hv ⟨rfl, hys2⟩ gl hys hmu F₂
        obtain ⟨r, er, l2, vs2, rfl, hl2, ha2⟩ := hall.get hv
        have hr2 := hr _ (List.mem_of_getElem? er)
        rw [← ha2.length] at hr2
        k_extra "kc_close"
        k_extra "kpf_close"
        refine ⟨rfl, ?_⟩
        rw [take_snoc er]
        exact (hys2.mono fun _ _ => RowG.mono (by k_extra "ktr_room")).snoc ⟨_, _, rfl, by assumption, ha2.mono fun _ _ => Cel.mono (by k_extra "ktr_room")⟩
      · rintro D C2 k2 h3 tk3 G3 mu3 ys3 m3 ⟨rfl, h5⟩ hys3 gl3 hmu3 F3 hD0 hDm hnC hCL hCD hC0 hGC hCm
        refine cp_none F3 hD0 hDm hnC hCL hCD hC0 hGC hCm ?_
        intro h4 G4 gl4 hl4 F4
        clear F3
        rw [hall.length, List.take_length] at h5
        obtain ⟨l0, vs0, rfl, hl0, ha0⟩ := hr0
        have hr2 := hr _ (.head _)
        rw [← ha0.length] at hr2
        k_extra "kc_close"
        have hks : vs0.length = ks.length := by rw [ha0.length, ← (hT _ (.head _)).1.length]
        rw [hks]
        rename Fm _ _ _ _ _ _ _ _ _ => FF
        refine miss_ok B k kn 60 (by omega) _ _ _ _ _ _ _ _ _ _ hN (Room.deeper (Room.le rm (by first | exact Nat.le_of_ble_eq_true rfl | exact rm_lit | omega))) (Fm.top FF) (Fm.inn FF) ⟨_, _, rfl, InsF.mono (by assumption) (by k_extra "ktr_room"), _, _, rfl, InsF.mono (by assumption) (by k_extra "ktr_room"), ConsG.mono (by k_extra "ktr_room") hd⟩ ⟨_, _, rfl, hl4, h5.mono fun _ _ => RowG.mono (by k_extra "ktr_room")⟩ hT hM ?_
        intro x5 G5 h5 tk5 W5 hx5
        try dsimp only
        repeat (rename Hid _ _ => hq1; (with_reducible refine hq1 _ _ ?_); clear hq1; try dsimp only)
        exact h _ _ _ _ (Fm.done (Fm.call FF W5) nL) hx5)) only [↓und])
end
end
section
noncomputable def clash1 (f : Cell → Option Nm) (c : Cell) (M : List (List Cell)) : Bool := match f c with
  | some n => decide (n ∈ asked f M)
  | none => false
noncomputable def clash : List Cell → List (List Cell) → Bool
  | [], _ => false
  | c :: cs, M => clash1 ask0 c M || clash1 ask1 c M || clash cs (M.map List.tail)
noncomputable def reach (ks : List Kd) (M : List (List Cell)) (r : List Cell) : Bool := !(hasPlain M || anyFull ks M || clash r M)
theorem Thin.clash {cs : List Cell} : ∀ {M N : List (List Cell)}, Thin M N → clash cs M = clash cs N := by
  induction cs with
  | nil => intros; rfl
  | cons c cs ih =>
    intro M N h
    have e0 : clash1 ask0 c M = clash1 ask0 c N := by unfold clash1; rw [h.asked (f := ask0) rfl]
    have e1 : clash1 ask1 c M = clash1 ask1 c N := by unfold clash1; rw [h.asked (f := ask1) rfl]
    simp only [Mine.clash, e0, e1, ih h.tail]
theorem clash_plain {cs : List Cell} : ∀ {M : List (List Cell)}, cs.all plainC = true → clash cs M = false := by
  induction cs with
  | nil => intros; rfl
  | cons c cs ih =>
    intro M h
    have hc : c = .s .w := plain_head h
    subst hc
    have ih' := ih (M := M.map List.tail) (plain_tail h)
    simp only [Mine.clash, ih', clash1, ask0, ask1, Bool.or_false]
theorem reach_plain {ks : List Kd} {M : List (List Cell)} {r : List Cell} (h : hasPlain M = true) : reach ks M r = false := by simp [reach, h]
theorem reach_end {ks : List Kd} {M : List (List Cell)} {r : List Cell} (hT : MatT ks M) (hr : MatT ks [r]) (h : r = [] ∨ hasPlain M = true) : reach ks M r = M.isEmpty := by
  rcases h with rfl | h
  · have := (hr _ (.head _)).1
    cases this
    cases M with
    | nil => rfl
    | cons r M =>
      have := (hT r (.head _)).1
      cases this
      exact reach_plain rfl
  · rw [reach_plain h]
    cases M with
    | nil => cases h
    | cons => rfl
theorem any_one {k : Kd} {ks : List Kd} {M : List (List Cell)} {cs : List Cell} (h : MatT (k :: ks) M) (hf : full k M = false) : reach (k :: ks) M (.s .w :: cs) = reach ks (withAny M) cs := by
  have ht := thin_any fun r hr => (h r hr).2
  simp only [reach, anyFull, hf, plain_any, ht.any.symm, ht.clash.symm, clash, clash1, ask0, ask1, Bool.false_or]
theorem full_P {ks : List Kd} {M : List (List Cell)} (h : MatT (.P :: ks) M) (hh : headsOf M = []) : full .P M = false := by
  obtain ⟨e0, e1⟩ := (heads_nilP h).mp hh
  simp only [full, e0, e1]; decide
theorem reach_wild {k : Kd} {ks : List Kd} {M : List (List Cell)} {cs : List Cell} (h : MatT (k :: ks) M) (hn : ∀ h0 t, headsOf M = h0 :: t → (headsOf M).length ≠ (sibs h0).length) :
    reach (k :: ks) M (.s .w :: cs) = reach ks (withAny M) cs := by
  refine any_one h ?_
  by_cases hk : k = .P
  · subst hk
    rcases heads_T2 h with q | q
    · exact full_P h q
    · exact absurd (by rw [q]; rfl) (hn _ _ q)
  · cases e : headsOf M with
    | nil =>
      refine full_nil hk (List.eq_nil_iff_forall_not_mem.mpr fun n hm => ?_)
      have := (heads_ask hk h).mpr hm
      rw [e] at this; simp at this
    | cons h0 t =>
      cases q : full k M with
      | false => rfl
      | true => exact absurd ((full_len hk h e).mp q) (hn h0 t e)
theorem con_any {k : Kd} {ks : List Kd} {M : List (List Cell)} {n : Nm} (hk : k ≠ .P) (h2 : n ≠ .T2) (h : MatT (k :: ks) M) (hn : n ∉ asked ask0 M) : withCon n M = withAny M := by
  induction M with
  | nil => rfl
  | cons r M ih =>
    have hn' : n ∉ asked ask0 M := fun q => hn (by
      unfold asked at q ⊢
      rw [List.map_cons, List.filterMap_cons]
      split
      · exact q
      · exact .tail _ q)
    have ih' := ih (fun r hr => h r (.tail _ hr)) hn'
    rw [withAny_cons, ← ih']
    unfold withCon
    rw [List.filterMap_cons]
    have := (h r (.head _)).1
    cases this with
    | cons a b =>
      cases a with
      | w => simp [conRow, if_neg h2, headC, plainC]
      | @a _ m _ hm =>
        have : m ≠ n := fun e => hn (by unfold asked; rw [List.map_cons, List.filterMap_cons]; simp [headC, ask0, e])
        simp [conRow, if_neg this, headC, plainC]
      | p0 | p1 => exact absurd rfl hk
theorem reach_con1 {k : Kd} {ks : List Kd} {M : List (List Cell)} {n : Nm} {cs : List Cell} (hk : k ≠ .P) (h2 : n ≠ .T2) (hk2 : n ∈ names k) (h : MatT (k :: ks) M) (hr : MatT (k :: ks) [.s (.a n) :: cs]) : reach (k :: ks) M (.s (.a n) :: cs) = reach ks (withCon n M) cs := by
  have ho := (hr _ (.head _)).2
  unfold One at ho; rw [if_neg (by simp [plainC])] at ho
  by_cases q : n ∈ asked ask0 M
  · rw [reach_plain (con_plain hk h q)]
    simp [reach, clash, clash1, ask0, q]
  · have hf : full k M = false := by
      cases e : full k M with
      | false => rfl
      | true => exact absurd ((full_iff hk).mp e n hk2) q
    have ht := thin_any fun r hr => (h r hr).2
    rw [con_any hk h2 h q]
    simp [reach, anyFull, hf, plain_any, ht.any.symm, clash, clash1, ask0, ask1, q, clash_plain ho]
theorem reach_P {ks : List Kd} {M : List (List Cell)} {r : List Cell} (h : MatT (.P :: ks) M) (hr : MatT (.P :: ks) [r]) : reach (.P :: ks) M r = reach (.B :: .B :: ks) (withCon .T2 M) (expR r) := by
  obtain ⟨f1, f2, f3, f4⟩ := exp_facts h
  have g : anyFull (.B :: .B :: ks) (M.map expR) = anyFull (.P :: ks) M := by
    simp only [anyFull, full, f2, f3, f4, show names .B = names .P from rfl, Bool.or_assoc]
  have c : clash (expR r) (M.map expR) = clash r M := by
    have hr1 := (hr _ (.head _)).1
    cases hr1 with
    | cons a b =>
      cases a with
      | w => simp only [expR, clash, clash1, ask0, ask1, f4, Bool.false_or]
      | a hk _ => exact absurd rfl hk
      | p0 | p1 => simp only [expR, clash, clash1, ask0, ask1, f2, f3, f4, Bool.false_or, Bool.or_false]
  rw [con_exp h]
  simp only [reach, f1, g, c]
noncomputable def rowN (n : Nm) (r : List Cell) : List Cell := (conRow n r).getD []
noncomputable def reachBy (ns : List Nm) (ks : List Kd) (M : List (List Cell)) (r : List Cell) : Bool := ns.any fun n => reach (kdsOf n ++ ks) (withCon n M) (rowN n r)
theorem reach_by {k : Kd} {ks : List Kd} {M : List (List Cell)} {cs : List Cell} {h0 : Nm} {t : List Nm} (h : MatT (k :: ks) M) (hr : MatT (k :: ks) [.s .w :: cs]) (e : headsOf M = h0 :: t) (hl : (headsOf M).length = (sibs h0).length) :
    reach (k :: ks) M (.s .w :: cs) = reachBy (h0 :: t) ks M (.s .w :: cs) := by
  by_cases hk : k = .P
  · subst hk
    rcases heads_T2 h with q | q
    · rw [q] at e; cases e
    · rw [q] at e; cases e
      rw [reach_P h hr]
      simp [reachBy, kdsOf, rowN, conRow, expR]
  · have hf := (full_len hk h e).mpr hl
    have : reach (k :: ks) M (.s .w :: cs) = false := by simp [reach, anyFull, hf]
    rw [this]
    symm
    unfold reachBy
    rw [List.any_eq_false]
    intro n hn
    rw [reach_plain (con_plain hk h ((heads_ask hk h).mp (e ▸ hn)))]; simp
theorem con_row {k : Kd} {ks : List Kd} {c : Cell} {cs : List Cell} {n : Nm} (hr : MatT (k :: ks) [c :: cs]) (hn : c = .s .w ∨ c = .s (.a n) ∨ (n = .T2 ∧ k = .P)) : withCon n [c :: cs] = [rowN n (c :: cs)] ∧ conRow n (c :: cs) = some (rowN n (c :: cs)) := by
  have : ∃ r, conRow n (c :: cs) = some r := by
    rcases hn with rfl | rfl | ⟨rfl, rfl⟩
    · exact ⟨_, rfl⟩
    · exact ⟨cs, by simp [conRow]⟩
    · have := (hr _ (.head _)).1
      cases this with
      | cons a b => cases a with
        | w => exact ⟨_, rfl⟩
        | a hk _ => exact absurd rfl hk
        | p0 | p1 => exact ⟨_, rfl⟩
  obtain ⟨r, e⟩ := this
  simp [withCon, rowN, e]
theorem con_step {k : Kd} {ks : List Kd} {M : List (List Cell)} {n : Nm} (hc : (k ≠ .P ∧ n ∈ names k) ∨ (k = .P ∧ n = .T2)) (h : MatT (k :: ks) M) : MatT (kdsOf n ++ ks) (withCon n M) ∧ wtL (kdsOf n ++ ks) < wtL (k :: ks) ∧ (k ≠ .P → n ≠ .T2 ∧ kdsOf n = []) := by
  rcases hc with ⟨hk, hn⟩ | ⟨rfl, rfl⟩
  · have h2 : n ≠ .T2 := by rintro rfl; revert hn; cases k <;> decide
    have e2 : kdsOf n = [] := by revert h2; cases n <;> simp [kdsOf]
    rw [e2]
    exact ⟨matT_con hk h2 h, by rw [wtL_cons, List.nil_append]; cases k <;> simp [wt], fun _ => ⟨h2, rfl⟩⟩
  · exact ⟨matT_exp h, by simp only [kdsOf, List.cons_append, List.nil_append, wtL_cons, wt]; omega, fun q => absurd rfl q⟩
theorem reach_con {k : Kd} {ks : List Kd} {M : List (List Cell)} {n : Nm} {c : Cell} {cs : List Cell} (h : MatT (k :: ks) M) (hr : MatT (k :: ks) [c :: cs]) (hc : c = .s (.a n) ∨ (n = .T2 ∧ ∃ a b, c = .p a b)) :
    reach (k :: ks) M (c :: cs) = reach (kdsOf n ++ ks) (withCon n M) (rowN n (c :: cs)) ∧ MatT (kdsOf n ++ ks) (withCon n M) ∧ MatT (kdsOf n ++ ks) [rowN n (c :: cs)] ∧ wtL (kdsOf n ++ ks) < wtL (k :: ks) ∧ withCon n [c :: cs] = [rowN n (c :: cs)] := by
  have ht := (hr _ (.head _)).1
  have hkn : (k ≠ .P ∧ n ∈ names k) ∨ (k = .P ∧ n = .T2) := by
    rcases hc with rfl | ⟨rfl, a, b, rfl⟩
    · cases ht with
      | cons a b => cases a with
        | a hk hn => exact .inl ⟨hk, hn⟩
    · cases ht with
      | cons a b => cases a <;> exact .inr ⟨rfl, rfl⟩
  have hw := con_row hr (n := n) (by
    rcases hc with rfl | ⟨rfl, a, b, rfl⟩
    · exact .inr (.inl rfl)
    · rcases hkn with ⟨hk, hn⟩ | ⟨rfl, -⟩
      · exfalso; revert hn; cases k <;> decide
      · exact .inr (.inr ⟨rfl, rfl⟩))
  obtain ⟨s1, s2, s3⟩ := con_step hkn h
  obtain ⟨r1, -, -⟩ := con_step hkn hr
  rw [hw.1] at r1
  refine ⟨?_, s1, r1, s2, hw.1⟩
  rcases hkn with ⟨hk, hn⟩ | ⟨rfl, rfl⟩
  · obtain ⟨h2, e2⟩ := s3 hk
    have hc1 : c = .s (.a n) := by
      rcases hc with e | ⟨e, -⟩
      · exact e
      · exact absurd e h2
    subst hc1
    have e3 : rowN n (.s (.a n) :: cs) = cs := by simp [rowN, conRow]
    rw [e2, e3]
    exact reach_con1 hk h2 hn h hr
  · have e3 : rowN .T2 (c :: cs) = expR (c :: cs) := by
      cases ht with
      | cons a b => cases a with
        | w => rfl
        | a hk _ => exact absurd rfl hk
        | p0 | p1 => rfl
    rw [e3]
    exact reach_P h hr
theorem by_typed {k : Kd} {ks : List Kd} {M : List (List Cell)} {n : Nm} {cs : List Cell} (h : MatT (k :: ks) M) (hr : MatT (k :: ks) [.s .w :: cs]) (hn : n ∈ headsOf M) :
    MatT (kdsOf n ++ ks) (withCon n M) ∧ MatT (kdsOf n ++ ks) [rowN n (.s .w :: cs)] ∧ wtL (kdsOf n ++ ks) < wtL (k :: ks) ∧ withCon n [.s .w :: cs] = [rowN n (.s .w :: cs)] := by
  have hkn : (k ≠ .P ∧ n ∈ names k) ∨ (k = .P ∧ n = .T2) := by
    by_cases hk : k = .P
    · subst hk
      rcases heads_T2 h with q | q
      · rw [q] at hn; simp at hn
      · rw [q] at hn; exact .inr ⟨rfl, List.mem_singleton.mp hn⟩
    · exact .inl ⟨hk, ask_names hk h ((heads_ask hk h).mp hn)⟩
  obtain ⟨s1, s2, s3⟩ := con_step hkn h
  obtain ⟨r1, -, -⟩ := con_step hkn hr
  have hw := con_row hr (n := n) (.inl rfl)
  rw [hw.1] at r1
  exact ⟨s1, r1, s2, hw.1⟩
theorem matT_tail {k : Kd} {ks : List Kd} {cs : List Cell} (hr : MatT (k :: ks) [.s .w :: cs]) : MatT ks [cs] := matT_any hr
end
section
section
variable {w : World} {H : Heap} {A : Around} {E : Value → Shared → Prop} {s : Shared} {G : Gr}
  {wr : List Addr} {G₀ : Gr} {h₀ : Heap} {L : Addr} {mu : List (Addr × Obj)} {m : Str → Option Value}
theorem sub_mat1 {P : Params} {value slice : Expr} {l : Addr} {M : List (List Cell)} {r : List Cell} {u : Tok} {Q : Value → Shared → Prop} (F : Fm H wr G₀ h₀ L G mu s.heap m) (hl : MatG P G (.ref l) M) (e : M = [r]) (h : ∀ v, RowG P G v r → Q v s)
    (hs : subscripted slice false (.ref l) (.int 0 u) = operate [.ref l, .int 0 u] (getItem (.ref l) (.int 0 u)) := by with_unfolding_all rfl) :
    wpAny (model pw w) A (subscriptTail value slice (.ref l) (.int 0 u)) Q E s := by
  subst e
  obtain ⟨_, vs, e, hl1, ha⟩ := hl
  cases e
  cases ha with
  | cons hr ht => cases ht; exact sub_lst F hl1 (by decide) (by decide) rfl (h _ hr) hs
theorem sub_lin1 {P : Params} {value slice : Expr} {l : Addr} {c : Cell} {cs : List Cell} {u : Tok} {Q : Value → Shared → Prop} (F : Fm H wr G₀ h₀ L G mu s.heap m) (hl : LinesG P G (.ref l) [c :: cs])
    (hw : c = .s .w → ∀ lr x pl vs, LineG P G (.ref lr) (c :: cs) → LstG G lr (.ref x :: vs) → InsF P G x 99 [("place", pl)] → All2 (Cel P G) vs cs → Q (.ref lr) s)
    (ha : ∀ n, c = .s (.a n) → n ≠ .T2 → ∀ lr x pl tk la vs, LineG P G (.ref lr) (c :: cs) → LstG G lr (.ref x :: vs) → InsF P G x 153 [("place", pl), ("name", .str n.str tk), ("args", .ref la)] → All2 (Cel P G) vs cs → Q (.ref lr) s)
    (hp : ∀ a b, c = .p a b → ∀ lr x pl tk la vs, LineG P G (.ref lr) (c :: cs) → LstG G lr (.ref x :: vs) → InsF P G x 153 [("place", pl), ("name", .str Nm.T2.str tk), ("args", .ref la)] → All2 (Cel P G) vs cs → Q (.ref lr) s)
    (hs : subscripted slice false (.ref l) (.int 0 u) = operate [.ref l, .int 0 u] (getItem (.ref l) (.int 0 u)) := by with_unfolding_all rfl) :
    wpAny (model pw w) A (subscriptTail value slice (.ref l) (.int 0 u)) Q E s := by
  obtain ⟨_, vs, e, hl1, ha1⟩ := hl
  cases e
  cases ha1 with
  | cons hr ht =>
    cases ht
    refine sub_lst F hl1 (by decide) (by decide) rfl ?_ hs
    obtain ⟨lr, v0, vs, c', cs', rfl, e, hlr, hc, hcs⟩ := id hr
    cases e
    cases hc with
    | w i => exact hw rfl _ _ _ _ hr hlr i hcs
    | a hn i => obtain ⟨pl, tk, la, i, _⟩ := i; exact ha _ rfl hn _ _ _ _ _ _ hr hlr i hcs
    | p i a b => obtain ⟨pl, tk, la, i, _⟩ := i; exact hp _ _ rfl _ _ _ _ _ _ hr hlr i hcs
theorem unp_g {T : Addr} {vs : List Value} {n : Nat} {Q : List Value → Shared → Prop} (F : Fm H wr G₀ h₀ L G mu s.heap m) (hh : A.handled = none) (ht : TupG G T vs) (hn : n = vs.length)
    (h : ∀ h', Fm H wr G₀ h₀ L G mu h' m → Q vs { s with heap := h' }) : wpAny (model pw w) A (unpackItems (.ref T) n none) Q E s := by
  subst hn
  have e : vs.length = vs.toArray.size := by simp
  rw [e]
  refine unpackItems_tuple hh (ht.at F.inn) fun h' he => ?_
  exact h h' (F.kept fun b o eb => he b o (Nat.ne_of_lt (Heap.lt_size eb)) eb)
theorem unp_o {T : Addr} {vs : List Value} {n : Nat} {Q : List Value → Shared → Prop} (F : Fm H wr G₀ h₀ L G mu s.heap m) (hh : A.handled = none) (ht : G T = some ⟨.type "tuple", none, .seq vs.toArray 0, #[]⟩) (hn : n = vs.length)
    (h : ∀ h', Fm H wr G₀ h₀ L G mu h' m → Q vs { s with heap := h' }) : wpAny (model pw w) A (unpackItems (.ref T) n none) Q E s := unp_g F hh ⟨_, ht, rfl, _, rfl⟩ hn h
theorem asg_g {elts : List Expr} {x1} {pos : Pos} {env : Env} {T : Addr} {vs : List Value} {Q : Unit → Shared → Prop} (F : Fm H wr G₀ h₀ L G mu s.heap m) (hh : A.handled = none) (ht : TupG G T vs)
    (hn : (assignEach elts env).length = vs.length) (hstar : (assignEach elts env).findIdx? (·.1) = none)
    (h : ∀ h', Fm H wr G₀ h₀ L G mu h' m → wpAny (model pw w) A (assignInOrder ((assignEach elts env).map (·.2)) vs) Q E { s with heap := h' }) :
    wpAny (model pw w) A (assign (.Tuple elts x1 pos) env (.ref T)) Q E s := by
  refine assign_Tuple_tuple hh (ht.at F.inn) (by simpa using hn) hstar fun h' he => ?_
  exact h h' (F.kept fun b o eb => he b o (Nat.ne_of_lt (Heap.lt_size eb)) eb)
end
end
theorem rg5 : True := by
  k_with "subscriptTail" => ((refine sub_mat1 (by assumption) (by assumption) (by assumption) ?_; intro vS' rS'))
  k_with "unpackItems ref" => (k_dflt (((refine unp_o (by assumption) (Room.hd (by assumption)) (by assumption) (by rfl) ?_); intro hS' FS')))
  trivial
section
noncomputable def ReachOK (w : World) (H : Heap) (N : Nat) : Prop := ∀ (A : Around) (E : Value → Shared → Prop) (s : Shared) (G : Gr) (v rv rw1 : Value) (ks : List Kd) (M : List (List Cell)) (r : List Cell) (Q : Value → Shared → Prop),
  wtL ks ≤ N → Room A (10 + 2 * N) → HLe H G → GIn G s.heap → WatG w G v → MatG w.params G rv M → RowG w.params G rw1 r → MatT ks M → MatT ks [r] → M.length ≤ 64 →
  (∀ G' h' tk', Went [] G s.heap G' h' → Q (.bool (reach ks M r)) { s with heap := h', toks := tk' }) →
  wpAny (model pw w) A (call (.ref 464) [v, rv, rw1]) Q E s
theorem reachBy_at {ns : List Nm} {ks : List Kd} {M : List (List Cell)} {r : List Cell} {i : Nat} {n : Nm} (e : ns[i]? = some n) (hd : reach (kdsOf n ++ ks) (withCon n M) (rowN n r) = true) : reachBy ns ks M r = true :=
  List.any_eq_true.mpr ⟨n, List.mem_of_getElem? e, hd⟩
theorem reachBy_no {ns : List Nm} {ks : List Kd} {M : List (List Cell)} {r : List Cell} (h : ∀ n ∈ ns, reach (kdsOf n ++ ks) (withCon n M) (rowN n r) = false) : reachBy ns ks M r = false :=
  List.any_eq_false.mpr fun n hn => by rw [h n hn]; simp
section
variable {w : World} {K : Frag} {H : Heap} {mg mb : Str → Option Value} {A : Around} {E : Value → Shared → Prop} {s : Shared} {G : Gr}
set_option maxHeartbeats 4000000 in
theorem c_reached_by {N : Nat} {v lv rl : Value} {ks : List Kd} {M : List (List Cell)} {r : List Cell} {xn : Addr} {ysn : List Value} {ns : List Nm} {Q : Value → Shared → Prop} (B : Bs w K H mg mb) (k : KOk K) (ih : ReachOK w H N) (hN : N ≤ 60)
    (rm : Room A (11 + 2 * N)) (hH : HLe H G) (hG : GIn G s.heap) (hv : WatG w G v) (hlv : LinesG w.params G lv M) (hrl : LineG w.params G rl r) (hxn : LstG G xn ysn) (hys : All2 NmV ysn ns) (hM : M.length ≤ 64) (hr : ∀ r ∈ M, r.length ≤ 64) (hr1 : ∀ q ∈ [r], q.length ≤ 64)
    (hns : ∀ n ∈ ns, MatT (kdsOf n ++ ks) (withCon n M) ∧ MatT (kdsOf n ++ ks) [rowN n r] ∧ wtL (kdsOf n ++ ks) ≤ N ∧ withCon n [r] = [rowN n r])
    (h : ∀ G' h' tk', Went [] G s.heap G' h' → Q (.bool (reachBy ns ks M r)) { s with heap := h', toks := tk' }) :
    wpAny (model pw w) A (call (.ref 471) [v, .ref xn, lv, rl]) Q E s := dis (by
  simp (disch := k_dflt (
    refine dis ?_
    have rm1 : Room A 1 := Room.le rm (by first | exact Nat.le_of_ble_eq_true rfl | exact rm_lit | omega)
    have rm2 := rm
    have hf := k.f471
    obtain ⟨td, e⟩ : ∃ t, t = clsFd 36 5 := ⟨_, rfl⟩
    rw [← e] at hf
    conv at e => (rhs; whnf)
    subst e
    have hwat := hv
    obtain ⟨x0, y, rfl, hx0, hy⟩ := hv
    obtain ⟨y0, d, rfl, hy0, hd⟩ := id hy
    obtain ⟨l, vs, rfl, hl, ha⟩ := id hlv
    obtain ⟨lr, v0, vs', c, cs, rfl, rfl, hlr, hc, ha3⟩ := id hrl
    have hM1 : [c :: cs].length ≤ 64 := Nat.le_of_ble_eq_true rfl
    refine wpAny_call (code_fn (binds := [("self", .ref x0), ("names", .ref xn), ("lines", .ref l), ("line", .ref lr)]) [] [] B hf hH hG rm.depth (by simp) (fun _ _ _ _ _ _ => BindsTo.of_eq (by rfl)) (by rfl) (by rfl) ?_)
    clear hf
    intro L h₁ cdv nL F
    k_extra "kc_close"
    refine wpAny_For ?_
    k_extra "kc_close"
    refine for_lst (fun i G' mu' m' => mu' = [] ∧ (∀ a ∈ ns.take i, reach (kdsOf a ++ ks) (withCon a M) (rowN a (c :: cs)) = false) ∧ m' "self" = some (.ref x0) ∧ m' "lines" = some (.ref l) ∧ m' "line" = some (.ref lr)) (by assumption) hxn rm.1 (.inl ⟨_, _, rfl⟩) ⟨rfl, by simp, rfl, rfl, rfl⟩ ?_ ?_
    · rintro i v G₁ mu₁ m₁ h₂ tk₂ I oI hv ⟨rfl, hin, e1, e2, e3⟩ gl hmu hI1 hI2 F₃
      clear F
      obtain ⟨n, en, tkn, rfl⟩ := hys.get hv
      obtain ⟨hT, hT1, hwt, hcr⟩ := hns n (List.mem_of_getElem? en)
      k_extra "kc_close"
      rename RowG _ _ _ _ => hrw
      rename MatG _ _ _ (withCon n [_]) => hm0
      clear hm0
      rename MatG _ _ _ _ => hm1
      rename Fm _ _ _ _ _ _ _ _ _ => FF
      refine ih _ _ _ _ _ _ _ _ _ _ _ hwt (Room.deeper (Room.le rm (by first | exact Nat.le_of_ble_eq_true rfl | exact rm_lit | omega))) (Fm.top FF) (Fm.inn FF) (WatG.mono (by k_extra "ktr_room") hwat) (MatG.mono (by k_extra "ktr_room") hm1) (RowG.mono (by k_extra "ktr_room") hrw) hT hT1 (con_len hM) ?_
      intro G5 h5 tk5 W5
      have gl5 := Went.sub W5
      have F5 := Fm.call FF W5
      clear FF
      cases hdue : reach (kdsOf n ++ ks) (withCon n M) (rowN n (c :: cs)) with
      | true =>
          rw [reachBy_at en hdue] at h
          k_extra "kc_close"
          exact h _ _ _ (Fm.done (Fm.dropMu (by assumption)) nL)
      | false =>
          k_extra "kc_close"
          k_extra "kpf_close"
          exact ⟨rfl, by rw [take_snoc en]; intro b hb; rcases List.mem_append.mp hb with hb | hb; exact hin b hb; exact (List.mem_singleton.mp hb) ▸ hdue, by with_unfolding_all exact e1, by with_unfolding_all exact e2, by with_unfolding_all exact e3⟩
    · rintro h3 tk3 G3 mu3 m3 ⟨rfl, hin, e1, e2, e3⟩ gl3 hmu3 F3
      clear F
      rw [hys.length, List.take_length] at hin
      rw [reachBy_no hin] at h
      k_extra "kc_close"
      exact h _ _ _ (Fm.done (by assumption) nL))) only [↓und])
end
end
section
theorem rgpW1529 : True := by
  k_with "subscriptTail" => ((fail_if_success (k_extra "off:W15")); k_extra "W15:subscriptTail")
  trivial
theorem rgoW1529 : True := by
  k_with "W15:subscriptTail" => ((refine sub_lin1 (by assumption) (by assumption) ?gw ?ga ?gp; (case' gw => intro en lrx xx plx vsx hline hlrx hix hcsx; subst en); (case' ga => intro n en hn2 lrx xx plx tkx lax vsx hline hlrx hix hcsx; subst en; obtain ⟨q1, q2, q3, q4, q5⟩ := reach_con (n := n) hT2 hT12 (.inl rfl)); (case' gp => intro pa pb en lrx xx plx tkx lax vsx hline hlrx hix hcsx; subst en; obtain ⟨q1, q2, q3, q4, q5⟩ := reach_con (n := .T2) hT2 hT12 (.inr ⟨rfl, pa, pb, rfl⟩))))
  trivial
theorem rgpW1530 : True := by
  k_with "k_wrest" => ((fail_if_success (k_extra "off:W15")); k_extra "W15:k_wrest")
  trivial
theorem rgoW1530 : True := by
  k_with "W15:k_wrest" => ((
  rename MatG _ _ _ (withAny _) => hmN
  rename LstG _ _ (List.drop _ _) => hdr
  exact WhEnd.of hwt3 (by assumption) (by k_extra "ktr_room") (fun _ z => z _ _ ks2 (withAny M2) cs rfl (by with_unfolding_all exact e1) (by rfl) (by rfl) (hmN.mono (by k_extra "ktr_room")) ⟨_, _, rfl, LstG.mono hdr (by k_extra "ktr_room"), hcsx.mono fun _ _ => Cel.mono (by k_extra "ktr_room")⟩ (matT_any hT2) (matT_tail hT12) (any_len hM2) rfl (Nat.le_trans (Nat.le_of_lt hwt3) hnN) (by rw [← hrn2]; exact hre))))
  trivial
section
variable {w : World} {K : Frag} {H : Heap} {mg mb : Str → Option Value}
set_option maxHeartbeats 4000000 in
theorem reach_step (B : Bs w K H mg mb) (k : KOk K) (kn : KNm K) (N : Nat) (hN : N ≤ 60) (ih : ∀ N', N = N' + 1 → ReachOK w H N') : ReachOK w H N := dis (by
  simp (disch := k_dflt (
    refine dis ?_
    intro A E s G v rv rw1 ks M r Q hwt rm hH hG hv hrv hrw hT hT1 hM h
    have rm1 : Room A 1 := Room.le rm (by first | exact Nat.le_of_ble_eq_true rfl | exact rm_lit | omega)
    have rm2 := rm
    have hf := k.f464
    obtain ⟨td, e⟩ : ∃ t, t = clsFd 36 4 := ⟨_, rfl⟩
    rw [← e] at hf
    conv at e => (rhs; whnf)
    subst e
    have hwat := hv
    obtain ⟨x0, y, rfl, hx0, hy⟩ := hv
    obtain ⟨y0, d, rfl, hy0, hd⟩ := id hy
    obtain ⟨l, vs, rfl, hl, ha⟩ := id hrv
    obtain ⟨lr, vr, rfl, hlr, har⟩ := id hrw
    refine wpAny_call (code_fn (binds := [("self", .ref x0), ("rows", .ref l), ("row", .ref lr)]) [] [] B hf hH hG rm.depth (by simp) (fun _ _ _ _ _ _ => BindsTo.of_eq (by rfl)) (by rfl) (by rfl) ?_)
    clear hf
    intro L h₁ cdv nL F
    k_extra "kc_close"
    refine wpAny_While ?_
    refine wh_rule (env := envOf _ _ _ _ _) (fun n G' mu' m' => ∀ Z : Prop, (∀ rv' rr' ks' M' r', mu' = [] → m' "self" = some (.ref x0) → m' "rows" = some rv' → m' "row" = some rr' → MatG w.params G' rv' M' → RowG w.params G' rr' r' → MatT ks' M' → MatT ks' [r'] → M'.length ≤ 64 → n = wtL ks' → wtL ks' ≤ N → reach ks' M' r' = reach ks M r → Z) → Z) (wtL ks) F (by exact fun _ z => z (.ref l) (.ref lr) ks M r rfl rfl rfl rfl hrv hrw hT hT1 hM rfl hwt rfl) ?_
    intro n G₁ mu₁ m₁ h₂ tk₂ hI gl F₂
    refine hI _ fun rv2 rr2 ks2 M2 r2 e0 e1 e2 e3 hrv2 hrw2 hT2 hT12 hM2 hn2 hnN hre => ?_
    clear hI
    subst e0 hn2
    clear F hT hT1 hM hwt hrv hrw
    rw [← hre] at h
    obtain ⟨l2, vs2, rfl, hl2, ha2⟩ := id hrv2
    obtain ⟨lr2, vr2, rfl, hlr2, har2⟩ := id hrw2
    have h64 := Nat.le_trans hnN (Nat.le_trans hN (Nat.le_of_ble_eq_true rfl : 60 ≤ 64))
    have hrM := matT_len hT2 h64
    have hr1 := matT_len hT12 h64
    have hl1 : [r2].length ≤ 64 := Nat.le_of_ble_eq_true rfl
    cases har2 with
    | nil =>
      rw [reach_end hT2 hT12 (.inl rfl)] at h
      k_extra "kc_close"
      walk_at "k_nil"
      walk_at "k_nil"
      refine (show vs2.isEmpty = M2.isEmpty from ?_) ▸ h _ _ _ (Fm.done (by assumption) nL)
      cases ha2 <;> rfl
    | @cons v0 c vr2 cs hc0 har3 =>
      cases ks2 with
      | nil => have := (hT12 _ (.head _)).1; cases this
      | cons kd ks2 =>
      have hwt3 : wtL ks2 < wtL (kd :: ks2) := wt_tail
      have hr0 : ∀ r ∈ M2, r ≠ [] := fun r hm e => by have := (hT2 r hm).1; rw [e] at this; cases this
      have hr01 : ∀ r ∈ [c :: cs], r ≠ [] := fun r hm e => by rw [List.mem_singleton.mp hm] at e; cases e
      k_extra "kc_close"
      walk_at "k_nil"
      · have hp : hasPlain M2 = true := by assumption
        rw [reach_end hT2 hT12 (.inr hp)] at h
        walk_at "k_nil"
        refine (show vs2.isEmpty = M2.isEmpty from ?_) ▸ h _ _ _ (Fm.done (by assumption) nL)
        cases ha2 <;> rfl
      · rename RowG _ _ _ (rowN _ _) => hrwN
        rename MatG _ _ _ (withCon _ M2) => hmN
        exact WhEnd.of q4 (by assumption) (by k_extra "ktr_room") (fun _ z => z _ _ (kdsOf .T2 ++ ks2) (withCon .T2 M2) (rowN .T2 (_ :: cs)) rfl (by with_unfolding_all exact e1) (by rfl) (by rfl) (hmN.mono (by k_extra "ktr_room")) (hrwN.mono (by k_extra "ktr_room")) q2 q3 (con_len hM2) rfl (Nat.le_trans (Nat.le_of_lt q4) hnN) (by rw [← q1]; exact hre))
      · rename RowG _ _ _ (rowN _ _) => hrwN
        rename MatG _ _ _ (withCon _ M2) => hmN
        exact WhEnd.of q4 (by assumption) (by k_extra "ktr_room") (fun _ z => z _ _ (kdsOf n ++ ks2) (withCon n M2) (rowN n (_ :: cs)) rfl (by with_unfolding_all exact e1) (by rfl) (by rfl) (hmN.mono (by k_extra "ktr_room")) (hrwN.mono (by k_extra "ktr_room")) q2 q3 (con_len hM2) rfl (Nat.le_trans (Nat.le_of_lt q4) hnN) (by rw [← q1]; exact hre))
      · have hp : hasPlain M2 = false := by assumption
        have hvx : (Value.ref xx :: vsx).length ≤ 64 := by
          have := hr1 _ (.head _)
          rw [List.length_cons, ← hcsx.length] at this
          exact this
        rename All2 _ _ (headsOf _) => hhs
        rename LstG _ _ _ => hxs
        have hrn := reach_wild (cs := cs) hT2
        have hrb := fun h0 t => reach_by (h0 := h0) (t := t) hT2 hT12
        have hby := fun n => by_typed (n := n) hT2 hT12
        generalize hgs : headsOf M2 = hs at hhs hrn hrb hby
        cases hhs with
        | nil =>
          have hrn2 := hrn (by simp)
          k_extra "kc_close"
          walk_at "k_nil"
          walk_at "k_wrest"
        | @cons hv0 h0 hvs ht hh0 hht =>
          have hall : All2 NmV (hv0 :: hvs) (h0 :: ht) := .cons hh0 hht
          obtain ⟨tk0, rfl⟩ := hh0
          have hlen : hvs.length ≤ 64 := by
            have q := headsOf_len (M := M2)
            rw [hgs, List.length_cons, ← hht.length] at q; omega
          k_extra "kc_close"
          walk_at "k_nil"
          · rename ((List.length (Value.str _ _ :: _) : Nat) : Int) = _ => hq
            rename Fm _ _ _ _ _ _ _ _ _ => FF
            rename LinesG _ _ _ M2 => hln
            have hl2 : (h0 :: ht).length = (sibs h0).length := len_eq hall.length hq (And.right (a := _ ≤ 3) (by assumption))
            have h1N := Nat.lt_of_lt_of_le (Nat.zero_lt_of_lt hwt3) hnN
            rw [hrb _ _ rfl hl2] at h
            have ih' := ih (N - 1) (Nat.sub_add_cancel h1N).symm
            refine c_reached_by (ks := ks2) B k ih' (Nat.le_trans (Nat.sub_le _ _) hN) (Room.deeper (Room.le rm2 (rm_dec h1N))) (Fm.top FF) (Fm.inn FF) (WatG.mono (by k_extra "ktr_room") hwat) (LinesG.mono (by k_extra "ktr_room") hln) (LineG.mono (by k_extra "ktr_room") hline) (LstG.mono hxs (by k_extra "ktr_room")) hall hM2 hrM hr1 (fun n hn => ?_) ?_
            · have := hby n hn
              exact ⟨this.1, this.2.1, Nat.le_pred_of_lt (Nat.lt_of_lt_of_le this.2.2.1 hnN), this.2.2.2⟩
            · intro G5 h5 tk5 W5
              try dsimp only
              repeat (rename Hid _ _ => hq1; (with_reducible refine hq1 _ _ ?_); clear hq1; try dsimp only)
              exact h _ _ _ (Fm.done (Fm.call FF W5) nL)
          · rename ((List.length (Value.str _ _ :: _) : Nat) : Int) ≠ _ => hq
            have hrn2 := hrn (fun a b e z => hq (by
              cases e
              exact len_eq' hall.length z (And.right (a := _ ≤ 3) (by assumption))))
            k_extra "kc_close"
            walk_at "k_wrest")) only [↓und])
theorem reach_ok (B : Bs w K H mg mb) (k : KOk K) (kn : KNm K) : ∀ N ≤ 60, ReachOK w H N
  | 0, h => reach_step B k kn 0 h fun _ e => by cases e
  | N + 1, h => reach_step B k kn (N + 1) h fun N' e => by cases e; exact reach_ok B k kn N (by omega)
end
end
theorem rgeW15 : True := by
  k_with "off:W15" => skip
  trivial
section
noncomputable def IntV (v : Value) (n : Nat) : Prop := ∃ t, v = .int (n : Int) t
noncomputable def eqI (n : Nat) : Value → Bool
  | .int x _ => x == (n : Int)
  | _ => false
theorem any_ints {ys : List Value} {ns : List Nat} {n : Nat} (h : All2 IntV ys ns) : ys.toArray.any (eqI n) = decide (n ∈ ns) := by
  rw [List.any_toArray]
  induction h with
  | nil => rfl
  | @cons v m _ _ h _ ih =>
    obtain ⟨tk, rfl⟩ := h
    rw [List.any_cons, ih]
    simp only [eqI]
    rw [Bool.eq_iff_iff, Bool.or_eq_true, decide_eq_true_eq, decide_eq_true_eq, List.mem_cons, beq_iff_eq]
    exact ⟨fun h => h.imp (fun e => (Int.ofNat.inj e).symm) id, fun h => h.imp (fun e => by rw [e]) id⟩
theorem eq_ints {A : Around} {s : Shared} {ys : List Value} {ns : List Nat} {n : Nat} {t : Tok} (h : All2 IntV ys ns) : ∀ y, y ∈ ys.toArray → SeqAt.EqAt A s y (.int (n : Int) t) (eqI n y) := by
  intro y hy
  obtain ⟨i, hi⟩ := List.getElem?_of_mem (List.mem_toArray.mp hy)
  obtain ⟨m, _, tk, rfl⟩ := h.get hi
  exact SeqAt.EqAt.int_int _ _ _ _
noncomputable def FallG (G : Gr) (v : Value) (fs : List Nat) : Prop := ∃ a vs, v = .ref a ∧ (LstG G a vs ∨ TupG G a vs) ∧ All2 IntV vs fs
theorem FallG.mono {G G' : Gr} (s : GLe G G') {v : Value} {fs : List Nat} (h : FallG G v fs) : FallG G' v fs := let ⟨a, vs, e, x, y⟩ := h; ⟨a, vs, e, x.imp (·.mono s) (·.mono s), y⟩
section
variable {w : World} {H : Heap} {A : Around} {E : Value → Shared → Prop} {s : Shared} {G : Gr}
  {wr : List Addr} {G₀ : Gr} {h₀ : Heap} {L : Addr} {mu : List (Addr × Obj)} {m : Str → Option Value}
theorem nin_fall {a : Addr} {fs : List Nat} {n : Nat} {t : Tok} {Q : Value → Shared → Prop} (F : Fm H wr G₀ h₀ L G mu s.heap m) (h : FallG G (.ref a) fs) (hq : Q (.bool (!decide (n ∈ fs))) s) :
    wpAny (model pw w) A (compareOp .NotIn (.int (n : Int) t) (.ref a)) Q E s := by
  obtain ⟨_, vs, e, h1, h2⟩ := h
  cases e
  rcases h1 with h1 | h1
  · exact SeqAt.notIn_listAt (eqI n) (h1.at F.inn) (eq_ints h2) (by rw [any_ints h2]; exact hq)
  · exact SeqAt.notIn_tupleAt (eqI n) (h1.at F.inn) (eq_ints h2) (by rw [any_ints h2]; exact hq)
theorem sub_nat {value slice : Expr} {l : Addr} {vs : List Value} {j : Nat} {u : Tok} {v : Value} {Q : Value → Shared → Prop} (F : Fm H wr G₀ h₀ L G mu s.heap m) (hl : LstG G l vs) (hx : vs[j]? = some v) (hj : vs.length ≤ 64) (h : Q v s)
    (hs : subscripted slice false (.ref l) (.int (j : Int) u) = operate [.ref l, .int (j : Int) u] (getItem (.ref l) (.int (j : Int) u)) := by with_unfolding_all rfl) :
    wpAny (model pw w) A (subscriptTail value slice (.ref l) (.int (j : Int) u)) Q E s :=
  sub_lst F hl (by omega) (by have := (List.getElem?_eq_some_iff.mp hx).1; omega) (by simpa using hx) h hs
end
noncomputable def aheadOf {α : Type} (fs : List Nat) (M : List α) (n : Nat) : List α := ((List.range n).filter fun i => decide (i ∉ fs)).filterMap fun i => M[i]?
theorem ahead_in {α : Type} {fs : List Nat} {M : List α} {n : Nat} (h : n ∈ fs) : aheadOf fs M (n + 1) = aheadOf fs M n := by
  simp [aheadOf, List.range_succ, List.filter_append, h]
theorem ahead_out {α : Type} {fs : List Nat} {M : List α} {n : Nat} {r : α} (h : n ∉ fs) (e : M[n]? = some r) : aheadOf fs M (n + 1) = aheadOf fs M n ++ [r] := by
  simp [aheadOf, List.range_succ, List.filter_append, h, e]
theorem ahead_mem {α : Type} {fs : List Nat} {M : List α} {n : Nat} {r : α} (h : r ∈ aheadOf fs M n) : r ∈ M := by
  obtain ⟨i, _, e⟩ := List.mem_filterMap.mp h
  exact List.mem_of_getElem? e
theorem ahead_len {α : Type} {fs : List Nat} {M : List α} {n : Nat} : (aheadOf fs M n).length ≤ n :=
  Nat.le_trans (List.length_filterMap_le ..) (Nat.le_trans (List.length_filter_le ..) (by rw [List.length_range]; exact Nat.le_refl _))
noncomputable def uselessL (ks : List Kd) (M : List (List Cell)) (fs : List Nat) (n : Nat) : List Nat := (List.range n).filter fun i => !(reach ks (aheadOf fs M i) (M.getD i []))
theorem useless_yes {ks : List Kd} {M : List (List Cell)} {fs : List Nat} {n : Nat} {r : List Cell} (e : M[n]? = some r) (h : reach ks (aheadOf fs M n) r = false) : uselessL ks M fs (n + 1) = uselessL ks M fs n ++ [n] := by
  simp [uselessL, List.range_succ, List.filter_append, e, h]
theorem useless_no {ks : List Kd} {M : List (List Cell)} {fs : List Nat} {n : Nat} {r : List Cell} (e : M[n]? = some r) (h : reach ks (aheadOf fs M n) r = true) : uselessL ks M fs (n + 1) = uselessL ks M fs n := by
  simp [uselessL, List.range_succ, List.filter_append, e, h]
section
variable {prog : Program} {w : World} {H : Heap} {A : Around} {E : Value → Shared → Prop} {s : Shared} {G : Gr}
  {wr : List Addr} {G₀ : Gr} {h₀ : Heap} {L : Addr} {mu : List (Addr × Obj)} {m : Str → Option Value} {env : Env}
theorem cp_as2 {D C : Addr} {k : Nat} {h' : Heap} {tk : Nat} {G' : Gr} {mu' : List (Addr × Obj)} {ys : List Value} {m' : Str → Option Value} {y : Str} {py : Pos} {Q : Shared → Prop}
    (F : Fm H wr G₀ h₀ env.locals G' ((D, lstO ys k) :: mu') h' m) (h0 : h₀.get? D = none) (hm : ∀ p ∈ mu', p.1 ≠ D) (hn : h'.Ns C m') (hCL : C ≠ env.locals) (hCD : C ≠ D) (h0C : h₀.get? C = none) (gC : G' C = none) (hCm : ∀ p ∈ mu', p.1 ≠ C)
    (hk : env.scope.kind = .function) (hx : env.kindOf y = some .local)
    (h : ∀ h'' tk' G'', GLe G' G'' → LstG G'' D ys → Fm H wr G₀ h₀ env.locals G'' mu' h'' (fun z => if z = y then some (.ref D) else m z) → Q { s with heap := h'', toks := tk' }) :
    compPost (model prog w) A E (some (assign (.Name y py) env)) (fun _ s' => Q s') (.ref D) C (.ok .next) { s with heap := h', toks := tk } :=
  cp_as (Q := fun _ s => Q s) F h0 hm hn hCL hCD h0C gC hCm hk hx h
end
end
theorem rg6 : True := by
  k_with "subscriptTail" => (((with_reducible show wpAny _ _ (subscriptTail _ _ (Value.ref _) (Value.int (Nat.cast _) _)) _ _ _); refine sub_nat (by assumption) (by k_extra "ktr_rel") (by assumption) (by assumption) ?_))
  trivial
section
section
variable {w : World} {K : Frag} {H : Heap} {mg mb : Str → Option Value} {A : Around} {E : Value → Shared → Prop} {s : Shared} {G : Gr}
theorem rgpW1631 : True := by
  k_with "compareOp NotIn int ref" => ((fail_if_success (k_extra "off:W16")); k_extra "W16:compareOp NotIn int ref")
  trivial
theorem rgoW1631 : True := by
  k_with "W16:compareOp NotIn int ref" => (refine nin_fall (by assumption) (by (first | assumption | (refine FallG.mono ?_ (by assumption); k_extra "ktr_room"))) ?_)
  trivial
set_option maxHeartbeats 4000000 in
theorem useless_of {vals : List Value} {rl d fa : Addr} {ks : List Kd} {M : List (List Cell)} {fs : List Nat} {Q : Value → Shared → Prop} (B : Bs w K H mg mb) (k : KOk K) (kn : KNm K) (hN : wtL ks ≤ 60) (rm : Room A 140) (hH : HLe H G) (hG : GIn G s.heap)
    (hrv : MatG w.params G (.ref rl) M) (hd : ConsG w G d) (hfa : FallG G (.ref fa) fs) (hT : MatT ks M) (hM : M.length ≤ 64)
    (hb : ∀ t : Fd, t = topFd 38 → ∀ kV doc pm an cdv ct, BindsTo s (fnOf t.1 "useless" t.2.1 t.2.2.1 t.2.2.2 (.ref 485) kV doc pm an cdv ct) ⟨vals, []⟩ [("rows", .ref rl), ("cons", .ref d), ("falls", .ref fa)])
    (h : ∀ x ys G' h' tk', Went [] G s.heap G' h' → LstG G' x ys → All2 IntV ys (uselessL ks M fs M.length) → Q (.ref x) { s with heap := h', toks := tk' }) :
    wpAny (model pw w) A (call (.ref 490) vals) Q E s := dis (by
  simp (disch := k_dflt (
    refine dis ?_
    have hr := matT_len hT (by omega)
    have hf := k.f490
    obtain ⟨td, e⟩ : ∃ t, t = topFd 38 := ⟨_, rfl⟩
    rw [← e] at hf
    have hb' := hb _ e
    clear hb
    conv at e => (rhs; whnf)
    subst e
    obtain ⟨l, vs, e, hl, ha⟩ := id hrv
    cases e
    refine wpAny_call (code_fnC (binds := [("rows", .ref rl), ("cons", .ref d), ("falls", .ref fa)]) [] [] B hf hH hG rm.depth (by simp) hb' (by rfl) (by decide) ?_)
    clear hf hb'
    intro L h₁ tk₁ cdv cells nL hcn _ F hC
    obtain ⟨of, or, rfl, hof, hor⟩ := CellsAre.two (n := "falls") (c := L + 1 + 1) (n' := "rows") (c' := L + 1) hC
    clear hC
    have hcn0 : s.heap.get? (L + 1) = none := hcn _ (.tail _ (.head _))
    have hcn1 : s.heap.get? (L + 1 + 1) = none := hcn _ (.head _)
    change Fm H [] G s.heap L G [(L + 1 + 1, of), (L + 1, or)] h₁ (fun y => if y = "cons" then some (.ref d) else none) at F
    change of.data = .cell (some (.ref fa)) at hof
    change or.data = .cell (some (.ref rl)) at hor
    have hvl : vs.length ≤ 64 := by rw [ha.length]; exact hM
    k_extra "kc_close"
    refine nt_mut (by assumption) (by decide) ?_
    intro a h₂ ha0 ham F₂
    have hac : (L + 1 + 1) ≠ a := ham _ (.head _)
    have hac2 : (L + 1) ≠ a := ham _ (.tail _ (.head _))
    k_extra "kc_close"
    refine wpAny_For ?_
    k_extra "kc_close"
    rename InsF _ _ _ 474 _ => hi474
    rename InsF _ _ _ 362 _ => hi362
    refine for_rng (fun i G' mu' m' => ∃ ys k xw, mu' = [(a, lstO ys k), (L + 1 + 1, of), (L + 1, or)] ∧ m' "found" = some (.ref a) ∧ m' "watcher" = some (.ref xw) ∧ WatG w G' (.ref xw) ∧ All2 IntV ys (uselessL ks M fs i)) (by assumption) rm.1 (Nat.le_trans hvl (by decide))
      (by exact ⟨[], 0, _, rfl, rfl, rfl, ⟨_, _, rfl, InsF.mono hi474 (by k_extra "ktr_room"), _, _, rfl, InsF.mono hi362 (by k_extra "ktr_room"), ConsG.mono (by k_extra "ktr_room") hd⟩, .nil⟩) ?_ ?_
    · rintro i ti G₁ mu₁ m₁ h₃ tk₃ I oI hi ⟨ys, k1, xw, rfl, e1, e2, hw, hys⟩ gl hmu hI1 hI2 F₃
      have hIa : I ≠ a := fun e => hI1 _ (.head _) e.symm
      have hIc : I ≠ (L + 1 + 1) := fun e => hI1 _ (.tail _ (.head _)) e.symm
      have hIc2 : I ≠ (L + 1) := fun e => hI1 _ (.tail _ (.tail _ (.head _))) e.symm
      obtain ⟨v, ev⟩ : ∃ v, vs[i]? = some v := ⟨_, List.getElem?_eq_getElem hi⟩
      obtain ⟨r, er, lr, vr, rfl, hlr, har⟩ := ha.get ev
      have hrr := hr _ (List.mem_of_getElem? er)
      rw [← har.length] at hrr
      obtain ⟨_, yw, e, hiw, hkw⟩ := id hw
      cases e
      k_extra "kc_close"
      refine as_comp (by rfl) (by rfl) (by rfl) (by rfl) ?_
      k_extra "kc_close"
      refine comp_rng [] (fun j G' mu' zs => mu' = [(I, oI), (a, lstO ys k1), (L + 1 + 1, of), (L + 1, or)] ∧ All2 (RowG w.params G') zs (aheadOf fs M j)) (by assumption) rm.1 (Nat.le_trans (Nat.le_trans (Nat.le_of_lt hi) hvl) (by decide)) (by rfl) (by rfl) (by simp) ⟨rfl, .nil⟩ ?_ ?_
      · rintro j tj zs G₂ mu₂ C h₂ tk₂ m₁ hj ⟨rfl, hzs⟩ gl2 hzl hmu2 F₄
        obtain ⟨v2, ev2⟩ : ∃ v, vs[j]? = some v := ⟨_, List.getElem?_eq_getElem (Nat.lt_trans hj hi)⟩
        obtain ⟨r2, er2, lr2, vr2, rfl, hlr2, har2⟩ := ha.get ev2
        have hrr2 := hr _ (List.mem_of_getElem? er2)
        rw [← har2.length] at hrr2
        k_extra "kc_close"
        · have q : j ∈ fs := by assumption
          k_extra "kpf_close"
          exact ⟨rfl, by rw [ahead_in q]; exact hzs.mono fun _ _ => RowG.mono (by k_extra "ktr_room")⟩
        · have q : j ∉ fs := by assumption
          k_extra "kpf_close"
          exact ⟨rfl, by rw [ahead_out q er2]; exact (hzs.mono fun _ _ => RowG.mono (by k_extra "ktr_room")).snoc ⟨_, _, rfl, by assumption, har2.mono fun _ _ => Cel.mono (by k_extra "ktr_room")⟩⟩
      · rintro D C2 k2 h4 tk4 G4 mu4 zs4 m4 ⟨rfl, h5⟩ hzs4 gl4 hmu4 F4 hD0 hDm hnC hCL hCD hC0 hGC hCm
        refine cp_as2 (y := "ahead") F4 hD0 hDm hnC hCL hCD hC0 hGC hCm (by rfl) (by rfl) ?_
        intro h5' tk5 G5 gl5 hl5 F5
        clear F4
        k_extra "kc_close"
        rename Fm _ _ _ _ _ _ _ _ _ => FF
        rename LstG _ _ vr => hl6
        refine reach_ok B k kn 60 (by omega) _ _ _ _ _ _ _ ks (aheadOf fs M i) r _ hN (Room.deeper (Room.le rm (by first | exact Nat.le_of_ble_eq_true rfl | exact rm_lit | omega))) (Fm.top FF) (Fm.inn FF) (WatG.mono (by k_extra "ktr_room") hw) ⟨_, _, rfl, LstG.mono hl5 (by k_extra "ktr_room"), h5.mono fun _ _ => RowG.mono (by k_extra "ktr_room")⟩ ⟨_, _, rfl, hl6, har.mono fun _ _ => Cel.mono (by k_extra "ktr_room")⟩
          (fun q hq => hT q (ahead_mem hq)) (fun q hq => by rw [List.mem_singleton.mp hq]; exact hT _ (List.mem_of_getElem? er)) (Nat.le_trans ahead_len (Nat.le_trans (Nat.le_of_lt hi) hvl)) ?_
        intro G6 h6 tk6 W6
        have gl6 := Went.sub W6
        have F6 := Fm.call FF W6
        clear FF
        have hyl : ys.length ≤ 64 := by
          rw [hys.length]; unfold uselessL
          exact Nat.le_trans (List.length_filter_le ..) (by rw [List.length_range]; omega)
        cases hre : reach ks (aheadOf fs M i) r with
        | true =>
          k_extra "kc_close"
          k_extra "kpf_close"
          exact ⟨_, _, _, rfl, by with_unfolding_all exact e1, by with_unfolding_all exact e2, hw.mono (by k_extra "ktr_room"), by rw [useless_no er hre]; exact hys⟩
        | false =>
          k_extra "kc_close"
          k_extra "kpf_close"
          exact ⟨_, _, _, rfl, by with_unfolding_all exact e1, by with_unfolding_all exact e2, hw.mono (by k_extra "ktr_room"), by rw [useless_yes er hre]; exact hys.snoc ⟨_, rfl⟩⟩
    · rintro h3 tk3 G3 mu3 m3 ⟨ys, k1, xw, rfl, e1, e2, hw, hys⟩ gl3 hmu3 F3
      have F4 := F3.settle ha0 (by simp; exact ⟨hac, hac2⟩)
      clear F3
      k_extra "kc_close"
      rw [ha.length] at hys
      exact h _ _ _ _ _ (Fm.done F4 nL) ⟨_, GAdd.self, rfl, _, rfl⟩ hys)) only [↓und])
end
end
theorem rgeW16 : True := by
  k_with "off:W16" => skip
  trivial
section
noncomputable def LO (o : Obj) (vs : List Value) : Prop := o.cls = .type "list" ∧ ∃ n, o.data = .seq vs.toArray n
theorem LO.of {vs : List Value} {k : Nat} : LO (lstO vs k) vs := ⟨rfl, k, rfl⟩
section
variable {w : World} {K : Frag} {H : Heap} {mg mb : Str → Option Value} {A : Around} {E : Value → Shared → Prop} {s : Shared} {G : Gr}
  {wr : List Addr} {G₀ : Gr} {h₀ : Heap} {L : Addr} {mu : List (Addr × Obj)} {m : Str → Option Value}
theorem sub_mu {value slice : Expr} {l : Addr} {o : Obj} {vs : List Value} {k : Int} {u : Tok} {v : Value} {Q : Value → Shared → Prop} (F : Fm H wr G₀ h₀ L G mu s.heap m) (hm : (l, o) ∈ mu) (ho : LO o vs) (h0 : 0 ≤ k) (hhi : k < 2 ^ 63) (hx : vs[k.toNat]? = some v) (h : Q v s)
    (hs : subscripted slice false (.ref l) (.int k u) = operate [.ref l, .int k u] (getItem (.ref l) (.int k u)) := by with_unfolding_all rfl) :
    wpAny (model pw w) A (subscriptTail value slice (.ref l) (.int k u)) Q E s :=
  have hL : s.heap.IsList l vs.toArray := ⟨o, (F.mus _ hm).1, ho⟩
  tail_any hL.typeIs slot_list_getitem.lookup (wpAny_getItem_list hL h0 hhi (by simpa using hx) h) hs
theorem set_mu {l : Addr} {o : Obj} {vs : List Value} {k : Int} {t : Tok} {v : Value} {Q : Unit → Shared → Prop} (F : Fm H wr G₀ h₀ L G mu s.heap m) (hm : (l, o) ∈ mu) (ho : LO o vs) (hw : l ∈ wr ∨ h₀.get? l = none) (h0 : 0 ≤ k) (hhi : k < 2 ^ 63) (hn : k < vs.length)
    (h : ∀ h' o', LO o' (vs.set k.toNat v) → Fm H wr G₀ h₀ L G (setMu l o' mu) h' m → Q () { s with heap := h' }) :
    wpAny (model pw w) A (setItem (.ref l) (.int k t) v) Q E s :=
  have hL : s.heap.IsList l vs.toArray := ⟨o, (F.mus _ hm).1, ho⟩
  wpAny_setItem_list hL h0 hhi (by simpa using hn) fun h' hl hs => by
    obtain ⟨o', ho', hc, n, hd⟩ := hl
    exact h h' o' ⟨hc, n, by rw [hd]; simp⟩ (F.upd hm hs ho' hw)
theorem sub_sel {value slice : Expr} {l : Addr} {vs : List Value} {r : Nat} {u : Tok} {Q : Value → Shared → Prop} (F : Fm H wr G₀ h₀ L G mu s.heap m) (hl : LstG G l vs) (hr : r < vs.length) (hz : vs.length ≤ 64) (h : ∀ v, vs[r]? = some v → Q v s)
    (hs : subscripted slice false (.ref l) (.int (r : Int) u) = operate [.ref l, .int (r : Int) u] (getItem (.ref l) (.int (r : Int) u)) := by with_unfolding_all rfl) :
    wpAny (model pw w) A (subscriptTail value slice (.ref l) (.int (r : Int) u)) Q E s :=
  sub_nat F hl (List.getElem?_eq_getElem hr) hz (h _ (List.getElem?_eq_getElem hr)) hs
end
theorem fmodN {a n : Nat} : Int.fmod (a : Int) (n : Int) = ((a % n : Nat) : Int) := by rw [Int.fmod_eq_emod_of_nonneg _ (by omega)]; rfl
theorem fdivN {a n : Nat} : Int.fdiv (a : Int) (n : Int) = ((a / n : Nat) : Int) := by rw [Int.fdiv_eq_ediv_of_nonneg _ (by omega)]; rfl
noncomputable def TrO (o : Obj) : Prop := ∃ a b : Nat, ∃ t1 t2, LO o [.int (a : Int) t1, .int (b : Int) t2]
theorem TrO.of {o : Obj} {a b : Nat} {t1 t2 : Tok} (h : LO o [.int (a : Int) t1, .int (b : Int) t2]) : TrO o := ⟨a, b, t1, t2, h⟩
theorem TrO.ofI {o : Obj} {a b : Int} {t1 t2 : Tok} (h : LO o [.int a t1, .int b t2]) (ha : 0 ≤ a) (hb : 0 ≤ b) : TrO o := ⟨a.toNat, b.toNat, t1, t2, by rw [Int.toNat_of_nonneg ha, Int.toNat_of_nonneg hb]; exact h⟩
end
theorem rg7 : True := by
  k_with "subscriptTail" => ((refine sub_mu (by assumption) (by k_extra "kt_at_in") (by assumption) (by first | decide | omega) (by first | decide | omega) (by first | rfl | assumption) ?_))
  k_with "setItem ref" => (k_dflt ((refine set_mu (by assumption) (by k_extra "kt_at_in") (by assumption) (by first | assumption | exact .inr (by assumption) | exact .inl (by simp)) (by first | decide | omega) (by first | decide | omega) (by first | decide | omega | (simp; done) | (simp; omega)) ?_; intro hS' oS' loS' FS'; (try simp (disch := assumption) only [setMu_head, setMu_nil, setMu_skip] at FS'))))
  trivial
section
section
variable {w : World} {K : Frag} {H : Heap} {mg mb : Str → Option Value} {A : Around} {E : Value → Shared → Prop} {s : Shared} {G : Gr}
set_option maxHeartbeats 4000000 in
theorem c_ladle {tr : Addr} {o : Obj} {n : Nat} {t : Tok} {Q : Value → Shared → Prop} (B : Bs w K H mg mb) (k : KOk K) (rm : Room A 1) (hH : HLe H G) (hG : GIn G s.heap)
    (hm : s.heap.get? tr = some o) (hg : G tr = none) (ho : TrO o) (hn : 1 ≤ n) (hn2 : n ≤ 64)
    (h : ∀ (r : Nat) t2 o' G' h' tk', Went [tr] G s.heap G' h' → h'.get? tr = some o' → TrO o' → r < n → Q (.int (r : Int) t2) { s with heap := h', toks := tk' }) :
    wpAny (model pw w) A (call (.ref 529) [.ref tr, .int (n : Int) t]) Q E s := dis (by
  simp (disch := k_dflt (
    refine dis ?_
    have hf := k.f529
    obtain ⟨td, e⟩ : ∃ t, t = topFd 44 := ⟨_, rfl⟩
    rw [← e] at hf
    conv at e => (rhs; whnf)
    subst e
    obtain ⟨a, b, t1, t2, hlo⟩ := ho
    have hn0 : (n : Int) ≠ 0 := by omega
    refine wpAny_call (code_fn (binds := [("trough", .ref tr), ("many", .int (n : Int) t)]) [tr] [(tr, o)] B hf hH hG rm.depth (by intro p hp; cases List.mem_singleton.mp hp; exact ⟨hm, hg⟩) (fun _ _ _ _ _ _ => BindsTo.of_eq (by rfl)) (by rfl) (by rfl) ?_)
    clear hf
    intro L h₁ cdv nL F
    k_extra "kc_close"
    · rename LO _ _ => hlo2
      rename Fm _ _ _ _ _ _ _ _ _ => FF
      try dsimp only
      rw [fmodN]
      rw [fdivN] at hlo2
      exact h (a % n) _ _ _ _ _ (Fm.done FF nL) (FF.mus _ (.head _)).1 (TrO.of hlo2) (Nat.mod_lt _ hn)
    · rename LO _ _ => hlo2
      rename Fm _ _ _ _ _ _ _ _ _ => FF
      try dsimp only
      rw [show (b : Int) * 179 + 6007 = ((b * 179 + 6007 : Nat) : Int) from by omega, show (65407 : Int) = ((65407 : Nat) : Int) from rfl, show (9 : Int) = ((9 : Nat) : Int) from rfl, fmodN, fdivN, fmodN]
      rw [show (b : Int) * 179 + 6007 = ((b * 179 + 6007 : Nat) : Int) from by omega, show (65407 : Int) = ((65407 : Nat) : Int) from rfl, fmodN] at hlo2
      exact h _ _ _ _ _ _ (Fm.done FF nL) (FF.mus _ (.head _)).1 (TrO.of hlo2) (Nat.mod_lt _ hn))) only [↓und])
theorem c_ladleF {wr : List Addr} {G₀ : Gr} {h₀ : Heap} {L : Addr} {mu : List (Addr × Obj)} {m : Str → Option Value} {tr : Addr} {o : Obj} {n : Int} {t : Tok} {Q : Value → Shared → Prop} (B : Bs w K H mg mb) (k : KOk K) (rm : Room A 1)
    (F : Fm H wr G₀ h₀ L G mu s.heap m) (hm : (tr, o) ∈ mu) (ho : TrO o) (hw : tr ∈ wr ∨ h₀.get? tr = none) (hn : 1 ≤ n) (hn2 : n ≤ 64)
    (h : ∀ (r : Nat) t2 o' G' h' tk', GLe G G' → TrO o' → (r : Int) < n → Fm H wr G₀ h₀ L G' (setMu tr o' mu) h' m → Q (.int (r : Int) t2) { s with heap := h', toks := tk' }) :
    wpAny (model pw w) A (call (.ref 529) [.ref tr, .int n t]) Q E s := by
  obtain ⟨n', rfl⟩ : ∃ n' : Nat, n = n' := ⟨n.toNat, by omega⟩
  refine c_ladle B k rm F.top F.inn (F.mus _ hm).1 (F.mus _ hm).2.2 ho (by omega) (by omega) fun r t2 o' G' h' tk' W e1 e2 e3 => ?_
  exact h r t2 o' G' h' tk' W.sub e2 (by omega) (F.callW W hm e1 hw)
end
end
section
section
variable {w : World} {K : Frag} {H : Heap} {mg mb : Str → Option Value} {A : Around} {E : Value → Shared → Prop} {s : Shared} {G : Gr}
theorem rgpW1832 : True := by
  k_with "newList" => ((fail_if_success (k_extra "off:W18")); k_extra "W18:newList")
  trivial
theorem rgoW1832 : True := by
  k_with "W18:newList" => ((refine nt_mut (by assumption) (Nat.le_of_ble_eq_true rfl) ?_; intro aS' hS' h0S' hmS' FS'))
  trivial
set_option maxHeartbeats 4000000 in
theorem c_trough {l : Addr} {vs : List Value} {ns : List Int} {Q : Value → Shared → Prop} (B : Bs w K H mg mb) (k : KOk K) (rm : Room A 1) (hH : HLe H G) (hG : GIn G s.heap)
    (hl : LstG G l vs) (hI : IntsAre vs ns)
    (h : ∀ tr o G' h' tk', Went [] G s.heap G' h' → s.heap.get? tr = none → h'.get? tr = some o → G' tr = none → TrO o → Q (.ref tr) { s with heap := h', toks := tk' }) :
    wpAny (model pw w) A (call (.ref 522) [.ref l]) Q E s := dis (by
  simp (disch := k_dflt (
    refine dis ?_
    have hf := k.f522
    obtain ⟨td, e⟩ : ∃ t, t = topFd 43 := ⟨_, rfl⟩
    rw [← e] at hf
    conv at e => (rhs; whnf)
    subst e
    refine wpAny_call (code_fn (binds := [("script", .ref l)]) [] [] B hf hH hG rm.depth (by simp) (fun _ _ _ _ _ _ => BindsTo.of_eq (by rfl)) (by rfl) (by rfl) ?_)
    clear hf
    intro L h₁ cdv nL F
    cases hI with
    | nil =>
      k_extra "kc_close"
      walk_at "k_nil"
      all_goals (rename Fm _ _ _ _ _ _ _ _ _ => FF; exact h _ _ _ _ _ (Fm.done (Fm.dropMu FF) nL) (by assumption) (FF.mus _ (.head _)).1 (FF.mus _ (.head _)).2.2 (TrO.ofI LO.of (by first | omega | decide) (by first | decide +kernel | exact Int.fmod_nonneg_of_pos _ (by decide))))
    | cons n t ht =>
      k_extra "kc_close"
      walk_at "k_nil"
      all_goals (rename Fm _ _ _ _ _ _ _ _ _ => FF; exact h _ _ _ _ _ (Fm.done (Fm.dropMu FF) nL) (by assumption) (FF.mus _ (.head _)).1 (FF.mus _ (.head _)).2.2 (TrO.ofI LO.of (by first | omega | decide) (by first | decide +kernel | exact Int.fmod_nonneg_of_pos _ (by decide)))))) only [↓und])
end
end
theorem rgeW18 : True := by
  k_with "off:W18" => skip
  trivial
theorem rg8 : True := by
  k_with "call ref" => (((with_reducible show wpAny _ _ (call (Value.ref 529) _) _ _ _); (rename Fm _ _ _ _ _ _ _ _ _ => FF'); refine c_ladleF (by assumption) (by assumption) (Room.deeper (Room.le (by assumption) (by first | exact Nat.le_of_ble_eq_true rfl | exact rm_lit | omega))) FF' (by k_extra "kt_at_in") (by assumption) (by first | assumption | exact .inr (by assumption) | exact .inl (by simp)) (by first | decide | omega) (by first | decide | omega) ?_; intro rS' t2S' oS' gS' hS' tS' glS' troS' ltS' FS'; clear FF'; (try simp (disch := assumption) only [setMu_head, setMu_nil, setMu_skip] at FS')))
  trivial
section
theorem rgpW1933 : True := by
  k_with "subscriptTail" => ((fail_if_success (k_extra "off:W19")); k_extra "W19:subscriptTail")
  trivial
theorem rgoW1933 : True := by
  k_with "W19:subscriptTail" => (((with_reducible show wpAny _ _ (subscriptTail _ _ (Value.ref _) (Value.int (Nat.cast _) _)) _ _ _); refine sub_sel (by assumption) (by k_extra "ktr_rel") (by first | (simp; omega) | omega) (by first | exact Nat.le_of_ble_eq_true rfl | assumption | omega) ?_; intro vS' evS'))
  trivial
section
variable {w : World} {K : Frag} {H : Heap} {mg mb : Str → Option Value} {A : Around} {E : Value → Shared → Prop} {s : Shared} {G : Gr}
set_option maxHeartbeats 4000000 in
theorem c_wild {tr : Addr} {o : Obj} {Q : Value → Shared → Prop} (B : Bs w K H mg mb) (k : KOk K) (rm : Room A 5) (hH : HLe H G) (hG : GIn G s.heap)
    (hm : s.heap.get? tr = some o) (hg : G tr = none) (ho : TrO o)
    (h : ∀ v o' G' h' tk', Went [tr] G s.heap G' h' → h'.get? tr = some o' → TrO o' → (∃ d, Simp w.params G' v .w d) → Q v { s with heap := h', toks := tk' }) :
    wpAny (model pw w) A (call (.ref 543) [.ref tr]) Q E s := dis (by
  simp (disch := k_dflt (
    refine dis ?_
    have hf := k.f543
    obtain ⟨td, e⟩ : ∃ t, t = topFd 46 := ⟨_, rfl⟩
    rw [← e] at hf
    conv at e => (rhs; whnf)
    subst e
    refine wpAny_call (code_fn (binds := [("trough", .ref tr)]) [tr] [(tr, o)] B hf hH hG rm.depth (by intro p hp; cases List.mem_singleton.mp hp; exact ⟨hm, hg⟩) (fun _ _ _ _ _ _ => BindsTo.of_eq (by rfl)) (by rfl) (by rfl) ?_)
    clear hf
    intro L h₁ cdv nL F
    k_extra "kc_close"
    walk_at "k_nil"
    rename _ = some _ => ev
    rename Fm _ _ _ _ _ _ _ _ _ => FF
    have hmm := List.mem_of_getElem? ev
    simp only [List.mem_cons, List.not_mem_nil, or_false] at hmm
    rcases hmm with rfl | rfl | rfl | rfl | rfl
    all_goals refine h _ _ _ _ _ (Fm.done FF nL) (FF.mus _ (.head _)).1 (by assumption) ?_
    · exact ⟨_, .wild (InsF.mono (by assumption) (by k_extra "ktr_room"))⟩
    · exact ⟨_, .var (InsF.mono (by assumption) (by k_extra "ktr_room"))⟩
    · exact ⟨_, .lazy (InsF.mono (by assumption) (by k_extra "ktr_room"))⟩
    · exact ⟨_, .bang (InsF.mono (by assumption) (by k_extra "ktr_room")) (.var (InsF.mono (by assumption) (by k_extra "ktr_room")))⟩
    · exact ⟨_, .as (InsF.mono (by assumption) (by k_extra "ktr_room")) (.wild (InsF.mono (by assumption) (by k_extra "ktr_room")))⟩)) only [↓und])
set_option maxHeartbeats 4000000 in
theorem c_asking {tr : Addr} {o : Obj} {n : Nm} {t : Tok} {Q : Value → Shared → Prop} (B : Bs w K H mg mb) (k : KOk K) (rm : Room A 5) (hH : HLe H G) (hG : GIn G s.heap)
    (hm : s.heap.get? tr = some o) (hg : G tr = none) (ho : TrO o) (hn : n ≠ .T2)
    (h : ∀ v o' G' h' tk', Went [tr] G s.heap G' h' → h'.get? tr = some o' → TrO o' → (∃ d, Simp w.params G' v (.a n) d) → Q v { s with heap := h', toks := tk' }) :
    wpAny (model pw w) A (call (.ref 550) [.ref tr, .str n.str t]) Q E s := dis (by
  simp (disch := k_dflt (
    refine dis ?_
    have hf := k.f550
    obtain ⟨td, e⟩ : ∃ t, t = topFd 47 := ⟨_, rfl⟩
    rw [← e] at hf
    conv at e => (rhs; whnf)
    subst e
    refine wpAny_call (code_fn (binds := [("trough", .ref tr), ("name", .str n.str t)]) [tr] [(tr, o)] B hf hH hG rm.depth (by intro p hp; cases List.mem_singleton.mp hp; exact ⟨hm, hg⟩) (fun _ _ _ _ _ _ => BindsTo.of_eq (by rfl)) (by rfl) (by rfl) ?_)
    clear hf
    intro L h₁ cdv nL F
    k_extra "kc_close"
    walk_at "k_nil"
    rename LstG _ _ [] => hnl
    rename InsF _ _ _ 153 _ => hpl
    rename _ = some _ => ev
    rename Fm _ _ _ _ _ _ _ _ _ => FF
    have hmm := List.mem_of_getElem? ev
    simp only [List.mem_cons, List.not_mem_nil, or_false] at hmm
    rcases hmm with rfl | rfl | rfl
    all_goals refine h _ _ _ _ _ (Fm.done FF nL) (FF.mus _ (.head _)).1 (by assumption) ?_
    · exact ⟨_, .con hn ⟨_, _, _, hpl.mono (by k_extra "ktr_room"), LstG.mono hnl (by k_extra "ktr_room")⟩⟩
    · exact ⟨_, .bang (InsF.mono (by assumption) (by k_extra "ktr_room")) (.con hn ⟨_, _, _, hpl.mono (by k_extra "ktr_room"), LstG.mono hnl (by k_extra "ktr_room")⟩)⟩
    · exact ⟨_, .as (InsF.mono (by assumption) (by k_extra "ktr_room")) (.con hn ⟨_, _, _, hpl.mono (by k_extra "ktr_room"), LstG.mono hnl (by k_extra "ktr_room")⟩)⟩)) only [↓und])
section
variable {wr : List Addr} {G₀ : Gr} {h₀ : Heap} {L : Addr} {mu : List (Addr × Obj)} {m : Str → Option Value} {tr : Addr} {o : Obj}
theorem c_wildF {Q : Value → Shared → Prop} (B : Bs w K H mg mb) (k : KOk K) (rm : Room A 5)
    (F : Fm H wr G₀ h₀ L G mu s.heap m) (hm : (tr, o) ∈ mu) (ho : TrO o) (hw : tr ∈ wr ∨ h₀.get? tr = none)
    (h : ∀ v o' G' h' tk', GLe G G' → TrO o' → (∃ d, Simp w.params G' v .w d) → Fm H wr G₀ h₀ L G' (setMu tr o' mu) h' m → Q v { s with heap := h', toks := tk' }) :
    wpAny (model pw w) A (call (.ref 543) [.ref tr]) Q E s :=
  c_wild B k rm F.top F.inn (F.mus _ hm).1 (F.mus _ hm).2.2 ho fun v o' G' h' tk' W e1 e2 e3 => h v o' G' h' tk' W.sub e2 e3 (F.callW W hm e1 hw)
theorem c_askingF {n : Nm} {t : Tok} {Q : Value → Shared → Prop} (B : Bs w K H mg mb) (k : KOk K) (rm : Room A 5)
    (F : Fm H wr G₀ h₀ L G mu s.heap m) (hm : (tr, o) ∈ mu) (ho : TrO o) (hw : tr ∈ wr ∨ h₀.get? tr = none) (hn : n ≠ .T2)
    (h : ∀ v o' G' h' tk', GLe G G' → TrO o' → (∃ d, Simp w.params G' v (.a n) d) → Fm H wr G₀ h₀ L G' (setMu tr o' mu) h' m → Q v { s with heap := h', toks := tk' }) :
    wpAny (model pw w) A (call (.ref 550) [.ref tr, .str n.str t]) Q E s :=
  c_asking B k rm F.top F.inn (F.mus _ hm).1 (F.mus _ hm).2.2 ho hn fun v o' G' h' tk' W e1 e2 e3 => h v o' G' h' tk' W.sub e2 e3 (F.callW W hm e1 hw)
end
end
end
theorem rgeW19 : True := by
  k_with "off:W19" => skip
  trivial
section
noncomputable def kdStr : Kd → Str
  | .B => "B" | .T => "T" | .P => "P"
noncomputable def nAddr : Kd → Addr
  | .B => 513 | .T => 514 | .P => 515
noncomputable def KdV (v : Value) (k : Kd) : Prop := ∃ t, v = .str (kdStr k) t
noncomputable def lnKvs : List (Str × Value) := [(kdStr .B, .ref 513), (kdStr .T, .ref 514), (kdStr .P, .ref 515)]
structure LN (w : World) (G : Gr) : Prop where
  dic : DicG w G 512 lnKvs
  lst : ∀ k, ∃ vs, LstG G (nAddr k) vs ∧ All2 NmV vs (names k)
theorem LN.mono {w : World} {G G' : Gr} (s : GLe G G') (h : LN w G) : LN w G' := ⟨h.dic.mono s, fun k => let ⟨vs, a, b⟩ := h.lst k; ⟨vs, a.mono s, b⟩⟩
theorem ln_at {k : Kd} : valueAt lnKvs (kdStr k) = some (.ref (nAddr k)) := by cases k <;> decide +kernel
theorem kd_P {k : Kd} : (kdStr k == "P") = true ↔ k = .P := by cases k <;> decide +kernel
theorem names_len {k : Kd} : 2 ≤ (names k).length ∧ (names k).length ≤ 3 := by cases k <;> decide
section
variable {w : World} {K : Frag} {H : Heap} {mg mb : Str → Option Value} {A : Around} {E : Value → Shared → Prop} {s : Shared} {G : Gr}
  {wr : List Addr} {G₀ : Gr} {h₀ : Heap} {L : Addr} {mu : List (Addr × Obj)} {m : Str → Option Value} {env : Env}
theorem sub_kd {value slice : Expr} {l : Addr} {vs : List Value} {ks : List Kd} {r : Nat} {u : Tok} {Q : Value → Shared → Prop} (F : Fm H wr G₀ h₀ L G mu s.heap m) (hl : LstG G l vs) (ha : All2 KdV vs ks) (hr : r < vs.length) (hz : vs.length ≤ 64)
    (h : ∀ k t, vs[r]? = some (.str (kdStr k) t) → ks[r]? = some k → Q (.str (kdStr k) t) s)
    (hs : subscripted slice false (.ref l) (.int (r : Int) u) = operate [.ref l, .int (r : Int) u] (getItem (.ref l) (.int (r : Int) u)) := by with_unfolding_all rfl) :
    wpAny (model pw w) A (subscriptTail value slice (.ref l) (.int (r : Int) u)) Q E s := by
  refine sub_sel F hl hr hz (fun v ev => ?_) hs
  obtain ⟨k, hk, t, rfl⟩ := ha.get ev
  exact h k t ev hk
theorem sub_ln {value slice : Expr} {k : Kd} {t : Tok} {Q : Value → Shared → Prop} (F : Fm H wr G₀ h₀ L G mu s.heap m) (hn : LN w G)
    (h : ∀ vs, LstG G (nAddr k) vs → All2 NmV vs (names k) → 2 ≤ vs.length ∧ vs.length ≤ 3 → Q (.ref (nAddr k)) { s with toks := s.toks + 1 })
    (hs : subscripted slice false (.ref 512) (.str (kdStr k) t) = operate [.ref 512, .str (kdStr k) t] (getItem (.ref 512) (.str (kdStr k) t)) := by with_unfolding_all rfl) :
    wpAny (model pw w) A (subscriptTail value slice (.ref 512) (.str (kdStr k) t)) Q E s := by
  obtain ⟨vs, a, b⟩ := hn.lst k
  exact sub_dg F hn.dic ln_at (h vs a b (by rw [b.length]; exact names_len)) hs
theorem sub_nm {value slice : Expr} {l : Addr} {vs : List Value} {ns : List Nm} {r : Nat} {u : Tok} {Q : Value → Shared → Prop} (F : Fm H wr G₀ h₀ L G mu s.heap m) (hl : LstG G l vs) (ha : All2 NmV vs ns) (hr : r < vs.length) (hz : vs.length ≤ 64)
    (h : ∀ n t, ns[r]? = some n → Q (.str n.str t) s)
    (hs : subscripted slice false (.ref l) (.int (r : Int) u) = operate [.ref l, .int (r : Int) u] (getItem (.ref l) (.int (r : Int) u)) := by with_unfolding_all rfl) :
    wpAny (model pw w) A (subscriptTail value slice (.ref l) (.int (r : Int) u)) Q E s := by
  refine sub_sel F hl hr hz (fun v ev => ?_) hs
  obtain ⟨n, hn, t, rfl⟩ := ha.get ev
  exact h n t hn
theorem cp_noneM {D C : Addr} {k : Nat} {h' : Heap} {tk : Nat} {G' : Gr} {mu' : List (Addr × Obj)} {ys : List Value} {m' : Str → Option Value} {Q : Value → Shared → Prop}
    (F : Fm H wr G₀ h₀ L G' ((D, lstO ys k) :: mu') h' m) (hn : h'.Ns C m') (hCL : C ≠ L) (hCD : C ≠ D) (h0C : h₀.get? C = none) (gC : G' C = none) (hCm : ∀ p ∈ mu', p.1 ≠ C)
    (h : ∀ h'', Fm H wr G₀ h₀ L G' ((D, lstO ys k) :: mu') h'' m → Q (.ref D) { s with heap := h'', toks := tk }) :
    compPost (model pw w) A E none Q (.ref D) C (.ok .next) { s with heap := h', toks := tk } :=
  post_none F hn hCL h0C gC (fun p hp => by
    rcases List.mem_cons.mp hp with rfl | hp
    · exact Ne.symm hCD
    · exact hCm p hp) fun h'' F'' => h h'' F''
theorem cp_asM {D C : Addr} {k : Nat} {h' : Heap} {tk : Nat} {G' : Gr} {mu' : List (Addr × Obj)} {ys : List Value} {m' : Str → Option Value} {y : Str} {py : Pos} {Q : Shared → Prop}
    (F : Fm H wr G₀ h₀ env.locals G' ((D, lstO ys k) :: mu') h' m) (hn : h'.Ns C m') (hCL : C ≠ env.locals) (hCD : C ≠ D) (h0C : h₀.get? C = none) (gC : G' C = none) (hCm : ∀ p ∈ mu', p.1 ≠ C)
    (hk : env.scope.kind = .function) (hx : env.kindOf y = some .local)
    (h : ∀ h'' tk', Fm H wr G₀ h₀ env.locals G' ((D, lstO ys k) :: mu') h'' (fun z => if z = y then some (.ref D) else m z) → Q { s with heap := h'', toks := tk' }) :
    compPost (model pw w) A E (some (assign (.Name y py) env)) (fun _ s' => Q s') (.ref D) C (.ok .next) { s with heap := h', toks := tk } := by
  obtain ⟨oC, hoC, hd⟩ := ns_obj hn
  have F2 := F.addMu hoC hCL gC
  show wpAny _ _ (assign (.Name y py) env (.ref D)) _ _ _
  refine wpAny_assign_Name (st_local F2 (fun h2 F3 => ?_) hk hx)
  exact post_drop hd F3 h0C (fun p hp => by
    rcases List.mem_cons.mp hp with rfl | hp
    · exact Ne.symm hCD
    · exact hCm p hp) fun h'' F4 => h h'' _ F4
end
theorem names_T2 {k : Kd} {n : Nm} (h : n ∈ names k) : n ≠ .T2 := by rintro rfl; revert h; cases k <;> decide
structure Shp where
  r : List Cell
  pl : Option (Nat × Nat)
  n : Nm
noncomputable def parts : Kd → Nat
  | .P => 2
  | _ => 1
noncomputable def cellOf : Kd → Nat → Nm → Cell
  | .P, 0, n => .p (.a n) .w
  | .P, _, n => .p .w (.a n)
  | _, _, n => .s (.a n)
noncomputable def wilds (ks : List Kd) : List Cell := ks.map fun _ => .s .w
noncomputable def ShpOK (ks : List Kd) (sh : Shp) : Prop := match sh.pl with
  | none => sh.r = wilds ks
  | some (c, p) => ∃ k, ks[c]? = some k ∧ sh.n ∈ names k ∧ p < parts k ∧ sh.r = (wilds ks).set c (cellOf k p sh.n)
noncomputable def PlG (G : Gr) (v nv : Value) (sh : Shp) : Prop := match sh.pl with
  | none => v = .none ∧ ∃ t, nv = .str "" t
  | some (c, p) => ∃ a t1 t2, v = .ref a ∧ TupG G a [.int (c : Int) t1, .int (p : Int) t2] ∧ NmV nv sh.n
noncomputable def ShpG (P : Params) (G : Gr) (v : Value) (sh : Shp) : Prop := ∃ a rv pv nv, v = .ref a ∧ TupG G a [rv, pv, nv] ∧ RowG P G rv sh.r ∧ PlG G pv nv sh
theorem PlG.mono {G G' : Gr} (s : GLe G G') {v nv : Value} {sh : Shp} (h : PlG G v nv sh) : PlG G' v nv sh := by
  unfold PlG at h ⊢
  split at h
  · exact h
  · obtain ⟨a, t1, t2, e, x, y⟩ := h; exact ⟨a, t1, t2, e, x.mono s, y⟩
theorem ShpG.mono {P : Params} {G G' : Gr} (s : GLe G G') {v : Value} {sh : Shp} (h : ShpG P G v sh) : ShpG P G' v sh := let ⟨a, rv, pv, nv, e, x, y, z⟩ := h; ⟨a, rv, pv, nv, e, x.mono s, y.mono s, z.mono s⟩
theorem All2.set {α β : Type} {R : α → β → Prop} {as : List α} {bs : List β} {a : α} {b : β} (h : All2 R as bs) (x : R a b) : ∀ i, All2 R (as.set i a) (bs.set i b) := by
  induction h with
  | nil => intro i; exact .nil
  | cons h t ih =>
    intro i
    cases i with
    | zero => exact .cons x t
    | succ i => exact .cons h (ih i)
theorem cel_wilds {P : Params} {G : Gr} {ys : List Value} {ks : List Kd} (h : All2 (fun v (_ : Kd) => ∃ d, Simp P G v .w d) ys ks) : All2 (Cel P G) ys (wilds ks) := by
  induction h with
  | nil => exact .nil
  | cons h _ ih => obtain ⟨d, h⟩ := h; exact .cons (.simp h) ih
theorem shp_none {P : Params} {G : Gr} {ks : List Kd} {a D : Addr} {t : Tok} {vs : List Value} (hT : TupG G a [.ref D, .none, .str "" t]) (hrow : LstG G D vs) (hall : All2 (Cel P G) vs (wilds ks)) : ∃ sh, ShpOK ks sh ∧ ShpG P G (.ref a) sh :=
  ⟨⟨wilds ks, none, .F⟩, rfl, _, _, _, _, rfl, hT, ⟨_, _, rfl, hrow, hall⟩, rfl, t, rfl⟩
theorem shp_some {P : Params} {G : Gr} {ks : List Kd} {a D pa : Addr} {n : Nm} {k : Kd} {c p : Nat} {tn t1 t2 : Tok} {vs : List Value} (hT : TupG G a [.ref D, .ref pa, .str n.str tn]) (hpa : TupG G pa [.int (c : Int) t1, .int (p : Int) t2])
    (hk : ks[c]? = some k) (hn : n ∈ names k) (hp : p < parts k) (hrow : LstG G D vs) (hall : All2 (Cel P G) vs ((wilds ks).set c (cellOf k p n))) : ∃ sh, ShpOK ks sh ∧ ShpG P G (.ref a) sh :=
  ⟨⟨_, some (c, p), n⟩, ⟨k, hk, hn, hp, rfl⟩, _, _, _, _, rfl, hT, ⟨_, _, rfl, hrow, hall⟩, pa, t1, t2, rfl, hpa, tn, rfl⟩
section
variable {w : World} {H : Heap} {A : Around} {E : Value → Shared → Prop} {s : Shared} {G : Gr}
  {wr : List Addr} {G₀ : Gr} {h₀ : Heap} {L : Addr} {mu : List (Addr × Obj)} {m : Str → Option Value}
theorem sub_mu_set {value slice : Expr} {l : Addr} {o : Obj} {vs : List Value} {k : Int} {u : Tok} {v : Value} {Q : Value → Shared → Prop} (F : Fm H wr G₀ h₀ L G mu s.heap m) (hm : (l, o) ∈ mu) (ho : LO o (vs.set k.toNat v)) (h0 : 0 ≤ k) (hhi : k < 2 ^ 63) (hn : k < vs.length) (h : Q v s)
    (hs : subscripted slice false (.ref l) (.int k u) = operate [.ref l, .int k u] (getItem (.ref l) (.int k u)) := by with_unfolding_all rfl) :
    wpAny (model pw w) A (subscriptTail value slice (.ref l) (.int k u)) Q E s :=
  sub_mu F hm ho h0 hhi (by rw [List.getElem?_set_self (by omega)]) h hs
end
theorem cellOf_ne {k : Kd} {p : Nat} {n : Nm} (h : k ≠ .P) : cellOf k p n = .s (.a n) := by cases k <;> first | rfl | exact absurd rfl h
theorem cel_pair {P : Params} {G : Gr} {x : Addr} {ys : List Value} {v : Value} {n : Nm} {p dd : Nat} (hy : ∀ v ∈ ys, ∃ d, Simp P G v .w d) (hl : ys.length = 2) (hv : Simp P G v (.a n) dd) (hp : p < 2) (hi : TpG P G x (ys.set p v) ∨ ConG P G x .T2 (ys.set p v)) :
    Cel P G (.ref x) (cellOf .P p n) := by
  obtain ⟨v0, v1, rfl⟩ : ∃ a b, ys = [a, b] := by
    cases ys with
    | nil => simp at hl
    | cons a t => cases t with
      | nil => simp at hl
      | cons b t => cases t with
        | nil => exact ⟨a, b, rfl⟩
        | cons => simp at hl
  obtain ⟨d0, h0⟩ := hy v0 (by simp)
  obtain ⟨d1, h1⟩ := hy v1 (by simp)
  rcases (by omega : p = 0 ∨ p = 1) with rfl | rfl
  · rcases hi with i | i
    · exact .tup i hv h1
    · exact .con i hv h1
  · rcases hi with i | i
    · exact .tup i h0 hv
    · exact .con i h0 hv
theorem Fm.settle2 {H : Heap} {wr : List Addr} {G₀ G : Gr} {h₀ h : Heap} {L : Addr} {mu : List (Addr × Obj)} {m : Str → Option Value} {a : Addr} {o : Obj} (F : Fm H wr G₀ h₀ L G ((a, o) :: mu) h m) (h0 : h₀.get? a = none) (hm : ∀ p ∈ mu, p.1 ≠ a) :
    Fm H wr G₀ h₀ L (GAdd G a o) mu h m ∧ GLe G (GAdd G a o) ∧ GAdd G a o a = some o := ⟨F.settle h0 hm, GAdd.le (F.mus _ (.head _)).2.2, GAdd.self⟩
end
theorem rgoW2034 : True := by
  k_with "call ref" => (((with_reducible show wpAny _ _ (call (Value.ref 543) _) _ _ _); (rename Fm _ _ _ _ _ _ _ _ _ => FF'); refine c_wildF (by assumption) (by assumption) (Room.deeper (Room.le (by assumption) (by first | exact Nat.le_of_ble_eq_true rfl | exact rm_lit | omega))) FF' (by k_extra "kt_at_in") (by assumption) (by first | assumption | exact .inr (by assumption) | exact .inl (by simp)) ?_; intro vS' oS' gS' hS' tS' glS' troS' siS' FS'; clear FF'; (try simp (disch := assumption) only [setMu_head, setMu_nil, setMu_skip] at FS')))
  trivial
theorem rgoW2035 : True := by
  k_with "call ref" => (((with_reducible show wpAny _ _ (call (Value.ref 550) _) _ _ _); (rename Fm _ _ _ _ _ _ _ _ _ => FF'); refine c_askingF (by assumption) (by assumption) (Room.deeper (Room.le (by assumption) (by first | exact Nat.le_of_ble_eq_true rfl | exact rm_lit | omega))) FF' (by k_extra "kt_at_in") (by assumption) (by first | assumption | exact .inr (by assumption) | exact .inl (by simp)) (by assumption) ?_; intro vS' oS' gS' hS' tS' glS' troS' siS' FS'; clear FF'; (try simp (disch := assumption) only [setMu_head, setMu_nil, setMu_skip] at FS')))
  trivial
theorem rgpW2036 : True := by
  k_with "subscriptTail" => ((fail_if_success (k_extra "off:W20")); k_extra "W20:subscriptTail")
  trivial
theorem rgoW2036 : True := by
  k_with "W20:subscriptTail" => (((with_reducible show wpAny _ _ (subscriptTail _ _ (Value.ref _) (Value.int (Nat.cast _) _)) _ _ _); first | (refine sub_nm (by assumption) (by k_extra "ktr_rel") (by assumption) (by omega) (by omega) ?_; intro nS' tS' enS') | (refine sub_kd (by assumption) (by k_extra "ktr_rel") (by assumption) (by omega) (by omega) ?_; intro kS' tS' ekS' ekS2')))
  trivial
theorem rgoW2037 : True := by
  k_with "W20:subscriptTail" => (((with_reducible show wpAny _ _ (subscriptTail _ _ (Value.ref 512) _) _ _ _); refine sub_ln (by assumption) (by (first | assumption | (refine LN.mono ?_ (by assumption); k_extra "ktr_room"))) ?_; intro vsS' lnS' anS' lenS'))
  trivial
theorem rg11 : True := by
  k_with "km_sub" => (first | ((with_reducible show wpAny _ _ (subscriptTail _ _ (Value.ref 512) _) _ _ _); refine sub_ln (by assumption) (by (first | assumption | (refine LN.mono ?_ (by assumption); k_extra "ktr_room"))) ?_; intro vsS' lnS' anS' lenS') | (refine sub_mu_set (by assumption) (by k_extra "kt_at_in") (by assumption) (by omega) (by omega) (by omega) ?_) | (refine sub_mu (by assumption) (by k_extra "kt_at_in") (by assumption) (by first | decide | omega) (by first | decide | omega) (by first | (simp; done) | assumption | rfl) ?_) | ((with_reducible show wpAny _ _ (subscriptTail _ _ (Value.ref _) (Value.int (Nat.cast _) _)) _ _ _); first | (refine sub_nat (by assumption) (by k_extra "ktr_rel") (by assumption) (by first | assumption | omega) ?_) | (refine sub_nm (by assumption) (by k_extra "ktr_rel") (by assumption) (by omega) (by omega) ?_; intro nS' tS' enS') | (refine sub_kd (by assumption) (by k_extra "ktr_rel") (by assumption) (by omega) (by omega) ?_; intro kS' tS' ekS' ekS2') | (refine sub_sel (by assumption) (by k_extra "ktr_rel") (by first | (simp; omega) | omega) (by first | exact Nat.le_of_ble_eq_true rfl | assumption | omega) ?_; intro vS' evS')) | (refine sub_lst (by assumption) (by k_extra "ktr_rel") (by first | decide | omega) (by first | decide | omega) (by first | rfl | assumption) ?_) | (refine sub_tup (by assumption) (by k_extra "ktr_rel") (by first | decide | omega) (by first | decide | omega) (by first | rfl | assumption) (by first | rfl | assumption) ?_) | (refine sub_from (by assumption) (by k_extra "ktr_rel") (by first | decide | omega) (by k_extra "kln_le") ?_; intro xS' gS' hS' glS' eS' FS') | (refine sub_upto (by assumption) (by k_extra "ktr_rel") (by first | decide | omega) (by k_extra "kln_le") ?_; intro xS' gS' hS' glS' eS' FS'))
  k_with "kc_close" => (((try dsimp only); (all_goals (try ((with_reducible show wpAny _ _ _ _ _ _); (fail_if_success goal_lacks CompEnd ForEnd WhEnd); refine wp_hide ?_; intro RQ' hRQ'))); (repeat' (first | ((fail_if_success goal_lacks PySem.subscriptTail); (with_reducible show wpAny _ _ (subscriptTail _ _ _ _) _ _ _); first | walk_at "km_sub" | (refine stop_in ?_)) | walk1 | (dsimp only; walk1) | ((rename Hid _ _ => hidq9); (with_reducible refine hidq9 _ _ ?_); clear hidq9; (try dsimp only); (try ((with_reducible show wpAny _ _ _ _ _ _); (fail_if_success goal_lacks CompEnd ForEnd WhEnd); refine wp_hide ?_; intro RQ' hRQ'))))); (all_goals (try (with_reducible refine stop_out ?_)))))
  k_with "eval Name" => (first | (with_unfolding_all refine nm_local (by assumption) (by rfl) ?_) | (with_unfolding_all refine nm_cell (by assumption) (by rfl) (by k_extra "kt_at_in") (by assumption) ?_) | (with_unfolding_all refine nm_glob (by assumption) (by assumption) (KOk.gl (by assumption)) ?_) | (with_unfolding_all refine nm_blt (by assumption) (by assumption) (KOk.bl (by assumption)) (by boot_by_name) (by decide) ?_) | (with_unfolding_all refine nm_local (by assumption) (by assumption) ?_) | (with_unfolding_all refine nm_glob (by assumption) (by assumption) (by assumption) ?_))
  k_with "setItem ref" => (k_dflt ((refine set_mu (by assumption) (by k_extra "kt_at_in") (by first | exact LO.of | assumption) (by first | assumption | exact .inr (by assumption) | exact .inl (by simp)) (by first | decide | omega) (by first | decide | omega) (by first | decide | omega | (simp; done) | (simp; omega)) ?_; intro hS' oS' loS' FS'; (try simp (disch := assumption) only [setMu_head, setMu_nil, setMu_skip] at FS'))))
  k_with "call ref" => (((with_reducible show wpAny _ _ (call (Value.ref 550) _) _ _ _); (rename Fm _ _ _ _ _ _ _ _ _ => FF'); refine c_askingF (by assumption) (by assumption) (Room.deeper (Room.le (by assumption) (by first | exact Nat.le_of_ble_eq_true rfl | exact rm_lit | omega))) FF' (by k_extra "kt_at_in") (by assumption) (by first | assumption | exact .inr (by assumption) | exact .inl (by simp)) (names_T2 (List.mem_of_getElem? (by assumption))) ?_; intro vS' oS' gS' hS' tS' glS' troS' siS' FS'; clear FF'; (try simp (disch := assumption) only [setMu_head, setMu_nil, setMu_skip] at FS')))
  k_with "eval Name" => (k_extra "keq_rows")
  trivial
section
theorem rgpW2038 : True := by
  k_with "setItem ref" => ((fail_if_success (k_extra "off:W20")); k_extra "W20:setItem ref")
  trivial
theorem rgoW2038 : True := by
  k_with "W20:setItem ref" => (k_dflt ((refine set_mu (by assumption) (by k_extra "kt_at_in") (by first | exact LO.of | assumption) (by first | assumption | exact .inr (by assumption) | exact .inl (by simp)) (by first | decide | omega) (by first | decide | omega) (by first | decide | omega | (simp; done) | (simp; omega)) ?_; intro hS5 oD5 lo5 FS5; (try simp (disch := assumption) only [setMu_head, setMu_nil, setMu_skip] at FS5))))
  trivial
section
variable {w : World} {K : Frag} {H : Heap} {mg mb : Str → Option Value} {A : Around} {E : Value → Shared → Prop} {s : Shared} {G : Gr}
set_option maxHeartbeats 4000000 in
theorem c_row {tr kl : Addr} {o : Obj} {kvs : List Value} {ks : List Kd} {Q : Value → Shared → Prop} (B : Bs w K H mg mb) (k : KOk K) (hgl : nsIn K mainGlobals (Str.ofString "_law_names") = some (some (.ref 512))) (ln : LN w G) (rm : Room A 7) (hH : HLe H G) (hG : GIn G s.heap)
    (hm : s.heap.get? tr = some o) (hg : G tr = none) (ho : TrO o) (hkl : LstG G kl kvs) (hks : All2 KdV kvs ks) (hk0 : 1 ≤ ks.length) (hk64 : ks.length ≤ 60)
    (h : ∀ v o' G' h' tk', Went [tr] G s.heap G' h' → h'.get? tr = some o' → TrO o' → (∃ sh, ShpOK ks sh ∧ ShpG w.params G' v sh) → Q v { s with heap := h', toks := tk' }) :
    wpAny (model pw w) A (call (.ref 555) [.ref tr, .ref kl]) Q E s := dis (by
  simp (disch := k_dflt (
    refine dis ?_
    have hf := k.f555
    obtain ⟨td, e⟩ : ∃ t, t = topFd 48 := ⟨_, rfl⟩
    rw [← e] at hf
    conv at e => (rhs; whnf)
    subst e
    refine wpAny_call (code_fnC (binds := [("trough", .ref tr), ("kinds", .ref kl)]) [tr] [(tr, o)] B hf hH hG rm.depth (by intro p hp; cases List.mem_singleton.mp hp; exact ⟨hm, hg⟩) (fun _ _ _ _ _ _ => BindsTo.of_eq (by rfl)) (by rfl) (by decide) ?_)
    clear hf
    intro L h₁ tk₁ cdv cells nL hcn hap F hC
    obtain ⟨oc, rfl, hoc⟩ := CellsAre.one (n := "trough") (c := L + 1) hC
    clear hC
    have hcn0 : s.heap.get? (L + 1) = none := hcn _ (.head _)
    have htc : tr ≠ L + 1 := hap _ (.head _) _ (.head _)
    have hct : L + 1 ≠ tr := Ne.symm htc
    change Fm H [tr] G s.heap L G [(L + 1, oc), (tr, o)] h₁ (fun y => if y = "kinds" then some (.ref kl) else none) at F
    change oc.data = .cell (some (.ref tr)) at hoc
    have hkvl : kvs.length = ks.length := hks.length
    have hkz : kvs.length ≤ 64 := by omega
    k_extra "kc_close"
    refine as_comp (by rfl) (by rfl) (by rfl) (by rfl) ?_
    k_extra "kc_close"
    refine comp_lst [tr] (fun i G' mu' ys => ∃ o', mu' = [(L + 1, oc), (tr, o')] ∧ TrO o' ∧ All2 (fun v (_ : Kd) => ∃ d, Simp w.params G' v .w d) ys (ks.take i)) (by assumption) hkl rm.1 (Nat.le_trans hkz (by decide)) (by rfl) (by rfl) (.inl ⟨_, _, rfl⟩) ?_ ⟨o, rfl, ho, .nil⟩ ?_ ?_
    · intro a ha
      cases List.mem_singleton.mp ha
      exact ⟨(F.mus _ (.tail _ (.head _))).2.1, ⟨_, .tail _ (.head _)⟩, .inl (.head _)⟩
    · rintro i v ys G₁ mu₁ C h₂ tk₂ m₁ hv ⟨o', rfl, ho', hys2⟩ gl hys hmu F₂
      obtain ⟨k1, ek1, tk1, rfl⟩ := hks.get hv
      k_extra "kc_close"
      k_extra "kpf_close"
      exact ⟨_, rfl, by assumption, by rw [take_snoc ek1]; exact (hys2.mono fun _ _ ⟨d, q⟩ => ⟨d, q.mono (by k_extra "ktr_room")⟩).snoc (by assumption)⟩
    · rintro D C2 k2 h3 tk3 G3 mu3 ys3 m3 ⟨o', rfl, ho', h5⟩ hys3 gl3 hmu3 F3 hD0 hDm hnC hCL hCD hC0 hGC hCm
      rw [hkvl, List.take_length] at h5
      have hDt : D ≠ tr := fun e => hDm _ (.tail _ (.head _)) e.symm
      have hDc : D ≠ L + 1 := fun e => hDm _ (.head _) e.symm
      have hDt' : tr ≠ D := Ne.symm hDt
      have hDc' : L + 1 ≠ D := Ne.symm hDc
      refine cp_asM (y := "row") F3 hnC hCL hCD hC0 hGC hCm (by rfl) (by rfl) ?_
      intro h4 tk4 F4
      clear F3
      have hysl : ys3.length = ks.length := h5.length
      k_extra "kc_close"
      · rename Fm _ _ _ _ _ _ _ _ _ => FF
        have F5 := FF.settle hD0 (by simp; exact ⟨hDc', hDt'⟩)
        have gl5 := GAdd.le (o := lstO ys3 k2) (FF.mus _ (.head _)).2.2
        rename _ = some (Obj.mk (Value.type "tuple") _ _ _) => hT
        exact h _ _ _ _ _ (Fm.done F5 nL) (FF.mus _ (.tail _ (.tail _ (.head _)))).1 (by assumption) (shp_none ⟨_, gl5 _ _ hT, rfl, _, rfl⟩ ⟨_, GAdd.self, rfl, _, rfl⟩ (cel_wilds (h5.mono fun _ _ ⟨d, q⟩ => ⟨d, q.mono (by k_extra "ktr_room")⟩)))
      · have hkP := kd_P.mp (by assumption)
        subst hkP
        refine ev_comp (by rfl) (by rfl) (by rfl) ?_
        k_extra "kc_close"
        refine comp_rng (n := 2) [tr] (fun i G' mu' ys => ∃ o', mu' = [(D, oD5), (L + 1, oc), (tr, o')] ∧ TrO o' ∧ (∀ v ∈ ys, ∃ d, Simp w.params G' v .w d) ∧ ys.length = i) (by assumption) rm.1 (by decide) (by rfl) (by rfl) ?_ ⟨_, rfl, by assumption, by simp, rfl⟩ ?_ ?_
        · intro a ha
          cases List.mem_singleton.mp ha
          rename Fm _ _ _ _ _ _ _ _ _ => FF
          exact ⟨(FF.mus _ (.tail _ (.tail _ (.head _)))).2.1, ⟨_, .tail _ (.tail _ (.head _))⟩, .inl (.head _)⟩
        · rintro i ti ys G₁ mu₁ C h₂ tk₂ m₁ hi ⟨o', rfl, ho', hys2, hyl⟩ gl hys hmu F₂
          k_extra "kc_close"
          rename ∃ d, Simp _ _ _ _ d => hsm
          k_extra "kpf_close"
          refine ⟨_, rfl, by assumption, fun v hv => ?_, by simp [hyl]⟩
          rcases List.mem_append.mp hv with hv | hv
          · obtain ⟨d, q⟩ := hys2 v hv; exact ⟨d, q.mono (by k_extra "ktr_room")⟩
          · cases List.mem_singleton.mp hv; exact hsm
        · rintro D2 C3 k3 h6 tk6 G6 mu6 ys6 m6 ⟨o6, rfl, ho6, h7, hyl6⟩ hys6 gl6 hmu6 F6 hE0 hEm hnC3 hCL3 hCD3 hC03 hGC3 hCm3
          have hEt : D2 ≠ tr := fun e => hEm _ (.tail _ (.tail _ (.head _))) e.symm
          have hEc : D2 ≠ L + 1 := fun e => hEm _ (.tail _ (.head _)) e.symm
          have hED : D2 ≠ D := fun e => hEm _ (.head _) e.symm
          have hEt' : tr ≠ D2 := Ne.symm hEt
          have hEc' : L + 1 ≠ D2 := Ne.symm hEc
          have hED' : D ≠ D2 := Ne.symm hED
          refine cp_noneM F6 hnC3 hCL3 hCD3 hC03 hGC3 hCm3 ?_
          intro h8 F8
          clear F6
          k_extra "kc_close"
          all_goals rename Fm _ _ _ _ _ _ _ _ _ => FF
          all_goals rename _ = some (Obj.mk (Value.type "tuple") _ _ _) => hT0
          all_goals have hT : TupG _ _ _ := ⟨_, hT0, rfl, _, rfl⟩
          all_goals clear hT0
          all_goals rename _ = some (Obj.mk (Value.type "tuple") _ _ _) => hT0
          all_goals have hP : TupG _ _ _ := ⟨_, hT0, rfl, _, rfl⟩
          all_goals clear hT0
          all_goals rename ∃ d, Simp _ _ _ _ d => hsm
          all_goals obtain ⟨dd, hsm⟩ := hsm
          all_goals rename LO _ (List.set ys6 _ _) => lo6
          all_goals rename (names _)[_]? = some _ => enS
          all_goals rename ks[_]? = some _ => ekS2
          all_goals rename InsF _ _ _ _ _ => iS
          all_goals rw [List.set_set] at lo5
          all_goals obtain ⟨F9, gl9, gs9⟩ := FF.settle2 hE0 (by simp; exact ⟨hED', hEc', hEt'⟩)
          all_goals obtain ⟨F10, gl10, gs10⟩ := F9.settle2 hD0 (by simp; exact ⟨hDc', hDt'⟩)
          all_goals refine h _ _ _ _ _ (Fm.done F10 nL) (F9.mus _ (.tail _ (.tail _ (.head _)))).1 (by assumption) (shp_some ((hT.mono gl9).mono gl10) (hP.mono (by k_extra "ktr_room")) ekS2 (List.mem_of_getElem? enS) (by show _ < 2; omega) ⟨_, gs10, lo5.1, lo5.2⟩ ((cel_wilds (h5.mono fun _ _ ⟨d, q⟩ => ⟨d, q.mono (by k_extra "ktr_room")⟩)).set (cel_pair (fun v hv => let ⟨d, q⟩ := h7 v hv; ⟨d, q.mono (by k_extra "ktr_room")⟩) hyl6 (hsm.mono (by k_extra "ktr_room")) (by omega) ?_) _))
          · exact .inl ⟨_, _, iS.mono (by k_extra "ktr_room"), LstG.mono ⟨_, gs9, lo6.1, lo6.2⟩ gl10⟩
          · exact .inr ⟨_, _, _, iS.mono (by k_extra "ktr_room"), LstG.mono ⟨_, gs9, lo6.1, lo6.2⟩ gl10⟩
      · rename Fm _ _ _ _ _ _ _ _ _ => FF
        have hkP : ∀ {k : Kd}, (kdStr k == "P") = false → k ≠ .P := fun e q => by rw [q] at e; revert e; decide +kernel
        have hkP' := hkP (by assumption)
        rename _ = some (Obj.mk (Value.type "tuple") _ _ _) => hT0
        have hT : TupG _ _ _ := ⟨_, hT0, rfl, _, rfl⟩
        clear hT0
        rename _ = some (Obj.mk (Value.type "tuple") _ _ _) => hT0
        have hP : TupG _ _ _ := ⟨_, hT0, rfl, _, rfl⟩
        clear hT0
        rename ∃ d, Simp _ _ _ _ d => hsm
        obtain ⟨dd, hsm⟩ := hsm
        rename (names _)[_]? = some _ => enS
        rename ks[_]? = some _ => ekS2
        have F10 := FF.settle hD0 (by simp; exact ⟨hDc', hDt'⟩)
        have gl10 := GAdd.le (o := oD5) (FF.mus _ (.head _)).2.2
        refine h _ _ _ _ _ (Fm.done F10 nL) (FF.mus _ (.tail _ (.tail _ (.head _)))).1 (by assumption) (shp_some (p := 0) (hT.mono gl10) (hP.mono (by k_extra "ktr_room")) ekS2 (List.mem_of_getElem? enS) (by cases ‹Kd› <;> decide) ⟨_, GAdd.self, lo5.1, lo5.2⟩ ?_)
        rw [cellOf_ne hkP']
        exact (cel_wilds (h5.mono fun _ _ ⟨d, q⟩ => ⟨d, q.mono (by k_extra "ktr_room")⟩)).set (.simp (hsm.mono (by k_extra "ktr_room"))) _)) only [↓und])
end
end
theorem rgeW20 : True := by
  k_with "off:W20" => skip
  trivial
section
section
variable {w : World} {H : Heap} {A : Around} {E : Value → Shared → Prop} {s : Shared} {G : Gr}
  {wr : List Addr} {G₀ : Gr} {h₀ : Heap} {L : Addr} {mu : List (Addr × Obj)} {m : Str → Option Value}
theorem eq_pl_none {b : Addr} {vs : List Value} {Q : Value → Shared → Prop} (F : Fm H wr G₀ h₀ L G mu s.heap m) (h : TupG G b vs) (hu : A.units < cLine) (q : Q (.bool false) s) : wpAny (model pw w) A (compareOp .Eq .none (.ref b)) Q E s :=
  SeqAt.RcAt.none_tuple (h.at F.inn) hu _ _ _ _ q
theorem eq_pl {a b : Addr} {c p c' p' : Nat} {t1 t2 t3 t4 : Tok} {Q : Value → Shared → Prop} (F : Fm H wr G₀ h₀ L G mu s.heap m) (h : TupG G a [.int (c : Int) t1, .int (p : Int) t2]) (h' : TupG G b [.int (c' : Int) t3, .int (p' : Int) t4]) (hu : A.units < cLine)
    (q : Q (.bool (decide (c = c' ∧ p = p'))) s) : wpAny (model pw w) A (compareOp .Eq (.ref a) (.ref b)) Q E s := by
  refine SeqAt.eq_tupleAt (e := fun j => if j = 0 then ((c : Int) == (c' : Int)) else ((p : Int) == (p' : Int))) (h.at F.inn) (h'.at F.inn) hu (fun j h1 h2 => ?_) ?_
  · rcases (by simp at h1; omega : j = 0 ∨ j = 1) with rfl | rfl
    · exact SeqAt.EqAt.int_int _ _ _ _
    · exact SeqAt.EqAt.int_int _ _ _ _
  · have e : ((List.range (min [Value.int (c : Int) t1, .int (p : Int) t2].toArray.size [Value.int (c' : Int) t3, .int (p' : Int) t4].toArray.size)).all fun j => if j = 0 then ((c : Int) == (c' : Int)) else ((p : Int) == (p' : Int))) = decide (c = c' ∧ p = p') := by
      have e0 : ∀ x y : Nat, ((x : Int) == (y : Int)) = decide (x = y) := fun x y => by
        by_cases q : x = y
        · subst q; simp
        · rw [decide_eq_false q]; exact beq_eq_false_iff_ne.mpr fun z => q (Int.ofNat.inj z)
      show (((c : Int) == (c' : Int)) && (((p : Int) == (p' : Int)) && true)) = _
      rw [e0, e0, Bool.and_true, Bool.decide_and]
    rw [e]
    simpa using q
end
noncomputable def askedS (shs : List Shp) (c p : Nat) : List Nm := shs.filterMap fun sh => if sh.pl = some (c, p) then some sh.n else none
theorem asked_yes {shs : List Shp} {sh : Shp} {c p : Nat} (h : sh.pl = some (c, p)) : askedS (shs ++ [sh]) c p = askedS shs c p ++ [sh.n] := by simp [askedS, h]
theorem asked_no {shs : List Shp} {sh : Shp} {c p : Nat} (h : sh.pl ≠ some (c, p)) : askedS (shs ++ [sh]) c p = askedS shs c p := by simp [askedS, h]
end
theorem rg12 : True := by
  k_with "assign Tuple" => (((with_reducible show wpAny _ _ (assign (Expr.Tuple _ _ _) _ (Value.ref _)) _ _ _); refine asg_g (by assumption) (Room.hd (by assumption)) (by k_extra "ktr_rel") (by rfl) (by rfl) ?_; intro hS' FS'))
  k_with "compareOp Eq none ref" => (refine eq_pl_none (by assumption) (by k_extra "ktr_rel") (Room.hu (by assumption)) ?_)
  k_with "compareOp Eq ref ref" => (refine eq_pl (by assumption) (by k_extra "ktr_rel") (by k_extra "ktr_rel") (Room.hu (by assumption)) ?_)
  trivial
section
section
variable {w : World} {K : Frag} {H : Heap} {mg mb : Str → Option Value} {A : Around} {E : Value → Shared → Prop} {s : Shared} {G : Gr}
set_option maxHeartbeats 4000000 in
theorem c_asked {sl pa : Addr} {svs : List Value} {shs : List Shp} {c p : Nat} {t1 t2 : Tok} {Q : Value → Shared → Prop} (B : Bs w K H mg mb) (k : KOk K) (rm : Room A 7) (hH : HLe H G) (hG : GIn G s.heap)
    (hsl : LstG G sl svs) (hss : All2 (ShpG w.params G) svs shs) (hz : svs.length ≤ 64) (hpa : TupG G pa [.int (c : Int) t1, .int (p : Int) t2])
    (h : ∀ x ys G' h' tk', Went [] G s.heap G' h' → LstG G' x ys → All2 NmV ys (askedS shs c p) → Q (.ref x) { s with heap := h', toks := tk' }) :
    wpAny (model pw w) A (call (.ref 560) [.ref sl, .ref pa]) Q E s := dis (by
  simp (disch := k_dflt (
    refine dis ?_
    have hf := k.f560
    obtain ⟨td, e⟩ : ∃ t, t = topFd 49 := ⟨_, rfl⟩
    rw [← e] at hf
    conv at e => (rhs; whnf)
    subst e
    refine wpAny_call (code_fnC (binds := [("shapes", .ref sl), ("place", .ref pa)]) [] [] B hf hH hG rm.depth (by simp) (fun _ _ _ _ _ _ => BindsTo.of_eq (by rfl)) (by rfl) (by decide) ?_)
    clear hf
    intro L h₁ tk₁ cdv cells nL hcn hap F hC
    obtain ⟨oc, rfl, hoc⟩ := CellsAre.one (n := "place") (c := L + 1) hC
    clear hC
    have hcn0 : s.heap.get? (L + 1) = none := hcn _ (.head _)
    change Fm H [] G s.heap L G [(L + 1, oc)] h₁ (fun y => if y = "shapes" then some (.ref sl) else none) at F
    change oc.data = .cell (some (.ref pa)) at hoc
    k_extra "kc_close"
    refine ev_comp (by rfl) (by rfl) (by rfl) ?_
    k_extra "kc_close"
    refine comp_lst [] (fun i G' mu' ys => mu' = [(L + 1, oc)] ∧ All2 NmV ys (askedS (shs.take i) c p)) (by assumption) hsl rm.1 (Nat.le_trans hz (by decide)) (by rfl) (by rfl) (.inr ⟨⟨_, _, _, rfl⟩, fun v hv => by
      obtain ⟨i, hi⟩ := List.getElem?_of_mem hv
      obtain ⟨sh, _, a, _, _, _, e, _⟩ := hss.get hi
      exact ⟨a, e⟩⟩) (by simp) ⟨rfl, .nil⟩ ?_ ?_
    · rintro i v ys G₁ mu₁ C h₂ tk₂ m₁ hv ⟨rfl, hys2⟩ gl hys hmu F₂
      clear F
      obtain ⟨sh, esh, a, rv, pv, nv, rfl, hT, hR, hP⟩ := hss.get hv
      unfold PlG at hP
      cases hpl : sh.pl with
      | none =>
        rw [hpl] at hP
        obtain ⟨rfl, tn, rfl⟩ := hP
        k_extra "kc_close"
        k_extra "kpf_close"
        exact ⟨rfl, by rw [take_snoc esh, asked_no (by rw [hpl]; simp)]; exact hys2⟩
      | some q =>
        obtain ⟨c2, p2⟩ := q
        rw [hpl] at hP
        obtain ⟨pb, t3, t4, rfl, hpb, tn, rfl⟩ := hP
        k_extra "kc_close"
        · have q : c2 = c ∧ p2 = p := by assumption
          obtain ⟨rfl, rfl⟩ := q
          k_extra "kpf_close"
          exact ⟨rfl, by rw [take_snoc esh, asked_yes hpl]; exact hys2.snoc ⟨_, rfl⟩⟩
        · have q : ¬(c2 = c ∧ p2 = p) := by assumption
          k_extra "kpf_close"
          exact ⟨rfl, by rw [take_snoc esh, asked_no (by rw [hpl]; intro e; cases e; exact q ⟨rfl, rfl⟩)]; exact hys2⟩
    · rintro D C2 k2 h3 tk3 G3 mu3 ys3 m3 ⟨rfl, h5⟩ hys3 gl3 hmu3 F3 hD0 hDm hnC hCL hCD hC0 hGC hCm
      refine cp_none F3 hD0 hDm hnC hCL hCD hC0 hGC hCm ?_
      intro h4 G4 gl4 hl4 F4
      clear F3
      rw [hss.length, List.take_length] at h5
      k_extra "kc_close"
      exact h _ _ _ _ _ (Fm.done (by assumption) nL) hl4 h5)) only [↓und])
end
end
section
section
variable {prog : Program} {w : World} {H : Heap} {A : Around} {E : Value → Shared → Prop} {s : Shared} {G : Gr}
  {wr : List Addr} {G₀ : Gr} {h₀ : Heap} {L : Addr} {mu : List (Addr × Obj)} {m : Str → Option Value} {env : Env}
theorem Fm.others {h h' : Heap} {ws : List Addr} (F : Fm H wr G₀ h₀ L G mu h m) (hk : ∀ b o, b ∉ ws → h.get? b = some o → h'.get? b = some o) (hw : ∀ I ∈ ws, I ≠ L ∧ G I = none ∧ h₀.get? I = none ∧ ∀ p ∈ mu, p.1 ≠ I) : Fm H wr G₀ h₀ L G mu h' m := by
  obtain ⟨oL, es, ep, hLo, r⟩ := F.ns
  refine ⟨⟨oL, es, ep, hk _ _ (fun q => (hw _ q).1 rfl) hLo, r⟩, F.base, ⟨F.went.sub, fun b o e => hk b o (fun q => by rw [(hw _ q).2.1] at e; cases e) (F.inn b o e), F.went.new, fun b o n e => hk b o (fun q => by rw [(hw _ q).2.2.1] at e; cases e) (F.went.rest b o n e), fun b o e => ?_⟩, F.off,
    fun p hp => ⟨hk _ _ (fun q => (hw _ q).2.2.2 p hp rfl) (F.mus _ hp).1, (F.mus _ hp).2⟩⟩
  obtain ⟨o', e'⟩ := F.went.live b o e
  exact ⟨o', hk b o' (fun q => by rw [(hw _ q).2.2.1] at e; cases e) e'⟩
theorem Fm.know {h : Heap} {T : Addr} {o : Obj} (F : Fm H wr G₀ h₀ L G mu h m) (hT : h.get? T = some o) (hL : T ≠ L) (hG : G T = none) (h0 : h₀.get? T = none) (hm : ∀ p ∈ mu, p.1 ≠ T) : Fm H wr G₀ h₀ L (GAdd G T o) mu h m ∧ GLe G (GAdd G T o) ∧ GAdd G T o T = some o :=
  (F.addMu hT hL hG).settle2 h0 hm
theorem for_enum {es : List Expr} {kx} {px : Pos} {body : List Stmt} {l : Addr} {vs : List Value} {Q : Flow → Shared → Prop} {ER : Value → Shared → Prop}
    (Inv : Nat → Gr → List (Addr × Obj) → (Str → Option Value) → Prop)
    (F : Fm H wr G₀ h₀ env.locals G mu s.heap m) (hl : LstG G l vs) (hh : A.handled = none) (hinv : Inv 0 G mu m)
    (turn : ∀ i v T t G' mu' m' h tk I oI I2 oI2, vs[i]? = some v → Inv i G' mu' m' → GLe G G' → mu'.map (·.1) = mu.map (·.1) → (∀ p ∈ mu', p.1 ≠ I) → (∀ p ∈ mu', p.1 ≠ I2) → I ≠ I2 → h₀.get? I = none → h₀.get? I2 = none → (∀ G'', GLe G' G'' → TupG G'' T [.int (i : Int) t, v]) →
      (∀ Gx, GLe Gx G' → Inv i Gx mu' m' → Inv i G' mu' m') →
      Fm H wr G₀ h₀ env.locals G' ((I, oI) :: (I2, oI2) :: mu') h m' →
      wpAny (model prog w) A (assign (.Tuple es kx px) env (.ref T)) (fun _ s₂ => wpAny (model prog w) A (execs body env) (fun f s₃ => match f with
          | .next | .cont => ForEnd H wr G₀ h₀ env.locals I oI G' ((I2, oI2) :: mu') (fun G'' mu'' m'' => ∃ mu0, mu'' = (I2, oI2) :: mu0 ∧ Inv (i + 1) G'' mu0 m'') s s₃
          | .brk => Q .next s₃
          | .ret v => Q (.ret v) s₃) (fun _ _ => False) s₂) (fun _ _ => False) { s with heap := h, toks := tk })
    (hup : ∀ i G' G'' mu' m', GLe G' G'' → Inv i G' mu' m' → Inv i G'' mu' m')
    (done : ∀ h' tk G' mu' m', Inv vs.length G' mu' m' → GLe G G' → mu'.map (·.1) = mu.map (·.1) → Fm H wr G₀ h₀ env.locals G' mu' h' m' → Q .next { s with heap := h', toks := tk }) :
    wpAny (model prog w) A (call (.type "enumerate") [.ref l]) (fun x s₁ => wpAny (model prog w) A (pyIter x) (fun it s₂ => codeAny (model prog w) A (.forLoop (.Tuple es kx px) it body [] env) (fun r s' => match r with | .ok f => Q f s' | .error e => ER e s') s₂) E s₁) E s := by
  have hls := hl.at F.inn
  obtain ⟨ol, hol, hr⟩ := hl
  obtain ⟨sh, sg, sd, st, so⟩ := s
  dsimp only at *
  have n0 : sh.get? sh.objs.size = none := none_size _
  have n1 : sh.get? (sh.objs.size + 1) = none := by
    cases e : sh.get? (sh.objs.size + 1) with
    | none => rfl
    | some o => exact absurd (Heap.lt_size e) (Nat.not_lt.mpr (Nat.le_succ _))
  refine call_enumerate_list hls fun h₁ hen hit hsz hk₁ => ?_
  dsimp only at hen hit hsz hk₁ ⊢
  generalize hIt : sh.objs.size = J at *
  have hlJ : l ≠ J := fun q => by have := F.inn _ _ hol; rw [q, n0] at this; cases this
  have hlI : l ≠ J + 1 := fun q => by have := F.inn _ _ hol; rw [q, n1] at this; cases this
  have hIJ : J + 1 ≠ J := Nat.succ_ne_self _
  have hls₁ : h₁.IsList l vs.toArray := hls.at fun o e => hk₁ _ o e
  have F₁ := F.kept hk₁
  have W := WalksT.enumerate (prog := prog) (w := w) hh (J + 1) J l hIJ hlI hlJ vs.toArray
  have hn : vs.toArray.size = vs.length := by simp
  rw [hn] at W
  have ws0 : ∀ I ∈ [J + 1, J], I ≠ env.locals ∧ h₀.get? I = none ∧ ∀ p ∈ mu, p.1 ≠ I := by
    intro I hI
    have hn' : sh.get? I = none := by
      rcases List.mem_cons.mp hI with rfl | hI
      · exact n1
      · rw [List.mem_singleton.mp hI]; exact n0
    exact ⟨F.freshL hn', F.fresh0 hn', F.freshM hn'⟩
  have gI0 : G (J + 1) = none := F.inn.fresh n1
  have gJ0 : G J = none := F.inn.fresh n0
  refine W.self 0 _ _ _ ⟨⟨_, hen⟩, hit, hls₁⟩ ?_
  refine forLoop2 (fun k s' => ∀ Z : Prop, (∀ i h tk G' mu' m', s' = ⟨h, sg, sd, tk, so⟩ → k = vs.length + 1 - i → i ≤ vs.length → ((∃ old, IsEnum h (J + 1) J i old) ∧ h.IsListIter J l i ∧ h.IsList l vs.toArray) → Fm H wr G₀ h₀ env.locals G' mu' h m' → G' (J + 1) = none → G' J = none →
      mu'.map (·.1) = mu.map (·.1) → Inv i G' mu' m' → GLe G G' → Z) → Z) ?_ (vs.length + 1) fun _ z => z 0 h₁ st G mu m rfl rfl (Nat.zero_le _) ⟨⟨_, hen⟩, hit, hls₁⟩ F₁ gI0 gJ0 rfl hinv (GLe.refl _)
  intro k s' hI
  refine hI _ fun i h tk G' mu' m' e1 e2 hi hsti Fo gI gJ hmu hin hGG => ?_
  clear hI
  subst e1 e2
  have adr : ∀ {mu₂ : List (Addr × Obj)}, mu₂.map (·.1) = mu.map (·.1) → ∀ I ∈ [J + 1, J], ∀ p ∈ mu₂, p.1 ≠ I := fun e I hI p hp => by
    have : p.1 ∈ mu.map (·.1) := e ▸ List.mem_map_of_mem hp
    obtain ⟨q, hq, e'⟩ := List.mem_map.mp this
    exact e' ▸ (ws0 I hI).2.2 q hq
  have wsF : ∀ I ∈ [J + 1, J], I ≠ env.locals ∧ G' I = none ∧ h₀.get? I = none ∧ ∀ p ∈ mu', p.1 ≠ I := by
    intro I hI
    refine ⟨(ws0 I hI).1, ?_, (ws0 I hI).2.1, adr hmu I hI⟩
    rcases List.mem_cons.mp hI with rfl | hI
    · exact gI
    · rw [List.mem_singleton.mp hI]; exact gJ
  by_cases hlt : i < vs.length
  · refine W.item i _ _ _ hlt hsti fun T vals h₂ tk₂ hP hTsz hTup hMid hk₂ => ?_
    obtain ⟨t, x, hx, rfl⟩ := hP
    have hTw := W.apart _ _ _ hMid
    refine W.go _ _ _ _ _ _ _ _ hMid fun h₃ hst₃ hk₃ => ?_
    have hk : ∀ b o, b ∉ [J + 1, J] → h.get? b = some o → h₃.get? b = some o := fun b o nb e => hk₃ b o nb (hk₂ b o nb e)
    have nT : h.get? T = none := by
      cases e : h.get? T with
      | none => rfl
      | some o => exact absurd (Heap.lt_size e) (Nat.not_lt.mpr hTsz)
    have Fo₂ := Fo.others hk wsF
    obtain ⟨oT, hoT, hcT, nn, hdT⟩ := hTup
    have hoT₃ := hk₃ _ _ hTw hoT
    obtain ⟨FT, glT, gsT⟩ := Fo₂.know hoT₃ (Fo.freshL nT) (Fo.inn.fresh nT) (Fo.fresh0 nT) (Fo.freshM nT)
    have gTI : GAdd G' T oT (J + 1) = none := by rw [GAdd.ne (fun e => hTw (by rw [← e]; exact .head _))]; exact gI
    have gTJ : GAdd G' T oT J = none := by rw [GAdd.ne (fun e => hTw (by rw [← e]; exact .tail _ (.head _)))]; exact gJ
    obtain ⟨⟨old, hen₃⟩, hit₃, hls₃⟩ := hst₃
    obtain ⟨oJ, hoJ, hJr⟩ := id hit₃
    obtain ⟨oE, hoE⟩ : ∃ oE, h₃.get? (J + 1) = some oE := ⟨_, hen₃⟩
    have F2 := (FT.addMu hoJ (ws0 J (.tail _ (.head _))).1 gTJ).addMu hoE (ws0 (J + 1) (.head _)).1 gTI
    have hx' : vs[i]? = some x := by simpa using hx
    refine wpAny_mono (turn i x T t _ mu' m' h₃ tk₂ (J + 1) oE J oJ hx' (hup _ _ _ _ _ glT hin) (hGG.trans glT) hmu (adr hmu _ (.head _)) (adr hmu _ (.tail _ (.head _))) hIJ (ws0 _ (.head _)).2.1 (ws0 _ (.tail _ (.head _))).2.1 (fun G'' g => ⟨oT, g _ _ gsT, hcT, nn, by rw [hdT]⟩) (fun Gx g q => hup _ _ _ _ _ g q) F2) (fun _ s₂ t₁ => wpAny_mono t₁ (fun f s₃ t₂ => ?_) fun _ _ e => e) fun _ _ e => e
    have nx : ForEnd H wr G₀ h₀ env.locals (J + 1) oE (GAdd G' T oT) ((J, oJ) :: mu') (fun G'' mu'' m'' => ∃ mu0, mu'' = (J, oJ) :: mu0 ∧ Inv (i + 1) G'' mu0 m'') ⟨sh, sg, sd, st, so⟩ s₃ → ∃ k, k < vs.length + 1 - i ∧ ∀ Z : Prop, (∀ i h tk G' mu' m', s₃ = ⟨h, sg, sd, tk, so⟩ → k = vs.length + 1 - i → i ≤ vs.length → ((∃ old, IsEnum h (J + 1) J i old) ∧ h.IsListIter J l i ∧ h.IsList l vs.toArray) → Fm H wr G₀ h₀ env.locals G' mu' h m' → G' (J + 1) = none → G' J = none →
        mu'.map (·.1) = mu.map (·.1) → Inv i G' mu' m' → GLe G G' → Z) → Z := by
      rintro ⟨h₄, tk₄, G'', mu'', m'', rfl, F₄, hmu₄, hG₄, mu0, rfl, hJ⟩
      have hmu0 : mu0.map (·.1) = mu'.map (·.1) := by simpa using hmu₄
      refine ⟨vs.length + 1 - (i + 1), sub_dec hlt, fun _ z => z (i + 1) h₄ tk₄ G'' mu0 m'' rfl rfl hlt ?_ F₄.dropMu.dropMu (F₄.mus _ (.head _)).2.2 (F₄.mus _ (.tail _ (.head _))).2.2 (hmu0.trans hmu) hJ ((hGG.trans glT).trans hG₄)⟩
      refine W.frame _ h₃ _ ⟨⟨old, hen₃⟩, hit₃, hls₃⟩ fun b hb o e => ?_
      rcases List.mem_cons.mp hb with rfl | hb
      · rw [hoE] at e; cases e; exact (F₄.mus _ (.head _)).1
      · rcases List.mem_cons.mp hb with rfl | hb
        · rw [hoJ] at e; cases e; exact (F₄.mus _ (.tail _ (.head _))).1
        · rw [List.mem_singleton.mp hb] at e ⊢
          have e1 := FT.inn l ol (glT _ _ (hGG _ _ hol))
          rw [e] at e1; cases e1
          exact F₄.inn _ _ (hG₄ _ _ (glT _ _ (hGG _ _ hol)))
    cases f with
    | next => exact nx t₂
    | cont => exact nx t₂
    | brk => exact t₂
    | ret v => exact t₂
  · have hin' : i = vs.length := eq_top hi hlt
    subst hin'
    refine W.done _ _ _ hsti fun h₂ tk₂ hk₂ => ?_
    exact done h₂ tk₂ G' mu' m' hin hGG hmu (Fo.others hk₂ wsF)
end
end
section
theorem cells3 {cm : Str → Option Value} {n n' n'' : Str} {c c' c'' : Addr} {cells : List (Addr × Obj)} (x : CellsAre cm [(n, c), (n', c'), (n'', c'')] cells) :
    ∃ o o' o'', cells = [(c, o), (c', o'), (c'', o'')] ∧ o.data = .cell (cm n) ∧ o'.data = .cell (cm n') ∧ o''.data = .cell (cm n'') := by
  cases x with | cons h r => obtain ⟨o', o'', rfl, h', h''⟩ := r.two; exact ⟨_, o', o'', rfl, h, h', h''⟩
theorem cells4 {cm : Str → Option Value} {n n' n'' n4 : Str} {c c' c'' c4 : Addr} {cells : List (Addr × Obj)} (x : CellsAre cm [(n, c), (n', c'), (n'', c''), (n4, c4)] cells) :
    ∃ o o' o'' o4, cells = [(c, o), (c', o'), (c'', o''), (c4, o4)] ∧ o.data = .cell (cm n) ∧ o'.data = .cell (cm n') ∧ o''.data = .cell (cm n'') ∧ o4.data = .cell (cm n4) := by
  cases x with | cons h r => obtain ⟨o', o'', o4, rfl, h', h'', h4⟩ := cells3 r; exact ⟨_, o', o'', o4, rfl, h, h', h'', h4⟩
noncomputable def fullS (shs : List Shp) (c : Nat) (k : Kd) (p : Nat) : Bool := allIn (names k) (askedS shs c p)
noncomputable def fullC (shs : List Shp) (c : Nat) (k : Kd) : Bool := (List.range (parts k)).any fun p => fullS shs c k p
noncomputable def anyS (ks : List Kd) (shs : List Shp) : Bool := (List.range ks.length).any fun c => match ks[c]? with
  | some k => fullC shs c k
  | none => false
noncomputable def noneS (shs : List Shp) : Bool := shs.any fun sh => sh.pl.isNone
noncomputable def takesS (ks : List Kd) (shs : List Shp) : Bool := anyS ks shs || noneS shs
noncomputable def leftN (ns as : List Nm) : List Nm := ns.filter fun n => decide (n ∉ as)
theorem left_yes {ns as : List Nm} {n : Nm} (h : n ∉ as) : leftN (ns ++ [n]) as = leftN ns as ++ [n] := by simp [leftN, h]
theorem left_no {ns as : List Nm} {n : Nm} (h : n ∈ as) : leftN (ns ++ [n]) as = leftN ns as := by simp [leftN, h]
theorem left_nil {ns as : List Nm} : (leftN ns as).isEmpty = allIn ns as := by
  unfold leftN allIn
  induction ns with
  | nil => rfl
  | cons n ns ih =>
    rw [List.filter_cons, List.all_cons]
    by_cases q : n ∈ as
    · rw [if_neg (by simp [q]), ih, decide_eq_true q, Bool.true_and]
    · rw [if_pos (by simp [q]), decide_eq_false q, Bool.false_and]; rfl
theorem anyS_at {ks : List Kd} {shs : List Shp} {c p : Nat} {k : Kd} (hk : ks[c]? = some k) (hp : p < parts k) (h : fullS shs c k p = true) : takesS ks shs = true := by
  unfold takesS anyS
  rw [Bool.or_eq_true]; left
  rw [List.any_eq_true]
  refine ⟨c, List.mem_range.mpr (List.getElem?_eq_some_iff.mp hk).1, ?_⟩
  rw [hk]
  exact List.any_eq_true.mpr ⟨p, List.mem_range.mpr hp, h⟩
theorem anyS_no {ks : List Kd} {shs : List Shp} (h : ∀ c k, c < ks.length → ks[c]? = some k → fullC shs c k = false) : takesS ks shs = noneS shs := by
  have : anyS ks shs = false := by
    unfold anyS
    rw [List.any_eq_false]
    intro c hc
    have hc := List.mem_range.mp hc
    rw [List.getElem?_eq_getElem hc]
    simp only
    rw [h c _ hc (List.getElem?_eq_getElem hc)]; simp
  simp [takesS, this]
theorem fullC_no {shs : List Shp} {c : Nat} {k : Kd} (h : ∀ p < parts k, fullS shs c k p = false) : fullC shs c k = false := by
  unfold fullC; rw [List.any_eq_false]; intro p hp; rw [h p (List.mem_range.mp hp)]; simp
theorem ad12 (a : Nat) : a + 1 ≠ a := Nat.succ_ne_self a
theorem ad13 (a : Nat) : a + 1 + 1 ≠ a := by omega
theorem ad14 (a : Nat) : a + 1 + 1 + 1 ≠ a := by omega
theorem All2.isEmpty {α β : Type} {R : α → β → Prop} {as : List α} {bs : List β} (h : All2 R as bs) : as.isEmpty = bs.isEmpty := by cases h <;> rfl
theorem kd_two {k : Kd} (h : (kdStr k == "P") = true) : parts k = 2 := by rw [kd_P.mp h]; rfl
theorem kd_one {k : Kd} (h : (kdStr k == "P") = false) : parts k = 1 := by revert h; cases k <;> decide +kernel
end
theorem rg13 : True := by
  k_with "call ref" => (((with_reducible show wpAny _ _ (call (Value.ref 560) _) _ _ _); (rename Fm _ _ _ _ _ _ _ _ _ => FF'); refine c_asked (by assumption) (by assumption) (Room.deeper (Room.le (by assumption) (by first | exact Nat.le_of_ble_eq_true rfl | exact rm_lit | omega))) (Fm.top FF') (Fm.inn FF') (by k_extra "ktr_rel") (by (first | assumption | (refine All2.mono (fun _ _ => ShpG.mono ?_) (by assumption); k_extra "ktr_room"))) (by assumption) (by first | assumption | exact ⟨_, by assumption, rfl, _, rfl⟩ | k_extra "ktr_rel") ?_; intro xS' ysS' gS' hS' tS' WS' lS' aS'; (have glS := Went.sub WS'); (have FS' := Fm.call FF' WS'); clear FF'))
  k_with "compareOp NotIn str ref" => (refine nin_nms_g (by assumption) (by k_extra "ktr_rel") (by assumption) ?_)
  k_with "kt_at_in" => (first | exact List.Mem.head _ | exact List.Mem.tail _ (List.Mem.head _) | exact List.Mem.tail _ (List.Mem.tail _ (List.Mem.head _)) | exact List.Mem.tail _ (List.Mem.tail _ (List.Mem.tail _ (List.Mem.head _))) | exact List.Mem.tail _ (List.Mem.tail _ (List.Mem.tail _ (List.Mem.tail _ (List.Mem.head _)))) | exact List.Mem.tail _ (List.Mem.tail _ (List.Mem.tail _ (List.Mem.tail _ (List.Mem.tail _ (List.Mem.head _))))) | exact List.Mem.tail _ (List.Mem.tail _ (List.Mem.tail _ (List.Mem.tail _ (List.Mem.tail _ (List.Mem.tail _ (List.Mem.head _)))))) | exact List.Mem.tail _ (List.Mem.tail _ (List.Mem.tail _ (List.Mem.tail _ (List.Mem.tail _ (List.Mem.tail _ (List.Mem.tail _ (List.Mem.head _))))))))
  trivial
section
theorem rgpW2239 : True := by
  k_with "storeName" => ((fail_if_success (k_extra "off:W22")); k_extra "W22:storeName")
  trivial
theorem rgoW2239 : True := by
  k_with "W22:storeName" => (first | (with_unfolding_all refine st_local (by assumption) ?_; intro hS FS) | (with_unfolding_all refine st_cell (by assumption) (by rfl) (by k_extra "kt_at_in") (by assumption) (by first | assumption | exact .inr (by assumption)) ?_; intro hS5 oS5 FS5 hoS5; (try simp (disch := assumption) only [setMu_head, setMu_nil, setMu_skip] at FS5)))
  trivial
section
variable {w : World} {K : Frag} {H : Heap} {mg mb : Str → Option Value} {A : Around} {E : Value → Shared → Prop} {s : Shared} {G : Gr}
set_option maxHeartbeats 4000000 in
theorem c_takes_all {sl kl : Addr} {svs kvs : List Value} {shs : List Shp} {ks : List Kd} {Q : Value → Shared → Prop} (B : Bs w K H mg mb) (k : KOk K) (hgl : nsIn K mainGlobals (Str.ofString "_law_names") = some (some (.ref 512))) (ln : LN w G) (rm : Room A 9) (hH : HLe H G) (hG : GIn G s.heap)
    (hsl : LstG G sl svs) (hss : All2 (ShpG w.params G) svs shs) (hz : svs.length ≤ 64) (hkl : LstG G kl kvs) (hks : All2 KdV kvs ks) (hk64 : kvs.length ≤ 64)
    (h : ∀ G' h' tk', Went [] G s.heap G' h' → Q (.bool (takesS ks shs)) { s with heap := h', toks := tk' }) :
    wpAny (model pw w) A (call (.ref 565) [.ref sl, .ref kl]) Q E s := dis (by
  simp (disch := k_dflt (
    refine dis ?_
    have hf := k.f565
    obtain ⟨td, e⟩ : ∃ t, t = topFd 50 := ⟨_, rfl⟩
    rw [← e] at hf
    conv at e => (rhs; whnf)
    subst e
    refine wpAny_call (code_fnC (binds := [("shapes", .ref sl), ("kinds", .ref kl)]) [] [] B hf hH hG rm.depth (by simp) (fun _ _ _ _ _ _ => BindsTo.of_eq (by rfl)) (by rfl) (by decide) ?_)
    clear hf
    intro L h₁ tk₁ cdv cells nL hcn hap F hC
    obtain ⟨op, oc, os, rfl, hop, hoc, hos⟩ := cells3 (n := "part") (c := L + 1 + 1 + 1) (n' := "column") (c' := L + 1 + 1) (n'' := "shapes") (c'' := L + 1) hC
    clear hC
    have hcn1 : s.heap.get? (L + 1 + 1 + 1) = none := hcn _ (.head _)
    have hcn2 : s.heap.get? (L + 1 + 1) = none := hcn _ (.tail _ (.head _))
    have hcn3 : s.heap.get? (L + 1) = none := hcn _ (.tail _ (.tail _ (.head _)))
    have q12 : L + 1 + 1 + 1 ≠ L + 1 + 1 := ad12 _
    have q13 : L + 1 + 1 + 1 ≠ L + 1 := ad13 _
    have q23 : L + 1 + 1 ≠ L + 1 := ad12 _
    have q21 := Ne.symm q12
    have q31 := Ne.symm q13
    have q32 := Ne.symm q23
    change Fm H [] G s.heap L G [(L + 1 + 1 + 1, op), (L + 1 + 1, oc), (L + 1, os)] h₁ (fun y => if y = "kinds" then some (.ref kl) else none) at F
    change op.data = .cell none at hop
    change oc.data = .cell none at hoc
    change os.data = .cell (some (.ref sl)) at hos
    have hkl2 := hks.length
    k_extra "kc_close"
    refine wpAny_For ?_
    k_extra "kc_close"
    refine for_enum (fun i G' mu' m' => ∃ op oc v1 v2, mu' = [(L + 1 + 1 + 1, op), (L + 1 + 1, oc), (L + 1, os)] ∧ op.data = .cell v1 ∧ oc.data = .cell v2 ∧ ∀ c k, c < i → ks[c]? = some k → fullC shs c k = false) F hkl rm.1 ⟨_, _, _, _, rfl, hop, hoc, fun c k hc => absurd hc (Nat.not_lt_zero _)⟩ ?_ (fun i G' G'' mu' m' _ q => q) ?_
    · rintro i v T t G₁ mu₁ m₁ h₂ tk₂ I oI I2 oI2 hv ⟨op1, oc1, v1, v2, rfl, hop1, hoc1, hin⟩ gl hmu hI hI2 hII hI0 hI20 hT _ F₂
      obtain ⟨kd, ekd, tkd, rfl⟩ := hks.get hv
      have hT' := hT _ (GLe.refl _)
      have i1 : I ≠ L + 1 + 1 + 1 := fun e => hI _ (.head _) e.symm
      have i2 : I ≠ L + 1 + 1 := fun e => hI _ (.tail _ (.head _)) e.symm
      have i3 : I ≠ L + 1 := fun e => hI _ (.tail _ (.tail _ (.head _))) e.symm
      have j1 : I2 ≠ L + 1 + 1 + 1 := fun e => hI2 _ (.head _) e.symm
      have j2 : I2 ≠ L + 1 + 1 := fun e => hI2 _ (.tail _ (.head _)) e.symm
      have j3 : I2 ≠ L + 1 := fun e => hI2 _ (.tail _ (.tail _ (.head _))) e.symm
      k_extra "kc_close"
      refine wpAny_For ?_
      k_extra "kc_close"
      · have hp1 := kd_two (k := kd) (by assumption)
        (
    refine for_rng (n := 2) (fun j G' mu' m' => ∃ op oc v1, mu' = [(I, oI), (I2, oI2), (L + 1 + 1 + 1, op), (L + 1 + 1, oc), (L + 1, os)] ∧ op.data = .cell v1 ∧ oc.data = .cell (some (.int (i : Int) t)) ∧ m' "kind" = some (.str (kdStr kd) tkd) ∧ ∀ p, p < j → fullS shs i kd p = false) (by assumption) rm.1 (by decide) (by exact ⟨op1, oS5, v1, rfl, hop1, hoS5, rfl, fun p hp => absurd hp (Nat.not_lt_zero _)⟩) ?_ ?_
    · rintro j tj G₂ mu₂ m₂ h₄ tk₄ Ir oIr hj ⟨op2, oc2, v3, rfl, hop2, hoc2, e1, hin2⟩ gl2 hmu2 hIr hIr0 F₄
      have k1 : Ir ≠ L + 1 + 1 + 1 := fun e => hIr _ (.tail _ (.tail _ (.head _))) e.symm
      have k2 : Ir ≠ L + 1 + 1 := fun e => hIr _ (.tail _ (.tail _ (.tail _ (.head _)))) e.symm
      have k3 : Ir ≠ L + 1 := fun e => hIr _ (.tail _ (.tail _ (.tail _ (.tail _ (.head _))))) e.symm
      k_extra "kc_close"
      refine ev_comp (by rfl) (by rfl) (by rfl) ?_
      k_extra "kc_close"
      rename LstG _ (nAddr _) _ => hnl
      rename All2 NmV _ (names _) => hna
      rename _ ∧ _ => hnlen
      refine comp_lst [] (fun q G' mu' ys => mu' = [(Ir, oIr), (I, oI), (I2, oI2), (L + 1 + 1 + 1, oS5), (L + 1 + 1, oc2), (L + 1, os)] ∧ All2 NmV ys (leftN ((names kd).take q) (askedS shs i j))) (by assumption) hnl rm.1 (by exact Nat.le_trans hnlen.2 (by decide)) (by rfl) (by rfl) (.inl ⟨_, _, rfl⟩) (by simp) ⟨rfl, .nil⟩ ?_ ?_
      · rintro q v ys G₃ mu₃ C h₅ tk₅ m₃ hv3 ⟨rfl, hys2⟩ gl3 hys hmu3 F₅
        obtain ⟨n, en, tn, rfl⟩ := hna.get hv3
        k_extra "kc_close"
        · have hq : n ∈ askedS shs i j := by assumption
          k_extra "kpf_close"
          exact ⟨rfl, by rw [take_snoc en, left_no hq]; exact hys2⟩
        · have hq : n ∉ askedS shs i j := by assumption
          k_extra "kpf_close"
          exact ⟨rfl, by rw [take_snoc en, left_yes hq]; exact hys2.snoc ⟨_, rfl⟩⟩
      · rintro D C2 k2' h6 tk6 G6 mu6 ys6 m6 ⟨rfl, h5⟩ hys6 gl6 hmu6 F6 hD0 hDm hnC hCL hCD hC0 hGC hCm
        refine cp_none F6 hD0 hDm hnC hCL hCD hC0 hGC hCm ?_
        intro h7 G7 gl7 hl7 F7
        clear F6
        rw [hna.length, List.take_length] at h5
        have hfull : ys6.isEmpty = fullS shs i kd j := by rw [h5.isEmpty, left_nil]; rfl
        cases ys6 with
        | nil =>
          rw [anyS_at ekd (by omega) hfull.symm] at h
          k_extra "kc_close"
          walk_at "k_nil"
          exact h _ _ _ (Fm.done (by assumption) nL)
        | cons y6 ys6 =>
          k_extra "kc_close"
          walk_at "k_nil"
          k_extra "kpf_close"
          refine ⟨_, _, _, rfl, by assumption, hoc2, by with_unfolding_all exact e1, fun p hp => ?_⟩
          by_cases hpj : p = j
          · subst hpj; exact hfull.symm
          · exact hin2 p (by omega)
    · rintro h8 tk8 G8 mu8 m8 ⟨op2, oc2, v3, rfl, hop2, hoc2, e1, hin2⟩ gl8 hmu8 F8
      try dsimp only
      k_extra "kc_close"
      k_extra "kpf_close"
      refine ⟨_, rfl, _, _, _, _, rfl, hop2, hoc2, fun c k hc hk => ?_⟩
      by_cases hci : c = i
      · subst hci
        rw [ekd] at hk; cases hk
        exact fullC_no fun p hp => hin2 p (by omega)
      · exact hin c k (by omega) hk)
      · have hp1 := kd_one (k := kd) (by assumption)
        (
    refine for_rng (n := 1) (fun j G' mu' m' => ∃ op oc v1, mu' = [(I, oI), (I2, oI2), (L + 1 + 1 + 1, op), (L + 1 + 1, oc), (L + 1, os)] ∧ op.data = .cell v1 ∧ oc.data = .cell (some (.int (i : Int) t)) ∧ m' "kind" = some (.str (kdStr kd) tkd) ∧ ∀ p, p < j → fullS shs i kd p = false) (by assumption) rm.1 (by decide) (by exact ⟨op1, oS5, v1, rfl, hop1, hoS5, rfl, fun p hp => absurd hp (Nat.not_lt_zero _)⟩) ?_ ?_
    · rintro j tj G₂ mu₂ m₂ h₄ tk₄ Ir oIr hj ⟨op2, oc2, v3, rfl, hop2, hoc2, e1, hin2⟩ gl2 hmu2 hIr hIr0 F₄
      have k1 : Ir ≠ L + 1 + 1 + 1 := fun e => hIr _ (.tail _ (.tail _ (.head _))) e.symm
      have k2 : Ir ≠ L + 1 + 1 := fun e => hIr _ (.tail _ (.tail _ (.tail _ (.head _)))) e.symm
      have k3 : Ir ≠ L + 1 := fun e => hIr _ (.tail _ (.tail _ (.tail _ (.tail _ (.head _))))) e.symm
      k_extra "kc_close"
      refine ev_comp (by rfl) (by rfl) (by rfl) ?_
      k_extra "kc_close"
      rename LstG _ (nAddr _) _ => hnl
      rename All2 NmV _ (names _) => hna
      rename _ ∧ _ => hnlen
      refine comp_lst [] (fun q G' mu' ys => mu' = [(Ir, oIr), (I, oI), (I2, oI2), (L + 1 + 1 + 1, oS5), (L + 1 + 1, oc2), (L + 1, os)] ∧ All2 NmV ys (leftN ((names kd).take q) (askedS shs i j))) (by assumption) hnl rm.1 (by exact Nat.le_trans hnlen.2 (by decide)) (by rfl) (by rfl) (.inl ⟨_, _, rfl⟩) (by simp) ⟨rfl, .nil⟩ ?_ ?_
      · rintro q v ys G₃ mu₃ C h₅ tk₅ m₃ hv3 ⟨rfl, hys2⟩ gl3 hys hmu3 F₅
        obtain ⟨n, en, tn, rfl⟩ := hna.get hv3
        k_extra "kc_close"
        · have hq : n ∈ askedS shs i j := by assumption
          k_extra "kpf_close"
          exact ⟨rfl, by rw [take_snoc en, left_no hq]; exact hys2⟩
        · have hq : n ∉ askedS shs i j := by assumption
          k_extra "kpf_close"
          exact ⟨rfl, by rw [take_snoc en, left_yes hq]; exact hys2.snoc ⟨_, rfl⟩⟩
      · rintro D C2 k2' h6 tk6 G6 mu6 ys6 m6 ⟨rfl, h5⟩ hys6 gl6 hmu6 F6 hD0 hDm hnC hCL hCD hC0 hGC hCm
        refine cp_none F6 hD0 hDm hnC hCL hCD hC0 hGC hCm ?_
        intro h7 G7 gl7 hl7 F7
        clear F6
        rw [hna.length, List.take_length] at h5
        have hfull : ys6.isEmpty = fullS shs i kd j := by rw [h5.isEmpty, left_nil]; rfl
        cases ys6 with
        | nil =>
          rw [anyS_at ekd (by omega) hfull.symm] at h
          k_extra "kc_close"
          walk_at "k_nil"
          exact h _ _ _ (Fm.done (by assumption) nL)
        | cons y6 ys6 =>
          k_extra "kc_close"
          walk_at "k_nil"
          k_extra "kpf_close"
          refine ⟨_, _, _, rfl, by assumption, hoc2, by with_unfolding_all exact e1, fun p hp => ?_⟩
          by_cases hpj : p = j
          · subst hpj; exact hfull.symm
          · exact hin2 p (by omega)
    · rintro h8 tk8 G8 mu8 m8 ⟨op2, oc2, v3, rfl, hop2, hoc2, e1, hin2⟩ gl8 hmu8 F8
      try dsimp only
      k_extra "kc_close"
      k_extra "kpf_close"
      refine ⟨_, rfl, _, _, _, _, rfl, hop2, hoc2, fun c k hc hk => ?_⟩
      by_cases hci : c = i
      · subst hci
        rw [ekd] at hk; cases hk
        exact fullC_no fun p hp => hin2 p (by omega)
      · exact hin c k (by omega) hk)
    · rintro h3 tk3 G3 mu3 m3 ⟨op1, oc1, v1, v2, rfl, hop1, hoc1, hin⟩ gl3 hmu3 F3
      have hres := anyS_no (ks := ks) (shs := shs) (fun c k hc => hin c k (by rw [hkl2]; exact hc))
      rw [hres] at h
      k_extra "kc_close"
      refine ev_comp (by rfl) (by rfl) (by rfl) ?_
      k_extra "kc_close"
      refine comp_lst [] (fun q G' mu' ys => mu' = [(L + 1 + 1 + 1, op1), (L + 1 + 1, oc1), (L + 1, os)] ∧ ys.isEmpty = !noneS (shs.take q)) (by assumption) (LstG.mono hsl (by k_extra "ktr_room")) rm.1 (Nat.le_trans hz (by decide)) (by rfl) (by rfl) (.inl ⟨_, _, rfl⟩) (by simp) ⟨rfl, rfl⟩ ?_ ?_
      · rintro q v ys G₁ mu₁ C h₂ tk₂ m₁ hv ⟨rfl, hys2⟩ gl hys hmu F₂
        obtain ⟨sh, esh, a, rv, pv, nv, rfl, hT, hR, hP⟩ := hss.get hv
        unfold PlG at hP
        cases hpl : sh.pl with
        | none =>
          rw [hpl] at hP
          obtain ⟨rfl, tn, rfl⟩ := hP
          k_extra "kc_close"
          k_extra "kpf_close"
          exact ⟨rfl, by rw [take_snoc esh]; simp [noneS, hpl]⟩
        | some q =>
          rw [hpl] at hP
          obtain ⟨pb, t3, t4, rfl, hpb, tn, rfl⟩ := hP
          k_extra "kc_close"
          k_extra "kpf_close"
          exact ⟨rfl, by rw [take_snoc esh, hys2]; simp [noneS, hpl]⟩
      · rintro D C2 k2 h4 tk4 G4 mu4 ys4 m4 ⟨rfl, h5⟩ hys4 gl4 hmu4 F4 hD0 hDm hnC hCL hCD hC0 hGC hCm
        refine cp_none F4 hD0 hDm hnC hCL hCD hC0 hGC hCm ?_
        intro h6 G6 gl6 hl6 F6
        clear F4
        rw [hss.length, List.take_length] at h5
        cases ys4 with
        | nil =>
          rw [show noneS shs = false from by simpa using h5] at h
          k_extra "kc_close"
          walk_at "k_nil"
          exact h _ _ _ (Fm.done (by assumption) nL)
        | cons y4 ys4 =>
          rw [show noneS shs = true from by simpa using h5] at h
          k_extra "kc_close"
          walk_at "k_nil"
          exact h _ _ _ (Fm.done (by assumption) nL))) only [↓und])
end
end
theorem rgeW22 : True := by
  k_with "off:W22" => skip
  trivial
section
noncomputable def c1Str : C1 → Str
  | .w => "_"
  | .a n => n.str
noncomputable def Str1 (v : Value) (c : C1) : Prop := ∃ t, v = .str (c1Str c) t
noncomputable def WdV (G : Gr) (v : Value) : Cell → Prop
  | .s c => Str1 v c
  | .p a b => ∃ T x y, v = .ref T ∧ TupG G T [x, y] ∧ Str1 x a ∧ Str1 y b
theorem WdV.mono {G G' : Gr} (s : GLe G G') {v : Value} {c : Cell} (h : WdV G v c) : WdV G' v c := by
  cases c with
  | s c => exact h
  | p a b => obtain ⟨T, x, y, e, t, r⟩ := h; exact ⟨T, x, y, e, t.mono s, r⟩
noncomputable def WordsG (G : Gr) (v : Value) : Option (List Cell) → Prop
  | none => v = .none
  | some cs => ∃ l vs, v = .ref l ∧ LstG G l vs ∧ All2 (WdV G) vs cs
theorem WordsG.mono {G G' : Gr} (s : GLe G G') {v : Value} {o : Option (List Cell)} (h : WordsG G v o) : WordsG G' v o := by
  cases o with
  | none => exact h
  | some cs => obtain ⟨l, vs, e, x, y⟩ := h; exact ⟨l, vs, e, x.mono s, y.mono fun _ _ => WdV.mono s⟩
noncomputable def partS (shs : List Shp) (k : Kd) (c p : Nat) : C1 := firstN (names k) (askedS shs c p)
noncomputable def colS (shs : List Shp) (k : Kd) (c : Nat) : Cell := match k with
  | .P => pairC (partS shs .P c 0) (partS shs .P c 1)
  | k => .s (partS shs k c 0)
noncomputable def colsS (ks : List Kd) (shs : List Shp) (n : Nat) : List Cell := (List.range n).map fun c => match ks[c]? with
  | some k => colS shs k c
  | none => .s .w
noncomputable def dueS (ks : List Kd) (shs : List Shp) : Option (List Cell) := match shs with
  | [] => some []
  | _ :: _ => if takesS ks shs then none else some (colsS ks shs ks.length)
theorem cols_snoc {ks : List Kd} {shs : List Shp} {n : Nat} {k : Kd} (h : ks[n]? = some k) : colsS ks shs (n + 1) = colsS ks shs n ++ [colS shs k n] := by
  simp [colsS, List.range_succ, h]
theorem firstN_left {ns as : List Nm} {n : Nm} {t : List Nm} (ha : as ≠ []) (h : leftN ns as = n :: t) : firstN ns as = .a n := by
  have hf : ns.find? (fun n => decide (n ∉ as)) = some n := by
    rw [← List.head?_filter]
    show (leftN ns as).head? = some n
    rw [h]; rfl
  cases as with
  | nil => exact absurd rfl ha
  | cons a t => simp only [firstN, hf]
theorem c1_w {c : C1} : (c1Str c == "_") = decide (c = .w) := by
  cases c with
  | w => rfl
  | a n => cases n <;> decide +kernel
section
variable {w : World} {H : Heap} {A : Around} {E : Value → Shared → Prop} {s : Shared} {G : Gr}
  {wr : List Addr} {G₀ : Gr} {h₀ : Heap} {L : Addr} {mu : List (Addr × Obj)} {m : Str → Option Value}
theorem eq_us {a b : Addr} {o : Obj} {x y : C1} {t1 t2 t3 t4 : Tok} {Q : Value → Shared → Prop} (F : Fm H wr G₀ h₀ L G mu s.heap m) (hm : (a, o) ∈ mu) (ho : LO o [.str (c1Str x) t1, .str (c1Str y) t2]) (hb : LstG G b [.str (Str.ofString "_") t3, .str (Str.ofString "_") t4]) (hu : A.units < cLine)
    (q : Q (.bool (decide (x = .w ∧ y = .w))) s) : wpAny (model pw w) A (compareOp .Eq (.ref a) (.ref b)) Q E s := by
  refine SeqAt.eq_listAt (e := fun j => if j = 0 then (c1Str x == Str.ofString "_") else (c1Str y == Str.ofString "_")) ⟨o, (F.mus _ hm).1, ho⟩ (hb.at F.inn) rfl hu (fun j h1 h2 => ?_) ?_
  · rcases (by simp at h1; omega : j = 0 ∨ j = 1) with rfl | rfl
    · exact SeqAt.EqAt.str_str _ _ _ _
    · exact SeqAt.EqAt.str_str _ _ _ _
  · show Q (.bool ((c1Str x == Str.ofString "_") && ((c1Str y == Str.ofString "_") && true))) s
    have e1 : (c1Str x == Str.ofString "_") = decide (x = .w) := c1_w
    have e2 : (c1Str y == Str.ofString "_") = decide (y = .w) := c1_w
    rw [e1, e2, Bool.and_true, ← Bool.decide_and]
    exact q
theorem tup_of {l : Addr} {vs : List Value} {Q : Value → Shared → Prop} (F : Fm H wr G₀ h₀ L G mu s.heap m) (hl : s.heap.IsList l vs.toArray) (hsz : vs.length ≤ 64)
    (h : ∀ T G' h', GLe G G' → TupG G' T vs → Fm H wr G₀ h₀ L G' mu h' m → Q (.ref T) { s with heap := h' }) : wpAny (model pw w) A (call (.type "tuple") [.ref l]) Q E s := by
  refine call_tuple_list hl (fun h' hk => ?_) (by rw [List.size_toArray]; exact Nat.le_trans hsz (by decide))
  have F1 := F.kept hk
  exact h _ _ _ (GAdd.le F1.Gsize) GAdd.tup (F1.alloc _)
theorem tup_mu {l : Addr} {o : Obj} {vs : List Value} {Q : Value → Shared → Prop} (F : Fm H wr G₀ h₀ L G mu s.heap m) (hm : (l, o) ∈ mu) (ho : LO o vs) (hsz : vs.length ≤ 64)
    (h : ∀ T G' h', GLe G G' → TupG G' T vs → Fm H wr G₀ h₀ L G' mu h' m → Q (.ref T) { s with heap := h' }) : wpAny (model pw w) A (call (.type "tuple") [.ref l]) Q E s := tup_of F ⟨o, (F.mus _ hm).1, ho⟩ hsz h
theorem tup_g {l : Addr} {vs : List Value} {Q : Value → Shared → Prop} (F : Fm H wr G₀ h₀ L G mu s.heap m) (hl : LstG G l vs) (hsz : vs.length ≤ 64)
    (h : ∀ T G' h', GLe G G' → TupG G' T vs → Fm H wr G₀ h₀ L G' mu h' m → Q (.ref T) { s with heap := h' }) : wpAny (model pw w) A (call (.type "tuple") [.ref l]) Q E s := tup_of F (hl.at F.inn) hsz h
end
theorem left_ne {ks : List Kd} {shs : List Shp} {c p : Nat} {k : Kd} {ys : List Value} (hk : ks[c]? = some k) (hp : p < parts k) (ht : takesS ks shs = false) (h : All2 NmV ys (leftN (names k) (askedS shs c p))) : ys ≠ [] := by
  rintro rfl
  have e := h.isEmpty
  rw [left_nil] at e
  have := anyS_at hk hp (shs := shs) e.symm
  rw [ht] at this; cases this
end
section
theorem kd_bne (h : (kdStr .P != Str.ofString "P") = true) : False := by revert h; decide +kernel
section
variable {w : World} {K : Frag} {H : Heap} {mg mb : Str → Option Value} {A : Around} {E : Value → Shared → Prop} {s : Shared} {G : Gr}
theorem rgoW2340 : True := by
  k_with "call ref" => (((with_reducible show wpAny _ _ (call (Value.ref 565) _) _ _ _); (rename Fm _ _ _ _ _ _ _ _ _ => FF'); refine c_takes_all (by assumption) (by assumption) (by assumption) (by (first | assumption | (refine LN.mono ?_ (by assumption); k_extra "ktr_room"))) (Room.deeper (Room.le (by assumption) (by first | exact Nat.le_of_ble_eq_true rfl | exact rm_lit | omega))) (Fm.top FF') (Fm.inn FF') (by k_extra "ktr_rel") (by (first | assumption | (refine All2.mono (fun _ _ => ShpG.mono ?_) (by assumption); k_extra "ktr_room"))) (by assumption) (by k_extra "ktr_rel") (by assumption) (by assumption) ?_; intro gS' hS' tS' WS'; (have glS := Went.sub WS'); (have FS' := Fm.call FF' WS'); clear FF'))
  trivial
theorem rgpW2341 : True := by
  k_with "compareOp Eq ref ref" => ((fail_if_success (k_extra "off:W23")); k_extra "W23:compareOp Eq ref ref")
  trivial
theorem rgoW2341 : True := by
  k_with "W23:compareOp Eq ref ref" => (first | (refine eq_cons (by assumption) (by k_extra "ktr_rel") (by k_extra "ktr_rel") (Room.hu (by assumption)) ?_) | (refine eq_none (by assumption) (by k_extra "ktr_rel") (by k_extra "ktr_rel") (Room.hu (by assumption)) ?_))
  trivial
theorem rgpW2342 : True := by
  k_with "storeName" => ((fail_if_success (k_extra "off:W23")); k_extra "W23:storeName")
  trivial
theorem rgoW2342 : True := by
  k_with "W23:storeName" => (first | (with_unfolding_all refine st_local (by assumption) ?_; intro hS FS) | (with_unfolding_all refine st_cell (by assumption) (by rfl) (by k_extra "kt_at_in") (by assumption) (by first | assumption | exact .inr (by assumption)) ?_; intro hS5 oS5 FS5 hoS5; (try simp (disch := assumption) only [setMu_head, setMu_nil, setMu_skip] at FS5)))
  trivial
theorem rgpW2343 : True := by
  k_with "call type:tuple" => ((fail_if_success (k_extra "off:W23")); k_extra "W23:call type:tuple")
  trivial
theorem rgoW2343 : True := by
  k_with "W23:call type:tuple" => (k_dflt ((refine tup_mu (by assumption) (by k_extra "kt_at_in") LO.of (by assumption) ?_; intro TS' gS' hS' glS' tS' FS')))
  trivial
theorem rgoW2344 : True := by
  k_with "W23:compareOp Eq ref ref" => ((refine eq_us (by assumption) (by k_extra "kt_at_in") LO.of (by k_extra "ktr_rel") (Room.hu (by assumption)) ?_))
  trivial
theorem rgpW2345 : True := by
  k_with "km_sub" => ((fail_if_success (k_extra "off:W23")); k_extra "W23:km_sub")
  trivial
theorem rgoW2345 : True := by
  k_with "W23:km_sub" => (first | ((with_reducible show wpAny _ _ (subscriptTail _ _ (Value.ref 512) _) _ _ _); refine sub_ln (by assumption) (by (first | assumption | (refine LN.mono ?_ (by assumption); k_extra "ktr_room"))) ?_; intro vsS' lnS' anS' lenS') | (refine sub_lst (by assumption) (by k_extra "ktr_rel") (by first | decide | omega) (by first | decide | omega) (by rfl) ?_) | (refine sub_mu (by assumption) (by k_extra "kt_at_in") LO.of (by first | decide | omega) (by first | decide | omega) (by rfl) ?_))
  trivial
set_option maxHeartbeats 4000000 in
theorem c_due {sl kl : Addr} {svs kvs : List Value} {shs : List Shp} {ks : List Kd} {Q : Value → Shared → Prop} (B : Bs w K H mg mb) (k : KOk K) (hgl : nsIn K mainGlobals (Str.ofString "_law_names") = some (some (.ref 512))) (ln : LN w G) (rm : Room A 11) (hH : HLe H G) (hG : GIn G s.heap)
    (hsl : LstG G sl svs) (hss : All2 (ShpG w.params G) svs shs) (hz : svs.length ≤ 64) (hkl : LstG G kl kvs) (hks : All2 KdV kvs ks) (hk64 : kvs.length ≤ 64)
    (h : ∀ x G' h' tk', Went [] G s.heap G' h' → WordsG G' x (dueS ks shs) → Q x { s with heap := h', toks := tk' }) :
    wpAny (model pw w) A (call (.ref 570) [.ref sl, .ref kl]) Q E s := dis (by
  simp (disch := k_dflt (
    refine dis ?_
    have hf := k.f570
    obtain ⟨td, e⟩ : ∃ t, t = topFd 51 := ⟨_, rfl⟩
    rw [← e] at hf
    conv at e => (rhs; whnf)
    subst e
    refine wpAny_call (code_fnC (binds := [("shapes", .ref sl), ("kinds", .ref kl)]) [] [] B hf hH hG rm.depth (by simp) (fun _ _ _ _ _ _ => BindsTo.of_eq (by rfl)) (by rfl) (by decide) ?_)
    clear hf
    intro L h₁ tk₁ cdv cells nL hcn hap F hC
    obtain ⟨oa, rfl, hoa⟩ := CellsAre.one (n := "asked") (c := L + 1) hC
    clear hC
    have hcn1 : s.heap.get? (L + 1) = none := hcn _ (.head _)
    change Fm H [] G s.heap L G [(L + 1, oa)] h₁ (fun y => if y = "kinds" then some (.ref kl) else if y = "shapes" then some (.ref sl) else none) at F
    change oa.data = .cell none at hoa
    have hkl2 := hks.length
    cases shs with
    | nil =>
      cases hss
      k_extra "kc_close"
      walk_at "k_nil"
      walk_at "k_nil"
      walk_at "k_nil"
      exact h _ _ _ _ (Fm.done (by assumption) nL) ⟨_, _, rfl, by assumption, .nil⟩
    | cons sh0 shs =>
      cases hss with
      | cons hs0 hss0 =>
      have hss := All2.cons hs0 hss0
      k_extra "kc_close"
      walk_at "k_nil"
      · have htk : takesS ks (sh0 :: shs) = true := by assumption
        walk_at "k_nil"
        exact h _ _ _ _ (Fm.done (by assumption) nL) (by unfold dueS; rw [if_pos htk]; rfl)
      · have htk : takesS ks (sh0 :: shs) = false := by assumption
        refine nt_mut (by assumption) (by decide) ?_
        intro fd h₂ hfd0 hfdm F₂
        have q1 : L + 1 ≠ fd := hfdm _ (.head _)
        have q2 := Ne.symm q1
        k_extra "kc_close"
        refine wpAny_For ?_
        k_extra "kc_close"
        refine for_enum (fun i G' mu' m' => ∃ ys k oa v, mu' = [(fd, lstO ys k), (L + 1, oa)] ∧ oa.data = .cell v ∧ All2 (WdV G') ys (colsS ks (sh0 :: shs) i) ∧ m' "shapes" = some (.ref sl) ∧ m' "found" = some (.ref fd)) (by assumption) (LstG.mono hkl (by k_extra "ktr_room")) rm.1 (by exact ⟨_, _, _, _, rfl, hoa, .nil, rfl, rfl⟩) ?_ (fun i G' G'' mu' m' g ⟨ys, k, oa, v, a, b, c, d⟩ => ⟨ys, k, oa, v, a, b, c.mono fun _ _ => WdV.mono g, d⟩) ?_
        · rintro i v T t G₁ mu₁ m₁ h₂ tk₂ I oI I2 oI2 hv ⟨ys, k1, oa1, v1, rfl, hoa1, hys, e1, e2⟩ gl hmu hI hI2 hII hI0 hI20 hT _ F₂
          obtain ⟨kd, ekd, tkd, rfl⟩ := hks.get hv
          have hT' := hT _ (GLe.refl _)
          have i1 : I ≠ fd := fun e => hI _ (.head _) e.symm
          have i2 : I ≠ L + 1 := fun e => hI _ (.tail _ (.head _)) e.symm
          have j1 : I2 ≠ fd := fun e => hI2 _ (.head _) e.symm
          have j2 : I2 ≠ L + 1 := fun e => hI2 _ (.tail _ (.head _)) e.symm
          k_extra "kc_close"
          refine nt_mut (by assumption) (by decide) ?_
          intro pa h₃ hpa0 hpam F₃
          have r1 : I ≠ pa := hpam _ (.head _)
          have r2 : I2 ≠ pa := hpam _ (.tail _ (.head _))
          have r3 : fd ≠ pa := hpam _ (.tail _ (.tail _ (.head _)))
          have r4 : L + 1 ≠ pa := hpam _ (.tail _ (.tail _ (.tail _ (.head _))))
          have s1 := Ne.symm r1
          have s2 := Ne.symm r2
          have s3 := Ne.symm r3
          have s4 := Ne.symm r4
          k_extra "kc_close"
          refine wpAny_For ?_
          k_extra "kc_close"
          · have hp1 := kd_two (k := kd) (by assumption)
            have hkP := kd_P.mp (show (kdStr kd == "P") = true by assumption)
            (
    refine for_rng (n := 2) (fun j G' mu' m' => ∃ ps kk oa v, mu' = [(pa, lstO ps kk), (I, oI), (I2, oI2), (fd, lstO ys k1), (L + 1, oa)] ∧ oa.data = .cell v ∧ All2 Str1 ps ((List.range j).map (partS (sh0 :: shs) kd i)) ∧ m' "column" = some (.int (i : Int) t) ∧ m' "kind" = some (.str (kdStr kd) tkd) ∧ m' "shapes" = some (.ref sl) ∧ m' "found" = some (.ref fd) ∧ m' "parts" = some (.ref pa)) (by assumption) rm.1 (by decide) (by exact ⟨[], 0, oa1, v1, rfl, hoa1, .nil, rfl, rfl, e1, e2, rfl⟩) ?_ ?_
    · rintro j tj G₂ mu₂ m₂ h₄ tk₄ Ir oIr hj ⟨ps, kk, oa2, v2, rfl, hoa2, hps, c1, c2, c3, c4, c5⟩ gl2 hmu2 hIr hIr0 F₄
      have p1 : Ir ≠ pa := fun e => hIr _ (.head _) e.symm
      have p2 : Ir ≠ fd := fun e => hIr _ (.tail _ (.tail _ (.tail _ (.head _)))) e.symm
      have p3 : Ir ≠ L + 1 := fun e => hIr _ (.tail _ (.tail _ (.tail _ (.tail _ (.head _))))) e.symm
      have hpl : ps.length ≤ 64 := by rw [hps.length, List.length_map, List.length_range]; omega
      k_extra "kc_close"
      rename All2 NmV _ (askedS _ _ _) => hya
      have hst : partS (sh0 :: shs) kd i j = firstN (names kd) (askedS (sh0 :: shs) i j) := rfl
      have hlne := fun ys => left_ne (ys := ys) ekd (by omega : j < parts kd) htk
      generalize askedS (sh0 :: shs) i j = as at hya hst hlne
      cases hya with
      | nil =>
        walk_at "k_nil"
        k_extra "kpf_close"
        refine ⟨_, _, _, _, rfl, by assumption, ?_, by with_unfolding_all exact c1, by with_unfolding_all exact c2, by with_unfolding_all exact c3, by with_unfolding_all exact c4, by with_unfolding_all exact c5⟩
        rw [List.range_succ, List.map_append]
        exact hps.snoc ⟨_, by rw [hst]; rfl⟩
      | @cons y0 a0 ysr asr hy0 hya =>
        have hya2 := All2.cons hy0 hya
        walk_at "k_nil"
        refine ev_comp (by rfl) (by rfl) (by rfl) ?_
        k_extra "kc_close"
        rename LstG _ (nAddr _) _ => hnl
        rename All2 NmV _ (names _) => hna
        rename _ ∧ _ => hnlen
        refine comp_lst [] (fun q G' mu' ys' => mu' = [(Ir, oIr), (pa, lstO ps kk), (I, oI), (I2, oI2), (fd, lstO ys k1), (L + 1, oS5)] ∧ All2 NmV ys' (leftN ((names kd).take q) (a0 :: asr))) (by assumption) hnl rm.1 (by exact Nat.le_trans hnlen.2 (by decide)) (by rfl) (by rfl) (.inl ⟨_, _, rfl⟩) (by simp) ⟨rfl, .nil⟩ ?_ ?_
        · rintro q v ys' G₃ mu₃ C h₅ tk₅ m₃ hv3 ⟨rfl, hys2⟩ gl3 hys' hmu3 F₅
          obtain ⟨n, en, tn, rfl⟩ := hna.get hv3
          k_extra "kc_close"
          · have hq : n ∈ a0 :: asr := by assumption
            k_extra "kpf_close"
            exact ⟨rfl, by rw [take_snoc en, left_no hq]; exact hys2⟩
          · have hq : n ∉ a0 :: asr := by assumption
            k_extra "kpf_close"
            exact ⟨rfl, by rw [take_snoc en, left_yes hq]; exact hys2.snoc ⟨_, rfl⟩⟩
        · rintro D C2 k2' h6 tk6 G6 mu6 ys6 m6 ⟨rfl, h5⟩ hys6 gl6 hmu6 F6 hD0 hDm hnC hCL hCD hC0 hGC hCm
          refine cp_none F6 hD0 hDm hnC hCL hCD hC0 hGC hCm ?_
          intro h7 G7 gl7 hl7 F7
          clear F6
          rw [hna.length, List.take_length] at h5
          have hne6 := hlne _ h5
          generalize hlf : leftN (names kd) (a0 :: asr) = lf at h5
          cases h5 with
          | nil => exact absurd rfl hne6
          | cons hn6 h5 =>
            obtain ⟨tn6, rfl⟩ := hn6
            have hst2 := hst.trans (firstN_left (by simp) hlf)
            k_extra "kc_close"
            k_extra "kpf_close"
            refine ⟨_, _, _, _, rfl, by assumption, ?_, by with_unfolding_all exact c1, by with_unfolding_all exact c2, by with_unfolding_all exact c3, by with_unfolding_all exact c4, by with_unfolding_all exact c5⟩
            rw [List.range_succ, List.map_append]
            exact hps.snoc ⟨_, by rw [hst2]; rfl⟩)
            rintro h8 tk8 G8 mu8 m8 ⟨ps, kk, oa2, v2, rfl, hoa2, hps, c1, c2, c3, c4, c5⟩ gl8 hmu8 F8
            change All2 Str1 ps [partS (sh0 :: shs) kd i 0, partS (sh0 :: shs) kd i 1] at hps
            have hcol : colS (sh0 :: shs) kd i = pairC (partS (sh0 :: shs) kd i 0) (partS (sh0 :: shs) kd i 1) := by rw [hkP]; rfl
            generalize partS (sh0 :: shs) kd i 0 = x0 at hps hcol
            generalize partS (sh0 :: shs) kd i 1 = x1 at hps hcol
            cases hps with
            | cons hx0 hps => cases hps with
              | cons hx1 hps =>
                cases hps
                obtain ⟨tx0, rfl⟩ := hx0
                obtain ⟨tx1, rfl⟩ := hx1
                have hpl2 : [Value.str (c1Str x0) tx0, .str (c1Str x1) tx1].length ≤ 64 := Nat.le_of_ble_eq_true rfl
                have hyl : ys.length ≤ 64 := by rw [hys.length]; simp [colsS]; have := (List.getElem?_eq_some_iff.mp ekd).1; omega
                try dsimp only
                k_extra "kc_close"
                · have q : (kdStr kd != Str.ofString "P") = true := by assumption
                  rw [hkP] at q
                  exact (kd_bne q).elim
                · have q : x0 = .w ∧ x1 = .w := by assumption
                  rename Fm _ _ _ _ _ _ _ _ _ => FF
                  have F9 := FF.dropMu
                  k_extra "kpf_close"
                  refine ⟨_, rfl, _, _, _, _, rfl, hoa2, ?_, by with_unfolding_all exact c3, by with_unfolding_all exact c4⟩
                  rw [cols_snoc ekd, hcol, pairC, if_pos q]
                  exact (hys.mono fun _ _ => WdV.mono (by k_extra "ktr_room")).snoc ⟨_, rfl⟩
                · have q : ¬(x0 = .w ∧ x1 = .w) := by assumption
                  rename Fm _ _ _ _ _ _ _ _ _ => FF
                  have F9 := FF.dropMu
                  k_extra "kpf_close"
                  refine ⟨_, rfl, _, _, _, _, rfl, hoa2, ?_, by with_unfolding_all exact c3, by with_unfolding_all exact c4⟩
                  rw [cols_snoc ekd, hcol, pairC, if_neg q]
                  exact (hys.mono fun _ _ => WdV.mono (by k_extra "ktr_room")).snoc ⟨_, _, _, rfl, by k_extra "ktr_rel", ⟨_, rfl⟩, ⟨_, rfl⟩⟩
          · have hp1 := kd_one (k := kd) (by assumption)
            have hkP : kd ≠ .P := fun e => by have q : (kdStr kd == "P") = false := by assumption
                                              rw [e] at q; revert q; decide +kernel
            (
    refine for_rng (n := 1) (fun j G' mu' m' => ∃ ps kk oa v, mu' = [(pa, lstO ps kk), (I, oI), (I2, oI2), (fd, lstO ys k1), (L + 1, oa)] ∧ oa.data = .cell v ∧ All2 Str1 ps ((List.range j).map (partS (sh0 :: shs) kd i)) ∧ m' "column" = some (.int (i : Int) t) ∧ m' "kind" = some (.str (kdStr kd) tkd) ∧ m' "shapes" = some (.ref sl) ∧ m' "found" = some (.ref fd) ∧ m' "parts" = some (.ref pa)) (by assumption) rm.1 (by decide) (by exact ⟨[], 0, oa1, v1, rfl, hoa1, .nil, rfl, rfl, e1, e2, rfl⟩) ?_ ?_
    · rintro j tj G₂ mu₂ m₂ h₄ tk₄ Ir oIr hj ⟨ps, kk, oa2, v2, rfl, hoa2, hps, c1, c2, c3, c4, c5⟩ gl2 hmu2 hIr hIr0 F₄
      have p1 : Ir ≠ pa := fun e => hIr _ (.head _) e.symm
      have p2 : Ir ≠ fd := fun e => hIr _ (.tail _ (.tail _ (.tail _ (.head _)))) e.symm
      have p3 : Ir ≠ L + 1 := fun e => hIr _ (.tail _ (.tail _ (.tail _ (.tail _ (.head _))))) e.symm
      have hpl : ps.length ≤ 64 := by rw [hps.length, List.length_map, List.length_range]; omega
      k_extra "kc_close"
      rename All2 NmV _ (askedS _ _ _) => hya
      have hst : partS (sh0 :: shs) kd i j = firstN (names kd) (askedS (sh0 :: shs) i j) := rfl
      have hlne := fun ys => left_ne (ys := ys) ekd (by omega : j < parts kd) htk
      generalize askedS (sh0 :: shs) i j = as at hya hst hlne
      cases hya with
      | nil =>
        walk_at "k_nil"
        k_extra "kpf_close"
        refine ⟨_, _, _, _, rfl, by assumption, ?_, by with_unfolding_all exact c1, by with_unfolding_all exact c2, by with_unfolding_all exact c3, by with_unfolding_all exact c4, by with_unfolding_all exact c5⟩
        rw [List.range_succ, List.map_append]
        exact hps.snoc ⟨_, by rw [hst]; rfl⟩
      | @cons y0 a0 ysr asr hy0 hya =>
        have hya2 := All2.cons hy0 hya
        walk_at "k_nil"
        refine ev_comp (by rfl) (by rfl) (by rfl) ?_
        k_extra "kc_close"
        rename LstG _ (nAddr _) _ => hnl
        rename All2 NmV _ (names _) => hna
        rename _ ∧ _ => hnlen
        refine comp_lst [] (fun q G' mu' ys' => mu' = [(Ir, oIr), (pa, lstO ps kk), (I, oI), (I2, oI2), (fd, lstO ys k1), (L + 1, oS5)] ∧ All2 NmV ys' (leftN ((names kd).take q) (a0 :: asr))) (by assumption) hnl rm.1 (by exact Nat.le_trans hnlen.2 (by decide)) (by rfl) (by rfl) (.inl ⟨_, _, rfl⟩) (by simp) ⟨rfl, .nil⟩ ?_ ?_
        · rintro q v ys' G₃ mu₃ C h₅ tk₅ m₃ hv3 ⟨rfl, hys2⟩ gl3 hys' hmu3 F₅
          obtain ⟨n, en, tn, rfl⟩ := hna.get hv3
          k_extra "kc_close"
          · have hq : n ∈ a0 :: asr := by assumption
            k_extra "kpf_close"
            exact ⟨rfl, by rw [take_snoc en, left_no hq]; exact hys2⟩
          · have hq : n ∉ a0 :: asr := by assumption
            k_extra "kpf_close"
            exact ⟨rfl, by rw [take_snoc en, left_yes hq]; exact hys2.snoc ⟨_, rfl⟩⟩
        · rintro D C2 k2' h6 tk6 G6 mu6 ys6 m6 ⟨rfl, h5⟩ hys6 gl6 hmu6 F6 hD0 hDm hnC hCL hCD hC0 hGC hCm
          refine cp_none F6 hD0 hDm hnC hCL hCD hC0 hGC hCm ?_
          intro h7 G7 gl7 hl7 F7
          clear F6
          rw [hna.length, List.take_length] at h5
          have hne6 := hlne _ h5
          generalize hlf : leftN (names kd) (a0 :: asr) = lf at h5
          cases h5 with
          | nil => exact absurd rfl hne6
          | cons hn6 h5 =>
            obtain ⟨tn6, rfl⟩ := hn6
            have hst2 := hst.trans (firstN_left (by simp) hlf)
            k_extra "kc_close"
            k_extra "kpf_close"
            refine ⟨_, _, _, _, rfl, by assumption, ?_, by with_unfolding_all exact c1, by with_unfolding_all exact c2, by with_unfolding_all exact c3, by with_unfolding_all exact c4, by with_unfolding_all exact c5⟩
            rw [List.range_succ, List.map_append]
            exact hps.snoc ⟨_, by rw [hst2]; rfl⟩)
            rintro h8 tk8 G8 mu8 m8 ⟨ps, kk, oa2, v2, rfl, hoa2, hps, c1, c2, c3, c4, c5⟩ gl8 hmu8 F8
            change All2 Str1 ps [partS (sh0 :: shs) kd i 0] at hps
            have hcol : colS (sh0 :: shs) kd i = .s (partS (sh0 :: shs) kd i 0) := by cases kd <;> first | rfl | exact absurd rfl hkP
            generalize partS (sh0 :: shs) kd i 0 = x0 at hps hcol
            cases hps with
            | cons hx0 hps =>
              cases hps
              obtain ⟨tx0, rfl⟩ := hx0
              have hyl : ys.length ≤ 64 := by rw [hys.length]; simp [colsS]; have := (List.getElem?_eq_some_iff.mp ekd).1; omega
              try dsimp only
              k_extra "kc_close"
              · rename Fm _ _ _ _ _ _ _ _ _ => FF
                have F9 := FF.dropMu
                k_extra "kpf_close"
                refine ⟨_, rfl, _, _, _, _, rfl, hoa2, ?_, by with_unfolding_all exact c3, by with_unfolding_all exact c4⟩
                rw [cols_snoc ekd, hcol]
                exact (hys.mono fun _ _ => WdV.mono (by k_extra "ktr_room")).snoc ⟨_, rfl⟩
              · have q : (kdStr kd != Str.ofString "P") = false := by assumption
                exact absurd (kd_P.mp (by simpa [bne] using q)) hkP
        · rintro h3 tk3 G3 mu3 m3 ⟨ys, k1, oa1, v1, rfl, hoa1, hys, e1, e2⟩ gl3 hmu3 F3
          obtain ⟨F4, gl4, gs4⟩ := F3.settle2 hfd0 (by simp; exact q1)
          clear F3
          k_extra "kc_close"
          refine h _ _ _ _ (Fm.done F4 nL) ?_
          unfold dueS
          rw [htk]
          exact ⟨_, _, rfl, ⟨_, gs4, rfl, _, rfl⟩, by rw [← hkl2]; exact hys.mono fun _ _ => WdV.mono gl4⟩)) only [↓und])
end
end
theorem rgeW23 : True := by
  k_with "off:W23" => skip
  trivial
section
noncomputable def clashS (as : List Shp) (sh : Shp) : Bool := match sh.pl with
  | none => false
  | some (c, p) => decide (sh.n ∈ askedS as c p)
noncomputable def goneS (ks : List Kd) (fs : List Nat) (shs : List Shp) (i : Nat) (sh : Shp) : Bool := takesS ks (aheadOf fs shs i) || clashS (aheadOf fs shs i) sh
noncomputable def uselessS (ks : List Kd) (shs : List Shp) (fs : List Nat) (n : Nat) : List Nat := (List.range n).filter fun i => match shs[i]? with
  | some sh => goneS ks fs shs i sh
  | none => false
theorem us_yes {ks : List Kd} {shs : List Shp} {fs : List Nat} {n : Nat} {sh : Shp} (e : shs[n]? = some sh) (h : goneS ks fs shs n sh = true) : uselessS ks shs fs (n + 1) = uselessS ks shs fs n ++ [n] := by
  simp [uselessS, List.range_succ, List.filter_append, e, h]
theorem us_no {ks : List Kd} {shs : List Shp} {fs : List Nat} {n : Nat} {sh : Shp} (e : shs[n]? = some sh) (h : goneS ks fs shs n sh = false) : uselessS ks shs fs (n + 1) = uselessS ks shs fs n := by
  simp [uselessS, List.range_succ, List.filter_append, e, h]
section
variable {w : World} {K : Frag} {H : Heap} {mg mb : Str → Option Value} {A : Around} {E : Value → Shared → Prop} {s : Shared} {G : Gr}
theorem in_nms_g {wr : List Addr} {G₀ : Gr} {h₀ : Heap} {L : Addr} {mu : List (Addr × Obj)} {m : Str → Option Value} {a : Addr} {ys : List Value} {ns : List Nm} {n : Nm} {t : Tok} {Q : Value → Shared → Prop} (F : Fm H wr G₀ h₀ L G mu s.heap m) (hm : LstG G a ys) (h : All2 NmV ys ns) (hq : Q (.bool (decide (n ∈ ns))) s) :
    wpAny (model pw w) A (compareOp .In (.str n.str t) (.ref a)) Q E s := SeqAt.in_listAt (eqN n) (hm.at F.inn) (eq_nms h) (by rw [any_nms h]; exact hq)
theorem rgoW2446 : True := by
  k_with "call ref" => (((with_reducible show wpAny _ _ (call (Value.ref 565) _) _ _ _); (rename Fm _ _ _ _ _ _ _ _ _ => FF'); refine c_takes_all (by assumption) (by assumption) (by assumption) (by (first | assumption | (refine LN.mono ?_ (by assumption); k_extra "ktr_room"))) (Room.deeper (Room.le (by assumption) (by first | exact Nat.le_of_ble_eq_true rfl | exact rm_lit | omega))) (Fm.top FF') (Fm.inn FF') (by k_extra "ktr_rel") (by (first | assumption | (refine All2.mono (fun _ _ => ShpG.mono ?_) (by assumption); k_extra "ktr_room"))) (by assumption) (by k_extra "ktr_rel") (by assumption) (by assumption) ?_; intro gS' hS' tS' WS'; (have glS := Went.sub WS'); (have FS' := Fm.call FF' WS'); clear FF'))
  trivial
theorem rgpW2447 : True := by
  k_with "compareOp NotIn int ref" => ((fail_if_success (k_extra "off:W24")); k_extra "W24:compareOp NotIn int ref")
  trivial
theorem rgoW2447 : True := by
  k_with "W24:compareOp NotIn int ref" => (refine nin_fall (by assumption) (by (first | assumption | (refine FallG.mono ?_ (by assumption); k_extra "ktr_room"))) ?_)
  trivial
theorem rgpW2448 : True := by
  k_with "compareOp In str ref" => ((fail_if_success (k_extra "off:W24")); k_extra "W24:compareOp In str ref")
  trivial
theorem rgoW2448 : True := by
  k_with "W24:compareOp In str ref" => (refine in_nms_g (by assumption) (by k_extra "ktr_rel") (by assumption) ?_)
  trivial
set_option maxHeartbeats 4000000 in
theorem c_useless_law {sl kl fa : Addr} {svs kvs : List Value} {shs : List Shp} {ks : List Kd} {fs : List Nat} {Q : Value → Shared → Prop} (B : Bs w K H mg mb) (k : KOk K) (hgl : nsIn K mainGlobals (Str.ofString "_law_names") = some (some (.ref 512))) (ln : LN w G) (rm : Room A 11) (hH : HLe H G) (hG : GIn G s.heap)
    (hsl : LstG G sl svs) (hss : All2 (ShpG w.params G) svs shs) (hz : svs.length ≤ 64) (hkl : LstG G kl kvs) (hks : All2 KdV kvs ks) (hk64 : kvs.length ≤ 64) (hfa : FallG G (.ref fa) fs)
    (h : ∀ x ys G' h' tk', Went [] G s.heap G' h' → LstG G' x ys → All2 IntV ys (uselessS ks shs fs shs.length) → Q (.ref x) { s with heap := h', toks := tk' }) :
    wpAny (model pw w) A (call (.ref 585) [.ref sl, .ref kl, .ref fa]) Q E s := dis (by
  simp (disch := k_dflt (
    refine dis ?_
    have hf := k.f585
    obtain ⟨td, e⟩ : ∃ t, t = topFd 54 := ⟨_, rfl⟩
    rw [← e] at hf
    conv at e => (rhs; whnf)
    subst e
    refine wpAny_call (code_fnC (binds := [("shapes", .ref sl), ("kinds", .ref kl), ("falls", .ref fa)]) [] [] B hf hH hG rm.depth (by simp) (fun _ _ _ _ _ _ => BindsTo.of_eq (by rfl)) (by rfl) (by decide) ?_)
    clear hf
    intro L h₁ tk₁ cdv cells nL hcn hap F hC
    obtain ⟨of, os, rfl, hof, hos⟩ := CellsAre.two (n := "falls") (c := L + 1 + 1) (n' := "shapes") (c' := L + 1) hC
    clear hC
    have hcn0 : s.heap.get? (L + 1) = none := hcn _ (.tail _ (.head _))
    have hcn1 : s.heap.get? (L + 1 + 1) = none := hcn _ (.head _)
    change Fm H [] G s.heap L G [(L + 1 + 1, of), (L + 1, os)] h₁ (fun y => if y = "kinds" then some (.ref kl) else none) at F
    change of.data = .cell (some (.ref fa)) at hof
    change os.data = .cell (some (.ref sl)) at hos
    have hsl2 := hss.length
    k_extra "kc_close"
    refine nt_mut (by assumption) (by decide) ?_
    intro a h₂ ha0 ham F₂
    clear F
    have hac : (L + 1 + 1) ≠ a := ham _ (.head _)
    have hac2 : (L + 1) ≠ a := ham _ (.tail _ (.head _))
    k_extra "kc_close"
    refine wpAny_For ?_
    k_extra "kc_close"
    refine for_rng (fun i G' mu' m' => ∃ ys k, mu' = [(a, lstO ys k), (L + 1 + 1, of), (L + 1, os)] ∧ m' "found" = some (.ref a) ∧ m' "kinds" = some (.ref kl) ∧ All2 IntV ys (uselessS ks shs fs i)) (by assumption) rm.1 (Nat.le_trans hz (by decide))
      (by exact ⟨[], 0, rfl, rfl, rfl, .nil⟩) ?_ ?_
    · rintro i ti G₁ mu₁ m₁ h₃ tk₃ I oI hi ⟨ys, k1, rfl, e1, e2, hys⟩ gl hmu hI1 hI2 F₃
      have hIa : I ≠ a := fun e => hI1 _ (.head _) e.symm
      have hIc : I ≠ (L + 1 + 1) := fun e => hI1 _ (.tail _ (.head _)) e.symm
      have hIc2 : I ≠ (L + 1) := fun e => hI1 _ (.tail _ (.tail _ (.head _))) e.symm
      obtain ⟨v, ev⟩ : ∃ v, svs[i]? = some v := ⟨_, List.getElem?_eq_getElem hi⟩
      obtain ⟨sh, esh, aT, rv, pv, nv, rfl, hT, hR, hP⟩ := hss.get ev
      k_extra "kc_close"
      refine as_comp (by rfl) (by rfl) (by rfl) (by rfl) ?_
      k_extra "kc_close"
      refine comp_rng [] (fun j G' mu' zs => mu' = [(I, oI), (a, lstO ys k1), (L + 1 + 1, of), (L + 1, os)] ∧ All2 (ShpG w.params G') zs (aheadOf fs shs j)) (by assumption) rm.1 (Nat.le_trans (Nat.le_trans (Nat.le_of_lt hi) hz) (by decide)) (by rfl) (by rfl) (by simp) ⟨rfl, .nil⟩ ?_ ?_
      · rintro j tj zs G₂ mu₂ C h₂ tk₂ m₁ hj ⟨rfl, hzs⟩ gl2 hzl hmu2 F₄
        obtain ⟨v2, ev2⟩ : ∃ v, svs[j]? = some v := ⟨_, List.getElem?_eq_getElem (Nat.lt_trans hj hi)⟩
        obtain ⟨sh2, esh2, hsh2⟩ := hss.get ev2
        k_extra "kc_close"
        · have q : j ∈ fs := by assumption
          k_extra "kpf_close"
          exact ⟨rfl, by rw [ahead_in q]; exact hzs.mono fun _ _ => ShpG.mono (by k_extra "ktr_room")⟩
        · have q : j ∉ fs := by assumption
          k_extra "kpf_close"
          exact ⟨rfl, by rw [ahead_out q esh2]; exact (hzs.mono fun _ _ => ShpG.mono (by k_extra "ktr_room")).snoc (hsh2.mono (by k_extra "ktr_room"))⟩
      · rintro D C2 k2 h4 tk4 G4 mu4 zs4 m4 ⟨rfl, h5⟩ hzs4 gl4 hmu4 F4 hD0 hDm hnC hCL hCD hC0 hGC hCm
        refine cp_as2 (y := "ahead") F4 hD0 hDm hnC hCL hCD hC0 hGC hCm (by rfl) (by rfl) ?_
        intro h5' tk5 G5 gl5 hl5 F5
        clear F4
        have hzl : zs4.length ≤ 64 := by rw [h5.length]; exact Nat.le_trans ahead_len (Nat.le_trans (Nat.le_of_lt hi) hz)
        have hyl : ys.length ≤ 64 := by
          rw [hys.length]; unfold uselessS
          exact Nat.le_trans (List.length_filter_le ..) (by rw [List.length_range]; omega)
        have hyes := fun q => us_yes (ks := ks) (fs := fs) esh q
        have hno := fun q => us_no (ks := ks) (fs := fs) esh q
        unfold goneS clashS at hyes hno
        unfold PlG at hP
        cases hpl : sh.pl with
        | none =>
          rw [hpl] at hP hyes hno
          obtain ⟨rfl, tn, rfl⟩ := hP
          k_extra "kc_close"
          · have q1 : takesS ks (aheadOf fs shs i) = true := by assumption
            k_extra "kpf_close"
            exact ⟨_, _, rfl, by with_unfolding_all exact e1, by with_unfolding_all exact e2, by rw [hyes (by simp [q1])]; exact hys.snoc ⟨_, rfl⟩⟩
          · have q1 : takesS ks (aheadOf fs shs i) = false := by assumption
            k_extra "kpf_close"
            exact ⟨_, _, rfl, by with_unfolding_all exact e1, by with_unfolding_all exact e2, by rw [hno (by simp [q1])]; exact hys⟩
        | some q =>
          obtain ⟨c, p⟩ := q
          rw [hpl] at hP hyes hno
          obtain ⟨pb, t3, t4, rfl, hpb, tn, rfl⟩ := hP
          k_extra "kc_close"
          · have q1 : takesS ks (aheadOf fs shs i) = true := by assumption
            k_extra "kpf_close"
            exact ⟨_, _, rfl, by with_unfolding_all exact e1, by with_unfolding_all exact e2, by rw [hyes (by simp [q1])]; exact hys.snoc ⟨_, rfl⟩⟩
          · have q1 : sh.n ∈ askedS (aheadOf fs shs i) c p := by assumption
            k_extra "kpf_close"
            exact ⟨_, _, rfl, by with_unfolding_all exact e1, by with_unfolding_all exact e2, by rw [hyes (by simp [q1])]; exact hys.snoc ⟨_, rfl⟩⟩
          · have q1 : takesS ks (aheadOf fs shs i) = false := by assumption
            have q2 : ¬ sh.n ∈ askedS (aheadOf fs shs i) c p := by assumption
            k_extra "kpf_close"
            exact ⟨_, _, rfl, by with_unfolding_all exact e1, by with_unfolding_all exact e2, by rw [hno (by simp [q1, q2])]; exact hys⟩
    · rintro h3 tk3 G3 mu3 m3 ⟨ys, k1, rfl, e1, e2, hys⟩ gl3 hmu3 F3
      have F4 := F3.settle ha0 (by simp; exact ⟨hac, hac2⟩)
      clear F3
      k_extra "kc_close"
      rw [hsl2] at hys
      exact h _ _ _ _ _ (Fm.done F4 nL) ⟨_, GAdd.self, rfl, _, rfl⟩ hys)) only [↓und])
end
end
theorem rgeW24 : True := by
  k_with "off:W24" => skip
  trivial
section
section
variable {w : World} {K : Frag} {H : Heap} {mg mb : Str → Option Value} {A : Around} {E : Value → Shared → Prop} {s : Shared} {G : Gr}
theorem rgpW2549 : True := by
  k_with "compareOp Eq ref ref" => ((fail_if_success (k_extra "off:W25")); k_extra "W25:compareOp Eq ref ref")
  trivial
theorem rgoW2549 : True := by
  k_with "W25:compareOp Eq ref ref" => (refine eq_none (by assumption) (by k_extra "ktr_rel") (by k_extra "ktr_rel") (Room.hu (by assumption)) ?_)
  trivial
set_option maxHeartbeats 4000000 in
theorem c_word1 {v : Value} {c : C1} {Q : Value → Shared → Prop} (B : Bs w K H mg mb) (k : KOk K) (rm : Room A 3) (hH : HLe H G) (hG : GIn G s.heap) (hv : Lk w.params G v (.s c))
    (h : ∀ x G' h' tk', Went [] G s.heap G' h' → Str1 x c → Q x { s with heap := h', toks := tk' }) :
    wpAny (model pw w) A (call (.ref 575) [v]) Q E s := dis (by
  simp (disch := k_dflt (
    refine dis ?_
    have hf := k.f575
    obtain ⟨td, e⟩ : ∃ t, t = topFd 52 := ⟨_, rfl⟩
    rw [← e] at hf
    conv at e => (rhs; whnf)
    subst e
    refine wpAny_call (code_fn (binds := [("pattern", v)]) [] [] B hf hH hG rm.depth (by simp) (fun _ _ _ _ _ _ => BindsTo.of_eq (by rfl)) (by rfl) (by rfl) ?_)
    clear hf
    intro L h₁ cdv nL F
    cases hv with
    | w i =>
      k_extra "kc_close"
      exact h _ _ _ _ (Fm.done (by assumption) nL) ⟨_, rfl⟩
    | a hn i =>
      obtain ⟨pl, tk, l, i, hl⟩ := i
      k_extra "kc_close"
      walk_at "k_nil"
      exact h _ _ _ _ (Fm.done (by assumption) nL) ⟨_, rfl⟩)) only [↓und])
theorem rgoW2550 : True := by
  k_with "call ref" => (((with_reducible show wpAny _ _ (call (Value.ref 575) _) _ _ _); (rename Fm _ _ _ _ _ _ _ _ _ => FF'); refine c_word1 (by assumption) (by assumption) (Room.deeper (Room.le (by assumption) (by first | exact Nat.le_of_ble_eq_true rfl | exact rm_lit | omega))) (Fm.top FF') (Fm.inn FF') (Lk.up (by assumption) (by k_extra "ktr_room")) ?_; intro xS' gS' hS' tS' WS' sS'; (have glS := Went.sub WS'); (have FS' := Fm.call FF' WS'); clear FF'))
  trivial
theorem rgpW2551 : True := by
  k_with "call type:tuple" => ((fail_if_success (k_extra "off:W25")); k_extra "W25:call type:tuple")
  trivial
theorem rgoW2551 : True := by
  k_with "W25:call type:tuple" => (k_dflt ((refine tup_g (by assumption) (by k_extra "ktr_rel") (by assumption) ?_; intro TS' gS' hS' glS' tS' FS')))
  trivial
set_option maxHeartbeats 4000000 in
theorem c_word {v : Value} {c : Cell} {Q : Value → Shared → Prop} (B : Bs w K H mg mb) (k : KOk K) (rm : Room A 5) (hH : HLe H G) (hG : GIn G s.heap) (hv : Td w.params G v c)
    (h : ∀ x G' h' tk', Went [] G s.heap G' h' → WdV G' x c → Q x { s with heap := h', toks := tk' }) :
    wpAny (model pw w) A (call (.ref 575) [v]) Q E s := dis (by
  simp (disch := k_dflt (
    refine dis ?_
    cases hv with
    | w i => exact c_word1 B k (Room.le rm (by first | exact Nat.le_of_ble_eq_true rfl | exact rm_lit | omega)) hH hG (.w i) fun x G' h' tk' W q => h x G' h' tk' W q
    | a hn i => exact c_word1 B k (Room.le rm (by first | exact Nat.le_of_ble_eq_true rfl | exact rm_lit | omega)) hH hG (.a hn i) fun x G' h' tk' W q => h x G' h' tk' W q
    | @p x v0 v1 c0 c1 i a b =>
      have hf := k.f575
      obtain ⟨td, e⟩ : ∃ t, t = topFd 52 := ⟨_, rfl⟩
      rw [← e] at hf
      conv at e => (rhs; whnf)
      subst e
      refine wpAny_call (code_fn (binds := [("pattern", .ref x)]) [] [] B hf hH hG rm.depth (by simp) (fun _ _ _ _ _ _ => BindsTo.of_eq (by rfl)) (by rfl) (by rfl) ?_)
      clear hf
      intro L h₁ cdv nL F
      obtain ⟨pl, l, i, hl⟩ := i
      have hall : All2 (fun v c => Lk w.params G v (.s c)) [v0, v1] [c0, c1] := .cons a (.cons b .nil)
      k_extra "kc_close"
      refine ev_comp (by rfl) (by rfl) (by rfl) ?_
      k_extra "kc_close"
      refine comp_lst [] (fun i G' mu' ys => mu' = [] ∧ All2 Str1 ys ([c0, c1].take i)) (by assumption) (LstG.mono hl (by k_extra "ktr_room")) rm.1 (by exact Nat.le_of_ble_eq_true rfl) (by rfl) (by rfl) (.inl ⟨_, _, rfl⟩) (by simp) ⟨rfl, .nil⟩ ?_ ?_
      · rintro i v ys G₁ mu₁ C h₂ tk₂ m₁ hv ⟨rfl, hys2⟩ gl hys hmu F₂
        obtain ⟨c, ec, hlk⟩ := hall.get hv
        k_extra "kc_close"
        rename Str1 _ _ => hst
        k_extra "kpf_close"
        exact ⟨rfl, by rw [take_snoc ec]; exact hys2.snoc hst⟩
      · rintro D C2 k2 h3 tk3 G3 mu3 ys3 m3 ⟨rfl, h5⟩ hys3 gl3 hmu3 F3 hD0 hDm hnC hCL hCD hC0 hGC hCm
        refine cp_none F3 hD0 hDm hnC hCL hCD hC0 hGC hCm ?_
        intro h4 G4 gl4 hl4 F4
        clear F3
        have hz3 : ys3.length ≤ 64 := by rw [h5.length]; exact Nat.le_of_ble_eq_true rfl
        change All2 Str1 ys3 [c0, c1] at h5
        cases h5 with
        | cons q0 h5 => cases h5 with
          | cons q1 h5 =>
            cases h5
            k_extra "kc_close"
            exact h _ _ _ _ (Fm.done (by assumption) nL) ⟨_, _, _, rfl, by assumption, q0, q1⟩)) only [↓und])
theorem rgoW2552 : True := by
  k_with "call ref" => (((with_reducible show wpAny _ _ (call (Value.ref 575) _) _ _ _); (rename Fm _ _ _ _ _ _ _ _ _ => FF'); refine c_word (by assumption) (by assumption) (Room.deeper (Room.le (by assumption) (by first | exact Nat.le_of_ble_eq_true rfl | exact rm_lit | omega))) (Fm.top FF') (Fm.inn FF') (Td.mono (by k_extra "ktr_room") (by assumption)) ?_; intro xS' gS' hS' tS' WS' sS'; (have glS := Went.sub WS'); (have FS' := Fm.call FF' WS'); clear FF'))
  trivial
set_option maxHeartbeats 4000000 in
theorem c_words {v : Value} {o : Option (List Cell)} {Q : Value → Shared → Prop} (B : Bs w K H mg mb) (k : KOk K) (rm : Room A 6) (hH : HLe H G) (hG : GIn G s.heap) (hv : ToldG w.params G v o) (hz : ∀ cs, o = some cs → cs.length ≤ 64)
    (h : ∀ x G' h' tk', Went [] G s.heap G' h' → WordsG G' x o → Q x { s with heap := h', toks := tk' }) :
    wpAny (model pw w) A (call (.ref 580) [v]) Q E s := dis (by
  simp (disch := k_dflt (
    refine dis ?_
    have hf := k.f580
    obtain ⟨td, e⟩ : ∃ t, t = topFd 53 := ⟨_, rfl⟩
    rw [← e] at hf
    conv at e => (rhs; whnf)
    subst e
    refine wpAny_call (code_fn (binds := [("told", v)]) [] [] B hf hH hG rm.depth (by simp) (fun _ _ _ _ _ _ => BindsTo.of_eq (by rfl)) (by rfl) (by rfl) ?_)
    clear hf
    intro L h₁ cdv nL F
    cases o with
    | none =>
      change v = .none at hv
      subst hv
      k_extra "kc_close"
      exact h _ _ _ _ (Fm.done (by assumption) nL) rfl
    | some cs =>
      obtain ⟨l, vs, rfl, hl, ha⟩ := hv
      have hz1 := hz cs rfl
      rw [← ha.length] at hz1
      k_extra "kc_close"
      refine ev_comp (by rfl) (by rfl) (by rfl) ?_
      k_extra "kc_close"
      refine comp_lst [] (fun i G' mu' ys => mu' = [] ∧ All2 (WdV G') ys (cs.take i)) (by assumption) (LstG.mono hl (by k_extra "ktr_room")) rm.1 (Nat.le_trans hz1 (by decide)) (by rfl) (by rfl) (.inl ⟨_, _, rfl⟩) (by simp) ⟨rfl, .nil⟩ ?_ ?_
      · rintro i v ys G₁ mu₁ C h₂ tk₂ m₁ hv ⟨rfl, hys2⟩ gl hys hmu F₂
        obtain ⟨c, ec, hlk⟩ := ha.get hv
        k_extra "kc_close"
        rename WdV _ _ _ => hst
        k_extra "kpf_close"
        exact ⟨rfl, by rw [take_snoc ec]; exact (hys2.mono fun _ _ => WdV.mono (by k_extra "ktr_room")).snoc hst⟩
      · rintro D C2 k2 h3 tk3 G3 mu3 ys3 m3 ⟨rfl, h5⟩ hys3 gl3 hmu3 F3 hD0 hDm hnC hCL hCD hC0 hGC hCm
        refine cp_none F3 hD0 hDm hnC hCL hCD hC0 hGC hCm ?_
        intro h4 G4 gl4 hl4 F4
        clear F3
        rw [ha.length, List.take_length] at h5
        k_extra "kc_close"
        exact h _ _ _ _ (Fm.done (by assumption) nL) ⟨_, _, rfl, hl4, h5.mono fun _ _ => WdV.mono gl4⟩)) only [↓und])
end
end
theorem rgeW25 : True := by
  k_with "off:W25" => skip
  trivial
section
noncomputable def FR (P : Params) (G : Gr) (p : Str × Value) (n : Nm) : Prop := p.1 = n.str ∧ InfG P G p.2 n
theorem FR.mono {P : Params} {G G' : Gr} (s : GLe G G') {p : Str × Value} {n : Nm} (h : FR P G p n) : FR P G' p n := ⟨h.1, h.2.mono s⟩
noncomputable def preN (i : Nat) : List Nm := (([.B, .T] : List Kd).take i).flatMap names
theorem pre_snoc {i : Nat} {kd : Kd} (e : ([.B, .T] : List Kd)[i]? = some kd) : preN (i + 1) = preN i ++ names kd := by
  unfold preN; rw [take_snoc e, List.flatMap_append]; simp
theorem pre_fresh {i j : Nat} {kd : Kd} {n : Nm} (e : ([.B, .T] : List Kd)[i]? = some kd) (en : (names kd)[j]? = some n) : n ∉ preN i ++ (names kd).take j := by
  have hi := (List.getElem?_eq_some_iff.mp e).1
  have hj := (List.getElem?_eq_some_iff.mp en).1
  rcases (by simp at hi; omega : i = 0 ∨ i = 1) with rfl | rfl
  · cases e
    rcases (by simp [names] at hj; omega : j = 0 ∨ j = 1) with rfl | rfl <;> cases en <;> decide
  · cases e
    rcases (by simp [names] at hj; omega : j = 0 ∨ j = 1 ∨ j = 2) with rfl | rfl | rfl <;> cases en <;> decide
theorem tag_at {j : Nat} {kd : Kd} {n : Nm} (en : (names kd)[j]? = some n) : tagN n = (j : Int) := by
  have hj := (List.getElem?_eq_some_iff.mp en).1
  cases kd with
  | B => rcases (by simp [names] at hj; omega : j = 0 ∨ j = 1) with rfl | rfl <;> cases en <;> rfl
  | P => rcases (by simp [names] at hj; omega : j = 0 ∨ j = 1) with rfl | rfl <;> cases en <;> rfl
  | T => rcases (by simp [names] at hj; omega : j = 0 ∨ j = 1 ∨ j = 2) with rfl | rfl | rfl <;> cases en <;> rfl
theorem FR_keys {P : Params} {G : Gr} {fk : List (Str × Value)} {ns : List Nm} (h : All2 (FR P G) fk ns) : fk.map (·.1) = ns.map Nm.str := by
  induction h with
  | nil => rfl
  | cons h _ ih => simp [h.1, ih]
theorem FR_zip {P : Params} {G : Gr} {fk : List (Str × Value)} {ns : List Nm} (h : All2 (FR P G) fk ns) : fk = (ns.map Nm.str).zip (fk.map (·.2)) ∧ All2 (InfG P G) (fk.map (·.2)) ns := by
  induction h with
  | nil => exact ⟨rfl, .nil⟩
  | @cons a n as ns h _ ih => exact ⟨by rw [List.map_cons, List.map_cons, List.zip_cons_cons, ← ih.1, ← h.1], .cons h.2 ih.2⟩
theorem str_notin {n : Nm} {ns : List Nm} (h : n ∉ ns) : n.str ∉ ns.map Nm.str := fun q => by
  obtain ⟨m, hm, e⟩ := List.mem_map.mp q
  exact h (Nm.str_inj (a := m) (b := n) (by rw [e]; exact beq_self_eq_true _) ▸ hm)
theorem pre_len {i j : Nat} {kd : Kd} : (preN i ++ (names kd).take j).length ≤ 60 := by
  have h1 : (preN i).length ≤ 5 := by
    rcases i with _ | _ | i
    · decide
    · decide
    · simp [preN, names]
  have h2 := names_len (k := kd)
  rw [List.length_append, List.length_take]; omega
theorem infG_of {P : Params} {G : Gr} {x : Addr} {n : Nm} {i : Int} {ty : Str} {t1 t2 t3 t4 : Tok} {v1 v2 v3 v4 : Value} (h : InsF P G x 507 [("name", .str n.str t1), ("tag", .int i t2), ("arity", .int 0 t3), ("stricts", v1), ("type_name", .str ty t4), ("scheme", v2), ("siblings", v3), ("is_newtype", v4)])
    (hi : tagN n = i) (ht : ty = tyN n) : InfG P G (.ref x) n := by
  subst hi; subst ht
  exact ⟨x, t1, t2, t3, t4, v1, v2, v3, v4, rfl, h⟩
theorem kd_sz {k : Kd} : (Str.ofString "M.").length + (kdStr k).length ≤ sizeLine := by cases k <;> decide +kernel
theorem ty_at {i j : Nat} {kd : Kd} {n : Nm} (e : ([.B, .T] : List Kd)[i]? = some kd) (en : (names kd)[j]? = some n) : Str.ofString "M." ++ kdStr kd = tyN n := by
  have hi := (List.getElem?_eq_some_iff.mp e).1
  have hj := (List.getElem?_eq_some_iff.mp en).1
  rcases (by simp at hi; omega : i = 0 ∨ i = 1) with rfl | rfl
  · cases e
    rcases (by simp [names] at hj; omega : j = 0 ∨ j = 1) with rfl | rfl <;> cases en <;> decide +kernel
  · cases e
    rcases (by simp [names] at hj; omega : j = 0 ∨ j = 1 ∨ j = 2) with rfl | rfl | rfl <;> cases en <;> decide +kernel
section
variable {w : World} {K : Frag} {H : Heap} {mg mb : Str → Option Value} {A : Around} {E : Value → Shared → Prop} {s : Shared} {G : Gr}
theorem rgpW2653 : True := by
  k_with "binaryOp Add str str" => ((fail_if_success (k_extra "off:W26")); k_extra "W26:binaryOp Add str str")
  trivial
theorem rgoW2653 : True := by
  k_with "W26:binaryOp Add str str" => ((refine PyProof.Rows.add_str (hsz := kd_sz) ?_; intro tS' tkS'))
  trivial
theorem rgpW2654 : True := by
  k_with "setItem ref" => ((fail_if_success (k_extra "off:W26")); k_extra "W26:setItem ref")
  trivial
theorem rgoW2654 : True := by
  k_with "W26:setItem ref" => (k_dflt ((refine setd_mu (knd := PySem.strKind pw _) (by assumption) (by k_extra "kt_at_in") (by assumption) (.inr (by assumption)) (strKind_is _ _ _ _) (by assumption) ?_; intro hS5 oD5 hoD5 FS5; (try simp (disch := assumption) only [setMu_head, setMu_nil, setMu_skip] at FS5))))
  trivial
set_option maxHeartbeats 4000000 in
theorem c_cons {Q : Value → Shared → Prop} (B : Bs w K H mg mb) (k : KOk K) (hgl : nsIn K mainGlobals (Str.ofString "_law_names") = some (some (.ref 512))) (ln : LN w G) (rm : Room A 6) (hH : HLe H G) (hG : GIn G s.heap)
    (h : ∀ d G' h' tk', Went [] G s.heap G' h' → ConsG w G' d → Q (.ref d) { s with heap := h', toks := tk' }) :
    wpAny (model pw w) A (call (.ref 536) []) Q E s := dis (by
  simp (disch := k_dflt (
    refine dis ?_
    have hf := k.f536
    obtain ⟨td, e⟩ : ∃ t, t = topFd 45 := ⟨_, rfl⟩
    rw [← e] at hf
    conv at e => (rhs; whnf)
    subst e
    refine wpAny_call (code_fn (binds := []) [] [] B hf hH hG rm.depth (by simp) (fun _ _ _ _ _ _ => BindsTo.of_eq (by rfl)) (by rfl) (by rfl) ?_)
    clear hf
    intro L h₁ cdv nL F
    k_extra "kc_close"
    rw [eval_Dict_empty]
    refine wpAny_bind (wpAny_standAt ?_)
    refine nd_mut (knd := PySem.strKind pw _) (by assumption) (by assumption) ?_
    intro d2 od h₂ hod hd0 hdm lod F₂
    clear F
    k_extra "kc_close"
    refine wpAny_For ?_
    k_extra "kc_close"
    rename Fm _ _ _ _ _ _ _ _ _ => FF
    rename LstG _ _ _ => hls
    have hkv : ∀ t1 t2, All2 KdV [.str (Str.ofString "B") t1, .str (Str.ofString "T") t2] [.B, .T] := fun t1 t2 => .cons ⟨t1, rfl⟩ (.cons ⟨t2, rfl⟩ .nil)
    refine for_lst (fun i G' mu' m' => ∃ o fk, mu' = [(d2, o)] ∧ o.IsDictOf (PySem.strKind pw w) fk ∧ All2 (FR w.params G') fk (preN i) ∧ m' "found" = some (.ref d2)) FF hls rm.1 (.inl ⟨_, _, rfl⟩) (by exact ⟨_, _, rfl, hod, .nil, rfl⟩) ?_ ?_
    · rintro i v G₁ mu₁ m₁ h₂ tk₂ I oI hv ⟨o, fk, rfl, ho, hfk, e1⟩ gl hmu hI1 hI2 F₃
      have hId : I ≠ d2 := fun e => hI1 _ (.head _) e.symm
      obtain ⟨kd, ekd, tkd, rfl⟩ := (hkv _ _).get hv
      k_extra "kc_close"
      refine wpAny_For ?_
      k_extra "kc_close"
      rename LstG _ (nAddr _) _ => hnl
      rename All2 NmV _ (names _) => hna
      rename _ ∧ _ => hnlen
      rename Fm _ _ _ _ _ _ _ _ _ => FF
      refine for_enum (fun j G' mu' m' => ∃ o fk, mu' = [(I, oI), (d2, o)] ∧ o.IsDictOf (PySem.strKind pw w) fk ∧ All2 (FR w.params G') fk (preN i ++ (names kd).take j) ∧ m' "found" = some (.ref d2) ∧ m' "kind" = some (.str (kdStr kd) tkd)) FF hnl rm.1 (by exact ⟨_, _, rfl, ho, by rw [List.take_zero, List.append_nil]; exact hfk, by with_unfolding_all exact e1, rfl⟩) ?_ (fun i G' G'' mu' m' g ⟨o, fk, a, b, c, d⟩ => ⟨o, fk, a, b, c.mono fun _ _ => FR.mono g, d⟩) ?_
      · rintro j v T t G₂ mu₂ m₂ h₃ tk₃ J oJ J2 oJ2 hv ⟨o2, fk2, rfl, ho2, hfk2, c1, c2⟩ gl2 hmu2 hJ hJ2 hJJ hJ0 hJ20 hT _ F₄
        obtain ⟨n, en, tn, rfl⟩ := hna.get hv
        have hT' := hT _ (GLe.refl _)
        have j1 : J ≠ d2 := fun e => hJ _ (.tail _ (.head _)) e.symm
        have j2 : J2 ≠ d2 := fun e => hJ2 _ (.tail _ (.head _)) e.symm
        have hfl : fk2.length ≤ 64 := by rw [hfk2.length]; exact Nat.le_trans pre_len (by decide)
        k_extra "kc_close"
        walk_at "k_nil"
        rename InsF _ _ _ 507 _ => hins
        k_extra "kpf_close"
        refine ⟨_, rfl, _, _, rfl, hoD5, ?_, by with_unfolding_all exact c1, by with_unfolding_all exact c2⟩
        rw [stored_absent (valueAt_none_of_not_mem (by rw [FR_keys hfk2]; exact str_notin (pre_fresh ekd en))), take_snoc en, ← List.append_assoc]
        exact (hfk2.mono fun _ _ => FR.mono (by k_extra "ktr_room")).snoc ⟨rfl, infG_of (hins.mono (by k_extra "ktr_room")) (tag_at en) (ty_at ekd en)⟩
      · rintro h8 tk8 G8 mu8 m8 ⟨o2, fk2, rfl, ho2, hfk2, c1, c2⟩ gl8 hmu8 F8
        try dsimp only
        k_extra "kc_close"
        k_extra "kpf_close"
        refine ⟨_, _, rfl, ho2, ?_, by with_unfolding_all exact c1⟩
        rw [pre_snoc ekd]
        rw [hna.length, List.take_length] at hfk2
        exact hfk2
    · rintro h3 tk3 G3 mu3 m3 ⟨o, fk, rfl, ho, hfk, e1⟩ gl3 hmu3 F3
      obtain ⟨F4, gl4, gs4⟩ := F3.settle2 hd0 (by simp)
      clear F3
      k_extra "kc_close"
      obtain ⟨z1, z2⟩ := FR_zip hfk
      refine h _ _ _ _ (Fm.done F4 nL) ⟨_, z2.mono fun _ _ => InfG.mono gl4, lod, _, gs4, ?_⟩
      exact z1 ▸ ho)) only [↓und])
end
end
theorem rgeW26 : True := by
  k_with "off:W26" => skip
  trivial
section
section
variable {w : World} {K : Frag} {H : Heap} {mg mb : Str → Option Value} {A : Around} {E : Value → Shared → Prop} {s : Shared} {G : Gr}
  {wr : List Addr} {G₀ : Gr} {h₀ : Heap} {L : Addr} {mu : List (Addr × Obj)} {m : Str → Option Value}
theorem all_t {n : Nat} : ((List.range n).all fun _ => true) = true := List.all_eq_true.mpr fun _ _ => rfl
theorem eqat_true {l b : Addr} (h : SeqAt.RcAt A s (.ref l) (.ref b) true) : SeqAt.EqAt A s (.ref l) (.ref b) true := by
  by_cases q : l = b
  · subst q; exact SeqAt.EqAt.same _
  · exact SeqAt.EqAt.of_refs q h
theorem str1_eq {A : Around} {s : Shared} {x y : Value} {c : C1} (hx : Str1 x c) (hy : Str1 y c) : SeqAt.EqAt A s x y true := by
  obtain ⟨t, rfl⟩ := hx
  obtain ⟨u, rfl⟩ := hy
  have : SeqAt.EqAt A s (.str (c1Str c) t) (.str (c1Str c) u) (c1Str c == c1Str c) := SeqAt.EqAt.str_str _ _ _ _
  rwa [beq_self_eq_true] at this
theorem units_in1 {A : Around} : A.in1.units ≤ A.units + 9 := by unfold Around.in1; dsimp only; omega
theorem wd_eq {A : Around} {s : Shared} {G : Gr} {x y : Value} {c : Cell} (g : GIn G s.heap) (hu : A.units < cLine) (hx : WdV G x c) (hy : WdV G y c) : SeqAt.EqAt A s x y true := by
  cases c with
  | s c => exact str1_eq hx hy
  | p a b =>
    obtain ⟨T, x0, x1, rfl, hT, h0, h1⟩ := hx
    obtain ⟨U, y0, y1, rfl, hU, k0, k1⟩ := hy
    refine eqat_true ?_
    have := SeqAt.RcAt.tuples (A := A) (s := s) (e := fun _ => true) (hT.at g) (hU.at g) hu (fun j j1 j2 => by
      rcases (by simp at j1; omega : j = 0 ∨ j = 1) with rfl | rfl
      · exact str1_eq h0 k0
      · exact str1_eq h1 k1)
    rw [all_t] at this
    exact this
theorem ne_words {x y : Value} {o : Option (List Cell)} {Q : Value → Shared → Prop} (F : Fm H wr G₀ h₀ L G mu s.heap m) (rm : Room A 2) (hx : WordsG G x o) (hy : WordsG G y o) (q : Q (.bool false) s) : wpAny (model pw w) A (compareOp .NotEq x y) Q E s := by
  cases o with
  | none =>
    change x = .none at hx
    change y = .none at hy
    subst hx; subst hy
    exact PySem.EqNone.ne_none_none q
  | some cs =>
    obtain ⟨l, vs, rfl, hl, ha⟩ := hx
    obtain ⟨b, us, rfl, hb, hu⟩ := hy
    have hl2 : vs.length = us.length := ha.length.trans hu.length.symm
    have h1 := rm.2.2
    have h2 := units_in1 (A := A)
    refine PySem.EqBoolInt.of_rcne (SeqAt.RcNeAt.lists (e := fun _ => true) (hl.at F.inn) (hb.at F.inn) (by simpa using hl2) rm.units (fun j j1 j2 => ?_)) ?_
    · have e1 : vs[j]? = some vs.toArray[j] := by simp at j1 ⊢
      have e2 : us[j]? = some us.toArray[j] := by simp at j2 ⊢
      obtain ⟨c, ec, hc⟩ := ha.get e1
      obtain ⟨d, ed, hd⟩ := hu.get e2
      rw [ec] at ed; cases ed
      exact wd_eq F.inn (by rw [cLine_is]; omega) hc hd
    · rw [all_t]; exact q
theorem int_eq {A : Around} {s : Shared} {x y : Value} {c : Nat} (hx : IntV x c) (hy : IntV y c) : SeqAt.EqAt A s x y true := by
  obtain ⟨t, rfl⟩ := hx
  obtain ⟨u, rfl⟩ := hy
  have : SeqAt.EqAt A s (.int (c : Int) t) (.int (c : Int) u) ((c : Int) == (c : Int)) := SeqAt.EqAt.int_int _ _ _ _
  rwa [beq_self_eq_true] at this
theorem at_pair {xs ys : List Value} {ns : List Nat} (hx : All2 IntV xs ns) (hy : All2 IntV ys ns) (j : Nat) (j1 : j < xs.toArray.size) (j2 : j < ys.toArray.size) : SeqAt.EqAt A s xs.toArray[j] ys.toArray[j] true := by
  have e1 : xs[j]? = some xs.toArray[j] := by simp at j1 ⊢
  have e2 : ys[j]? = some ys.toArray[j] := by simp at j2 ⊢
  obtain ⟨c, ec, hc⟩ := hx.get e1
  obtain ⟨d, ed, hd⟩ := hy.get e2
  rw [ec] at ed; cases ed
  exact int_eq hc hd
theorem ne_ints {l b : Addr} {xs ys : List Value} {ns : List Nat} {Q : Value → Shared → Prop} (F : Fm H wr G₀ h₀ L G mu s.heap m) (rm : Room A 2) (hl : LstG G l xs) (hb : LstG G b ys) (hx : All2 IntV xs ns) (hy : All2 IntV ys ns) (q : Q (.bool false) s) : wpAny (model pw w) A (compareOp .NotEq (.ref l) (.ref b)) Q E s :=
  PySem.EqBoolInt.of_rcne (SeqAt.RcNeAt.lists (e := fun _ => true) (hl.at F.inn) (hb.at F.inn) (by simpa using hx.length.trans hy.length.symm) rm.units fun j j1 j2 => at_pair hx hy j j1 j2) (by rw [all_t]; exact q)
theorem eq_intsL {l b : Addr} {xs ys : List Value} {ns : List Nat} {Q : Value → Shared → Prop} (F : Fm H wr G₀ h₀ L G mu s.heap m) (rm : Room A 2) (hl : LstG G l xs) (hb : LstG G b ys) (hx : All2 IntV xs ns) (hy : All2 IntV ys ns) (q : Q (.bool true) s) : wpAny (model pw w) A (compareOp .Eq (.ref l) (.ref b)) Q E s :=
  SeqAt.eq_listAt (e := fun _ => true) (hl.at F.inn) (hb.at F.inn) (by simpa using hx.length.trans hy.length.symm) rm.units (fun j j1 j2 => at_pair hx hy j j1 j2) (by rw [all_t]; exact q)
theorem c_useless3 {rl d fa : Addr} {ks : List Kd} {M : List (List Cell)} {fs : List Nat} {Q : Value → Shared → Prop} (B : Bs w K H mg mb) (k : KOk K) (kn : KNm K) (hN : wtL ks ≤ 60) (rm : Room A 140) (hH : HLe H G) (hG : GIn G s.heap)
    (hrv : MatG w.params G (.ref rl) M) (hd : ConsG w G d) (hfa : FallG G (.ref fa) fs) (hT : MatT ks M) (hM : M.length ≤ 64)
    (h : ∀ x ys G' h' tk', Went [] G s.heap G' h' → LstG G' x ys → All2 IntV ys (uselessL ks M fs M.length) → Q (.ref x) { s with heap := h', toks := tk' }) :
    wpAny (model pw w) A (call (.ref 490) [.ref rl, .ref d, .ref fa]) Q E s := by
  obtain ⟨o5, n5, ho5, hc5, hd5⟩ := seqAt_of k.d485
  refine useless_of B k kn hN rm hH hG hrv hd hfa hT hM (fun t e kV doc pm an cdv ct => ?_) h
  conv at e => (rhs; whnf)
  subst e
  exact binds_K (B.kin.keeps fun b o e => hG b o (hH b o e)) (by rfl) ho5 hd5 (by rfl) (by rfl)
theorem c_useless2 {rl d : Addr} {ks : List Kd} {M : List (List Cell)} {Q : Value → Shared → Prop} (B : Bs w K H mg mb) (k : KOk K) (kn : KNm K) (hN : wtL ks ≤ 60) (rm : Room A 140) (hH : HLe H G) (hG : GIn G s.heap)
    (hrv : MatG w.params G (.ref rl) M) (hd : ConsG w G d) (hT : MatT ks M) (hM : M.length ≤ 64)
    (h : ∀ x ys G' h' tk', Went [] G s.heap G' h' → LstG G' x ys → All2 IntV ys (uselessL ks M [] M.length) → Q (.ref x) { s with heap := h', toks := tk' }) :
    wpAny (model pw w) A (call (.ref 490) [.ref rl, .ref d]) Q E s := by
  obtain ⟨o4, n4, ho4, hc4, hd4⟩ := seqAt_of k.d484
  obtain ⟨o5, n5, ho5, hc5, hd5⟩ := seqAt_of k.d485
  refine useless_of (fs := []) (fa := 484) B k kn hN rm hH hG hrv hd ⟨484, [], rfl, .inr ⟨o4, hH _ _ (B.kin _ _ ho4), hc4, n4, hd4⟩, .nil⟩ hT hM (fun t e kV doc pm an cdv ct => ?_) h
  conv at e => (rhs; whnf)
  subst e
  exact binds_K (B.kin.keeps fun b o e => hG b o (hH b o e)) (by rfl) ho5 hd5 (by rfl) (by rfl)
end
end
section
noncomputable def M1 : List (List Cell) := [[.p (.a .F) .w]]
noncomputable def M2 : List (List Cell) := [[.s .w], [.s (.a .F)], [.s (.a .U)], [.s .w]]
theorem m1T : MatT [.P] M1 := by
  intro r hr
  cases List.mem_singleton.mp hr
  exact ⟨.cons (.p0 (by decide)) .nil, by simp [One, plainC]⟩
theorem m2T : MatT [.B] M2 := by
  intro r hr
  simp only [M2, List.mem_cons, List.not_mem_nil, or_false] at hr
  rcases hr with rfl | rfl | rfl | rfl
  · exact ⟨.cons .w .nil, by simp [One, plainC]⟩
  · exact ⟨.cons (.a (by decide) (by decide)) .nil, by simp [One, plainC]⟩
  · exact ⟨.cons (.a (by decide) (by decide)) .nil, by simp [One, plainC]⟩
  · exact ⟨.cons .w .nil, by simp [One, plainC]⟩
theorem m3T : MatT [.B] (M2.drop 1) := fun r hr => m2T r (List.mem_of_mem_drop hr)
theorem due1 : dueU [.P] M1 = some [.p (.a .U) .w] := by decide +kernel
theorem due3 : dueU [.B] (M2.drop 1) = none := by decide +kernel
theorem use1 : uselessL [.B] M2 [0] M2.length = [3] := by decide +kernel
theorem use2 : uselessL [.B] M2 [] M2.length = [1, 2, 3] := by decide +kernel
end
section
section
variable {w : World} {K : Frag} {H : Heap} {mg mb : Str → Option Value} {A : Around} {E : Value → Shared → Prop} {s : Shared} {G : Gr}
  {wr : List Addr} {G₀ : Gr} {h₀ : Heap} {L : Addr} {mu : List (Addr × Obj)} {m : Str → Option Value}
theorem c_troughF {l : Addr} {vs : List Value} {ns : List Int} {Q : Value → Shared → Prop} (B : Bs w K H mg mb) (k : KOk K) (rm : Room A 1) (F : Fm H wr G₀ h₀ L G mu s.heap m) (hl : LstG G l vs) (hI : IntsAre vs ns)
    (h : ∀ tr o G' h' tk', GLe G G' → h₀.get? tr = none → (∀ p ∈ mu, p.1 ≠ tr) → TrO o → Fm H wr G₀ h₀ L G' ((tr, o) :: mu) h' m → Q (.ref tr) { s with heap := h', toks := tk' }) :
    wpAny (model pw w) A (call (.ref 522) [.ref l]) Q E s :=
  c_trough B k rm F.top F.inn hl hI fun tr o G' h' tk' W n e g ho =>
    h tr o G' h' tk' W.sub (F.fresh0 n) (F.freshM n) ho ((F.call W).addMu e (F.freshL n) g)
theorem c_rowF {tr kl : Addr} {o : Obj} {kvs : List Value} {ks : List Kd} {Q : Value → Shared → Prop} (B : Bs w K H mg mb) (k : KOk K) (hgl : nsIn K mainGlobals (Str.ofString "_law_names") = some (some (.ref 512))) (ln : LN w G) (rm : Room A 7)
    (F : Fm H wr G₀ h₀ L G mu s.heap m) (hm : (tr, o) ∈ mu) (ho : TrO o) (hw : tr ∈ wr ∨ h₀.get? tr = none) (hkl : LstG G kl kvs) (hks : All2 KdV kvs ks) (hk0 : 1 ≤ ks.length) (hk64 : ks.length ≤ 60)
    (h : ∀ v o' G' h' tk', GLe G G' → TrO o' → (∃ sh, ShpOK ks sh ∧ ShpG w.params G' v sh) → Fm H wr G₀ h₀ L G' (setMu tr o' mu) h' m → Q v { s with heap := h', toks := tk' }) :
    wpAny (model pw w) A (call (.ref 555) [.ref tr, .ref kl]) Q E s :=
  c_row B k hgl ln rm F.top F.inn (F.mus _ hm).1 (F.mus _ hm).2.2 ho hkl hks hk0 hk64 fun v o' G' h' tk' W e1 e2 e3 => h v o' G' h' tk' W.sub e2 e3 (F.callW W hm e1 hw)
theorem sub_btp {value slice : Expr} {r : Nat} {t u : Tok} {Q : Value → Shared → Prop} (hr : r < 3) (h : ∀ k t', Q (.str (kdStr k) t') { s with toks := s.toks + 1 })
    (hs : subscripted slice false (.str (Str.ofString "BTP") t) (.int (r : Int) u) = operate [.str (Str.ofString "BTP") t, .int (r : Int) u] (getItem (.str (Str.ofString "BTP") t) (.int (r : Int) u)) := by with_unfolding_all rfl) :
    wpAny (model pw w) A (subscriptTail value slice (.str (Str.ofString "BTP") t) (.int (r : Int) u)) Q E s := by
  refine tail_any (typeIs_str s _ t) F.slot_str_getitem.lookup ?_ hs
  rcases (by omega : r = 0 ∨ r = 1 ∨ r = 2) with rfl | rfl | rfl
  · exact P.getItem_str (c := 66) (by decide) (by decide +kernel) (h .B _)
  · exact P.getItem_str (c := 84) (by decide) (by decide +kernel) (h .T _)
  · exact P.getItem_str (c := 80) (by decide) (by decide +kernel) (h .P _)
end
end
section
theorem wilds_plain {ks : List Kd} : (wilds ks).all plainC = true := by
  induction ks with
  | nil => rfl
  | cons k ks ih => exact ih
theorem wilds_T {ks : List Kd} : All2 CellT ks (wilds ks) := by
  induction ks with
  | nil => exact .nil
  | cons k ks ih => exact .cons .w ih
theorem cellOf_T {k : Kd} {p : Nat} {n : Nm} (hn : n ∈ names k) (hp : p < parts k) : CellT k (cellOf k p n) := by
  cases k with
  | B | T => exact .a (by decide) hn
  | P =>
    match p, hp with
    | 0, _ => exact .p0 hn
    | 1, _ => exact .p1 hn
theorem cellOf_plain {k : Kd} {p : Nat} {n : Nm} : plainC (cellOf k p n) = false := by
  cases k with
  | B | T => rfl
  | P => cases p <;> rfl
theorem set_T {ks : List Kd} {r : List Cell} {x : Cell} {k : Kd} (h : All2 CellT ks r) : ∀ {c : Nat}, ks[c]? = some k → CellT k x → All2 CellT ks (r.set c x) := by
  induction h with
  | nil => intro c e; simp at e
  | cons a t ih =>
    intro c e hx
    cases c with
    | zero => simp at e; subst e; exact .cons hx t
    | succ c => exact .cons a (ih (by simpa using e) hx)
theorem set_One {ks : List Kd} {x : Cell} : ∀ {c : Nat}, One ((wilds ks).set c x) := by
  induction ks with
  | nil => intro c; trivial
  | cons k ks ih =>
    intro c
    cases c with
    | zero =>
      show One (x :: wilds ks)
      unfold One
      split
      · exact One.plain wilds_plain
      · exact wilds_plain
    | succ c =>
      show One (.s .w :: (wilds ks).set c x)
      unfold One
      rw [if_pos (show plainC (.s .w) = true from rfl)]; exact ih
theorem shp_matT {ks : List Kd} {shs : List Shp} (h : ∀ sh ∈ shs, ShpOK ks sh) : MatT ks (shs.map (·.r)) := by
  intro r hr
  obtain ⟨sh, hsh, rfl⟩ := List.mem_map.mp hr
  have := h sh hsh
  unfold ShpOK at this
  split at this
  · rw [this]; exact ⟨wilds_T, One.plain wilds_plain⟩
  · obtain ⟨k, e1, e2, e3, e4⟩ := this
    rw [e4]
    exact ⟨set_T wilds_T e1 (cellOf_T e2 e3), set_One⟩
theorem head_wild {ks : List Kd} : ∀ {c : Nat}, headC ((wilds ks).drop c) = .s .w := by
  induction ks with
  | nil => intro c; cases c <;> rfl
  | cons k ks ih =>
    intro c
    cases c with
    | zero => rfl
    | succ c => exact ih
theorem head_set {ks : List Kd} {x : Cell} {k : Kd} : ∀ {c c' : Nat}, ks[c]? = some k → headC (((wilds ks).set c x).drop c') = if c = c' then x else .s .w := by
  induction ks with
  | nil => intro c c' e; simp at e
  | cons k' ks ih =>
    intro c c' e
    cases c with
    | zero =>
      cases c' with
      | zero => rfl
      | succ c' => exact head_wild
    | succ c =>
      cases c' with
      | zero => rfl
      | succ c' =>
        have := ih (c := c) (c' := c') (by simpa using e)
        rw [show (if c + 1 = c' + 1 then x else Cell.s .w) = if c = c' then x else Cell.s .w by simp]
        exact this
theorem asked_drop {f : Cell → Option Nm} {shs : List Shp} {c : Nat} : asked f ((shs.map (·.r)).map (List.drop c)) = shs.filterMap fun sh => f (headC (sh.r.drop c)) := by
  simp only [asked, List.map_map, List.filterMap_map]; rfl
theorem fm_congr {α β : Type} {f g : α → Option β} {l : List α} (h : ∀ a ∈ l, f a = g a) : l.filterMap f = l.filterMap g := by
  induction l with
  | nil => rfl
  | cons a l ih => rw [List.filterMap_cons, List.filterMap_cons, h a (.head _), ih fun b hb => h b (.tail _ hb)]
theorem ask0_of {k : Kd} {p : Nat} {n : Nm} (hp : p < parts k) : ask0 (cellOf k p n) = if p = 0 then some n else none := by
  cases k with
  | B | T => have : p = 0 := Nat.lt_one_iff.mp hp
             subst this; rfl
  | P => match p, hp with
    | 0, _ => rfl
    | 1, _ => rfl
theorem ask1_of {k : Kd} {p : Nat} {n : Nm} (hp : p < parts k) : ask1 (cellOf k p n) = if p = 1 then some n else none := by
  cases k with
  | B | T => have : p = 0 := Nat.lt_one_iff.mp hp
             subst this; rfl
  | P => match p, hp with
    | 0, _ => rfl
    | 1, _ => rfl
theorem asked0_eq {ks : List Kd} {shs : List Shp} {c : Nat} (h : ∀ sh ∈ shs, ShpOK ks sh) : asked ask0 ((shs.map (·.r)).map (List.drop c)) = askedS shs c 0 := by
  rw [asked_drop]
  refine fm_congr fun sh hsh => ?_
  have := h sh hsh
  unfold ShpOK at this
  split at this
  · rename_i e; rw [this, e, head_wild]; simp [ask0]
  · rename_i c' p' e
    obtain ⟨k, e1, e2, e3, e4⟩ := this
    rw [e4, e, head_set e1]
    by_cases q : c' = c
    · subst q; rw [if_pos rfl, ask0_of e3]; simp
    · rw [if_neg q]; simp [ask0, q]
theorem asked1_eq {ks : List Kd} {shs : List Shp} {c : Nat} (h : ∀ sh ∈ shs, ShpOK ks sh) : asked ask1 ((shs.map (·.r)).map (List.drop c)) = askedS shs c 1 := by
  rw [asked_drop]
  refine fm_congr fun sh hsh => ?_
  have := h sh hsh
  unfold ShpOK at this
  split at this
  · rename_i e; rw [this, e, head_wild]; simp [ask1]
  · rename_i c' p' e
    obtain ⟨k, e1, e2, e3, e4⟩ := this
    rw [e4, e, head_set e1]
    by_cases q : c' = c
    · subst q; rw [if_pos rfl, ask1_of e3]; simp
    · rw [if_neg q]; simp [ask1, q]
theorem full_eq {ks : List Kd} {shs : List Shp} {c : Nat} {k : Kd} (h : ∀ sh ∈ shs, ShpOK ks sh) : full k ((shs.map (·.r)).map (List.drop c)) = fullC shs c k := by
  cases k with
  | B | T => simp only [full, asked0_eq h]; simp [fullC, fullS, parts]
  | P => simp only [full, asked0_eq h, asked1_eq h]; simp [fullC, fullS, parts, List.range_succ]
theorem col_eq {ks : List Kd} {shs : List Shp} {c : Nat} {k : Kd} (h : ∀ sh ∈ shs, ShpOK ks sh) : colC k ((shs.map (·.r)).map (List.drop c)) = colS shs k c := by
  cases k with
  | B | T => simp only [colC, asked0_eq h]; rfl
  | P => simp only [colC, asked0_eq h, asked1_eq h]; rfl
theorem tail_drop {M : List (List Cell)} {c : Nat} : (M.map (List.drop c)).map List.tail = M.map (List.drop (c + 1)) := by
  simp only [List.map_map]; congr 1; funext r; simp
theorem any_eq {ks : List Kd} {shs : List Shp} (h : ∀ sh ∈ shs, ShpOK ks sh) (ks2 : List Kd) : ∀ c, anyFull ks2 ((shs.map (·.r)).map (List.drop c)) = (List.range ks2.length).any fun j => match ks2[j]? with
    | some k => fullC shs (c + j) k
    | none => false := by
  induction ks2 with
  | nil => intro c; rfl
  | cons k ks2 ih =>
    intro c
    rw [List.length_cons, List.range_succ_eq_map, List.any_cons, List.any_map]
    simp only [anyFull, full_eq h, tail_drop, ih (c + 1)]
    congr 1
    congr 1; funext j
    simp [Nat.add_assoc, Nat.add_comm 1 j]
theorem cols_eq {ks : List Kd} {shs : List Shp} (h : ∀ sh ∈ shs, ShpOK ks sh) (ks2 : List Kd) : ∀ c, cols ks2 ((shs.map (·.r)).map (List.drop c)) = (List.range ks2.length).map fun j => match ks2[j]? with
    | some k => colS shs k (c + j)
    | none => .s .w := by
  induction ks2 with
  | nil => intro c; rfl
  | cons k ks2 ih =>
    intro c
    show colC k _ :: cols ks2 _ = _
    rw [col_eq h, tail_drop, ih (c + 1), List.length_cons, List.range_succ_eq_map, List.map_cons, List.map_map]
    congr 1
    refine List.map_congr_left fun j _ => ?_
    simp [Nat.add_assoc, Nat.add_comm 1 j]
theorem drop0 {M : List (List Cell)} : M.map (List.drop 0) = M := by
  induction M with
  | nil => rfl
  | cons r M ih => rw [List.map_cons, ih]; rfl
theorem any_all {ks : List Kd} {shs : List Shp} (h : ∀ sh ∈ shs, ShpOK ks sh) : anyFull ks (shs.map (·.r)) = anyS ks shs := by
  have := any_eq h ks 0
  rw [drop0] at this
  rw [this]; unfold anyS
  refine congrArg (List.any (List.range ks.length)) (funext fun j => ?_)
  rw [Nat.zero_add]
  try (cases ks[j]? <;> rfl)
theorem cols_all {ks : List Kd} {shs : List Shp} (h : ∀ sh ∈ shs, ShpOK ks sh) : cols ks (shs.map (·.r)) = colsS ks shs ks.length := by
  have := cols_eq h ks 0
  rw [drop0] at this
  rw [this]; unfold colsS
  refine List.map_congr_left fun j _ => ?_
  rw [Nat.zero_add]
  try (cases ks[j]? <;> rfl)
theorem set_plain {ks : List Kd} {x : Cell} {k : Kd} (hx : plainC x = false) : ∀ {c : Nat}, ks[c]? = some k → ((wilds ks).set c x).all plainC = false := by
  induction ks with
  | nil => intro c e; simp at e
  | cons k' ks ih =>
    intro c e
    cases c with
    | zero => show (plainC x && _) = false; rw [hx]; rfl
    | succ c => show (plainC (.s .w) && ((wilds ks).set c x).all plainC) = false; rw [ih (by simpa using e)]; rfl
theorem plain_eq {ks : List Kd} {shs : List Shp} (h : ∀ sh ∈ shs, ShpOK ks sh) : hasPlain (shs.map (·.r)) = noneS shs := by
  unfold hasPlain noneS
  rw [List.any_map]
  have : ∀ sh ∈ shs, ((fun r : List Cell => r.all plainC) ∘ fun x : Shp => x.r) sh = sh.pl.isNone := by
    intro sh hsh
    have := h sh hsh
    unfold ShpOK at this
    split at this
    · rename_i e; show sh.r.all plainC = _; rw [this, e, wilds_plain]; rfl
    · rename_i c' p' e
      obtain ⟨k, e1, e2, e3, e4⟩ := this
      show sh.r.all plainC = _; rw [e4, e, set_plain cellOf_plain e1]; rfl
  clear h
  induction shs with
  | nil => rfl
  | cons a l ih => rw [List.any_cons, List.any_cons, this a (.head _), ih fun b hb => this b (.tail _ hb)]
theorem takes_eq {ks : List Kd} {shs : List Shp} (h : ∀ sh ∈ shs, ShpOK ks sh) : (hasPlain (shs.map (·.r)) || anyFull ks (shs.map (·.r))) = takesS ks shs := by
  rw [plain_eq h, any_all h, Bool.or_comm]; rfl
theorem clash_set {x : Cell} {k : Kd} : ∀ {c : Nat} {ks : List Kd} {M : List (List Cell)}, ks[c]? = some k → clash ((wilds ks).set c x) M = (clash1 ask0 x (M.map (List.drop c)) || clash1 ask1 x (M.map (List.drop c))) := by
  intro c
  induction c with
  | zero =>
    intro ks M e
    cases ks with
    | nil => simp at e
    | cons k' ks =>
      show clash (x :: wilds ks) M = _
      rw [drop0]
      simp only [clash, clash_plain wilds_plain, Bool.or_false]
  | succ c ih =>
    intro ks M e
    cases ks with
    | nil => simp at e
    | cons k' ks =>
      show clash (.s .w :: (wilds ks).set c x) M = _
      have e2 : (M.map List.tail).map (List.drop c) = M.map (List.drop (c + 1)) := by
        simp only [List.map_map]; congr 1; funext r; simp
      simp only [clash, clash1, ask0, ask1, Bool.false_or]
      rw [ih (by simpa using e), e2]; rfl
theorem clash_eq {ks : List Kd} {shs : List Shp} {sh : Shp} (h : ∀ sh ∈ shs, ShpOK ks sh) (h1 : ShpOK ks sh) : clash sh.r (shs.map (·.r)) = clashS shs sh := by
  unfold ShpOK at h1
  unfold clashS
  cases e : sh.pl with
  | none =>
    rw [e] at h1
    have h2 : sh.r = wilds ks := h1
    rw [h2]; exact clash_plain wilds_plain
  | some cp =>
    obtain ⟨c', p'⟩ := cp
    rw [e] at h1
    obtain ⟨k, e1, e2, e3, e4⟩ := h1
    rw [e4, clash_set e1]
    unfold clash1
    rw [ask0_of e3, ask1_of e3, asked0_eq h, asked1_eq h]
    have hp : p' = 0 ∨ p' = 1 := by have : parts k ≤ 2 := by cases k <;> decide
                                    omega
    rcases hp with rfl | rfl <;> simp
theorem due_eq {ks : List Kd} {shs : List Shp} (h : ∀ sh ∈ shs, ShpOK ks sh) (_hk : 1 ≤ ks.length) : dueU ks (shs.map (·.r)) = dueS ks shs := by
  cases shs with
  | nil => rfl
  | cons a l =>
    show (if (hasPlain ((a :: l).map (·.r)) || anyFull ks ((a :: l).map (·.r))) = true then none else some (cols ks ((a :: l).map (·.r)))) = if takesS ks (a :: l) = true then none else some (colsS ks (a :: l) ks.length)
    rw [takes_eq h, cols_all h]
theorem ahead_map {α β : Type} {f : α → β} {fs : List Nat} {M : List α} {n : Nat} : aheadOf fs (M.map f) n = (aheadOf fs M n).map f := by
  unfold aheadOf
  rw [List.map_filterMap]
  refine fm_congr fun i _ => ?_
  simp
theorem useless_eq {ks : List Kd} {shs : List Shp} {fs : List Nat} (h : ∀ sh ∈ shs, ShpOK ks sh) (_hk : 1 ≤ ks.length) : uselessL ks (shs.map (·.r)) fs shs.length = uselessS ks shs fs shs.length := by
  unfold uselessL uselessS
  refine List.filter_congr fun i hi => ?_
  have hi := List.mem_range.mp hi
  have hs : shs[i]? = some shs[i] := List.getElem?_eq_getElem hi
  have ha : ∀ sh ∈ aheadOf fs shs i, ShpOK ks sh := fun sh hsh => h sh (by
    obtain ⟨j, _, e⟩ := List.mem_filterMap.mp hsh
    exact List.mem_of_getElem? e)
  have hg : (shs.map (·.r)).getD i [] = shs[i].r := by
    rw [List.getD_eq_getElem?_getD, List.getElem?_map, hs]; rfl
  rw [hg, ahead_map, hs]
  show (!(!(hasPlain ((aheadOf fs shs i).map (·.r)) || anyFull ks ((aheadOf fs shs i).map (·.r)) || clash shs[i].r ((aheadOf fs shs i).map (·.r))))) = (takesS ks (aheadOf fs shs i) || clashS (aheadOf fs shs i) shs[i])
  rw [Bool.not_not, takes_eq ha, clash_eq ha (h _ (List.getElem_mem hi))]
theorem dueU_len {ks : List Kd} {M : List (List Cell)} {cs : List Cell} (h : dueU ks M = some cs) : cs.length ≤ ks.length := by
  cases M with
  | nil => cases h; simp
  | cons r M => rw [due_len (show due ks (r :: M) = some cs from h)]; exact Nat.le_refl _
theorem wt_three {ks : List Kd} : wtL ks ≤ 3 * ks.length := by
  induction ks with
  | nil => simp [wtL]
  | cons k ks ih => rw [wtL_cons, List.length_cons]; have : wt k ≤ 3 := by cases k <;> decide
                    omega
end
section
section
variable {w : World} {K : Frag} {H : Heap} {mg mb : Str → Option Value} {A : Around} {E : Value → Shared → Prop} {s : Shared} {G : Gr}
theorem rgoW2755 : True := by
  k_with "call ref" => (((with_reducible show wpAny _ _ (call (Value.ref 536) _) _ _ _); (rename Fm _ _ _ _ _ _ _ _ _ => FF'); refine c_cons (by assumption) (by assumption) (by assumption) (by (first | assumption | (refine LN.mono ?_ (by assumption); k_extra "ktr_room"))) (Room.deeper (Room.le (by assumption) (by first | exact Nat.le_of_ble_eq_true rfl | exact rm_lit | omega))) (Fm.top FF') (Fm.inn FF') ?_; intro dS' gS' hS' tS' WS' cS'; (have glS := Went.sub WS'); (have FS' := Fm.call FF' WS'); clear FF'))
  trivial
theorem rgoW2756 : True := by
  k_with "call ref" => (((with_reducible show wpAny _ _ (call (Value.ref 570) _) _ _ _); (rename Fm _ _ _ _ _ _ _ _ _ => FF'); refine c_due (by assumption) (by assumption) (by assumption) (by (first | assumption | (refine LN.mono ?_ (by assumption); k_extra "ktr_room"))) (Room.deeper (Room.le (by assumption) (by first | exact Nat.le_of_ble_eq_true rfl | exact rm_lit | omega))) (Fm.top FF') (Fm.inn FF') (by k_extra "ktr_rel") (by (first | assumption | (refine All2.mono (fun _ _ => ShpG.mono ?_) (by assumption); k_extra "ktr_room"))) (by assumption) (by k_extra "ktr_rel") (by assumption) (by assumption) ?_; intro xS' gS' hS' tS' WS' wS'; (have glS := Went.sub WS'); (have FS' := Fm.call FF' WS'); clear FF'))
  trivial
theorem rgoW2757 : True := by
  k_with "call ref" => (((with_reducible show wpAny _ _ (call (Value.ref 585) _) _ _ _); (rename Fm _ _ _ _ _ _ _ _ _ => FF'); refine c_useless_law (by assumption) (by assumption) (by assumption) (by (first | assumption | (refine LN.mono ?_ (by assumption); k_extra "ktr_room"))) (Room.deeper (Room.le (by assumption) (by first | exact Nat.le_of_ble_eq_true rfl | exact rm_lit | omega))) (Fm.top FF') (Fm.inn FF') (by k_extra "ktr_rel") (by (first | assumption | (refine All2.mono (fun _ _ => ShpG.mono ?_) (by assumption); k_extra "ktr_room"))) (by assumption) (by k_extra "ktr_rel") (by assumption) (by assumption) (by (first | assumption | (refine FallG.mono ?_ (by assumption); k_extra "ktr_room"))) ?_; intro xS' ysS' gS' hS' tS' WS' lS' iS'; (have glS := Went.sub WS'); (have FS' := Fm.call FF' WS'); clear FF'))
  trivial
theorem rgpW2758 : True := by
  k_with "compareOp NotIn int ref" => ((fail_if_success (k_extra "off:W27")); k_extra "W27:compareOp NotIn int ref")
  trivial
theorem rgoW2758 : True := by
  k_with "W27:compareOp NotIn int ref" => (refine nin_fall (by assumption) (by (first | assumption | (refine FallG.mono ?_ (by assumption); k_extra "ktr_room"))) ?_)
  trivial
theorem rgpW2759 : True := by
  k_with "storeName" => ((fail_if_success (k_extra "off:W27")); k_extra "W27:storeName")
  trivial
theorem rgoW2759 : True := by
  k_with "W27:storeName" => (first | (with_unfolding_all refine st_local (by assumption) ?_; intro hS FS) | (with_unfolding_all refine st_cell (by assumption) (by rfl) (by k_extra "kt_at_in") (by assumption) (by first | assumption | exact .inr (by assumption)) ?_; intro hS5 oS5 FS5 hoS5; (try simp (disch := assumption) only [setMu_head, setMu_nil, setMu_skip] at FS5)))
  trivial
theorem rgoW2760 : True := by
  k_with "call ref" => (((with_reducible show wpAny _ _ (call (Value.ref 529) _) _ _ _); (rename Fm _ _ _ _ _ _ _ _ _ => FF); refine c_ladleF (by assumption) (by assumption) (Room.deeper (Room.le (by assumption) (by first | exact Nat.le_of_ble_eq_true rfl | exact rm_lit | omega))) FF (by k_extra "kt_at_in") (by assumption) (by first | assumption | exact .inr (by assumption) | exact .inl (by simp)) (by first | decide | omega) (by first | decide | omega) ?_; intro r9 t9 o9 g9 h9 k9 gl9 tro9 lt9 FS9; clear FF; (try simp (disch := assumption) only [setMu_head, setMu_nil, setMu_skip] at FS9)))
  trivial
set_option maxHeartbeats 8000000 in
theorem c_law {l : Addr} {vs : List Value} {ns : List Int} {R : Result → Shared → Prop} (B : Bs w K H mg mb) (k : KOk K) (kn : KNm K) (hgl : nsIn K mainGlobals (Str.ofString "_law_names") = some (some (.ref 512))) (ln : LN w G) (rm : Room A 150) (hH : HLe H G) (hG : GIn G s.heap)
    (hl : LstG G l vs) (hI : IntsAre vs ns)
    (h : ∀ G' h' tk', Went [] G s.heap G' h' → R (.ok (.ret (.bool true))) { s with heap := h', toks := tk' }) :
    codeAny (model pw w) A (.call (.ref 590) ⟨[.ref l], []⟩) R s := dis (by
  simp (disch := k_dflt (
    refine dis ?_
    have hf := k.f590
    obtain ⟨td, e⟩ : ∃ t, t = topFd 55 := ⟨_, rfl⟩
    rw [← e] at hf
    conv at e => (rhs; whnf)
    subst e
    refine code_fnC (binds := [("script", .ref l)]) [] [] B hf hH hG rm.depth (by simp) (fun _ _ _ _ _ _ => BindsTo.of_eq (by rfl)) (by rfl) (by decide) ?_
    clear hf
    intro L h₁ tk₁ cdv cells nL hcn hap F hC
    obtain ⟨of, os, ok, ot, rfl, hof, hos, hok, hot⟩ := cells4 (n := "falls") (c := L + 1 + 1 + 1 + 1) (n' := "shapes") (c' := L + 1 + 1 + 1) (n'' := "kinds") (c'' := L + 1 + 1) (n4 := "trough") (c4 := L + 1) hC
    clear hC
    have hc4 : s.heap.get? (L + 1 + 1 + 1 + 1) = none := hcn _ (.head _)
    have hc3 : s.heap.get? (L + 1 + 1 + 1) = none := hcn _ (.tail _ (.head _))
    have hc2 : s.heap.get? (L + 1 + 1) = none := hcn _ (.tail _ (.tail _ (.head _)))
    have hc1 : s.heap.get? (L + 1) = none := hcn _ (.tail _ (.tail _ (.tail _ (.head _))))
    have q12 : L + 1 + 1 ≠ L + 1 := ad12 _
    have q13 : L + 1 + 1 + 1 ≠ L + 1 := ad13 _
    have q14 : L + 1 + 1 + 1 + 1 ≠ L + 1 := ad14 _
    have q23 : L + 1 + 1 + 1 ≠ L + 1 + 1 := ad12 _
    have q24 : L + 1 + 1 + 1 + 1 ≠ L + 1 + 1 := ad13 _
    have q34 : L + 1 + 1 + 1 + 1 ≠ L + 1 + 1 + 1 := ad12 _
    have q21 := Ne.symm q12
    have q31 := Ne.symm q13
    have q41 := Ne.symm q14
    have q32 := Ne.symm q23
    have q42 := Ne.symm q24
    have q43 := Ne.symm q34
    change Fm H [] G s.heap L G [(L + 1 + 1 + 1 + 1, of), (L + 1 + 1 + 1, os), (L + 1 + 1, ok), (L + 1, ot)] h₁ (fun y => if y = "script" then some (.ref l) else none) at F
    change of.data = .cell none at hof
    change os.data = .cell none at hos
    change ok.data = .cell none at hok
    change ot.data = .cell none at hot
    k_extra "kc_close"
    walk_at "k_nil"
    rename ConsG _ _ _ => hcons
    rename Fm _ _ _ _ _ _ _ _ _ => FF
    refine c_unmatched (ks := [.P]) (M := [[.p (.a .F) .w]]) B k kn (by decide) (Room.deeper (Room.le rm (by first | exact Nat.le_of_ble_eq_true rfl | exact rm_lit | omega))) (Fm.top FF) (Fm.inn FF) ⟨_, _, rfl, by k_extra "ktr_rel", .cons ⟨_, _, rfl, by k_extra "ktr_rel", .cons (Cel.tup ⟨_, _, by k_extra "ktr_rel", by k_extra "ktr_rel"⟩ (Simp.con (by decide) ⟨_, _, _, by k_extra "ktr_rel", by k_extra "ktr_rel"⟩) (Simp.wild (by k_extra "ktr_rel"))) .nil⟩ .nil⟩ (ConsG.mono (by k_extra "ktr_room") hcons) m1T (by decide) ?_
    intro x1 G1 h1 tk1 W1 hx1
    have gl1 := Went.sub W1
    have F1 := Fm.call FF W1
    clear FF
    rw [show dueU [.P] [[.p (.a .F) .w]] = some [.p (.a .U) .w] from due1] at hx1
    k_extra "kc_close"
    rename Fm _ _ _ _ _ _ _ _ _ => FF
    refine c_words B k (Room.deeper (Room.le rm (by first | exact Nat.le_of_ble_eq_true rfl | exact rm_lit | omega))) (Fm.top FF) (Fm.inn FF) hx1 (fun cs e => by cases e; decide) ?_
    intro x2 G2 h2 tk2 W2 hx2
    have gl2 := Went.sub W2
    have F2 := Fm.call FF W2
    clear FF
    k_extra "kc_close"
    rename _ = some (Obj.mk (Value.type "tuple") _ _ _) => hT0
    refine ne_words (by assumption) (Room.deeper (Room.le rm (by first | exact Nat.le_of_ble_eq_true rfl | exact rm_lit | omega))) (hx2.mono (by k_extra "ktr_room")) (o := some [.p (.a .U) .w]) ⟨_, _, rfl, by k_extra "ktr_rel", .cons ⟨_, _, _, rfl, TupG.mono ⟨_, hT0, rfl, _, rfl⟩ (by k_extra "ktr_room"), ⟨_, rfl⟩, ⟨_, rfl⟩⟩ .nil⟩ ?_
    clear hT0
    k_extra "kc_close"
    walk_at "k_nil"
    rename Fm _ _ _ _ _ _ _ _ _ => FF
    refine c_useless3 (ks := [.B]) (M := [[.s .w], [.s (.a .F)], [.s (.a .U)], [.s .w]]) (fs := [0]) B k kn (by decide) (Room.deeper (Room.le rm (by first | exact Nat.le_of_ble_eq_true rfl | exact rm_lit | omega))) (Fm.top FF) (Fm.inn FF)
      ⟨_, _, rfl, by k_extra "ktr_rel", .cons ⟨_, _, rfl, by k_extra "ktr_rel", .cons (.simp (.wild (by k_extra "ktr_rel"))) .nil⟩ (.cons ⟨_, _, rfl, by k_extra "ktr_rel", .cons (.simp (.con (by decide) ⟨_, _, _, by k_extra "ktr_rel", by k_extra "ktr_rel"⟩)) .nil⟩ (.cons ⟨_, _, rfl, by k_extra "ktr_rel", .cons (.simp (.con (by decide) ⟨_, _, _, by k_extra "ktr_rel", by k_extra "ktr_rel"⟩)) .nil⟩ (.cons ⟨_, _, rfl, by k_extra "ktr_rel", .cons (.simp (.wild (by k_extra "ktr_rel"))) .nil⟩ .nil)))⟩
      (ConsG.mono (by k_extra "ktr_room") hcons) ⟨_, _, rfl, .inl (by k_extra "ktr_rel"), .cons ⟨_, rfl⟩ .nil⟩ m2T (by decide) ?_
    intro x3 ys3 G3 h3 tk3 W3 hl3 ha3
    have gl3 := Went.sub W3
    have F3 := Fm.call FF W3
    clear FF
    have hb3 : All2 IntV ys3 [3] := use1 ▸ (show All2 IntV ys3 (uselessL [.B] M2 [0] M2.length) from ha3)
    clear ha3
    k_extra "kc_close"
    refine ne_ints (by assumption) (Room.deeper (Room.le rm (by first | exact Nat.le_of_ble_eq_true rfl | exact rm_lit | omega))) (LstG.mono hl3 (by k_extra "ktr_room")) (by k_extra "ktr_rel") hb3 (.cons ⟨_, rfl⟩ .nil) ?_
    k_extra "kc_close"
    rename Fm _ _ _ _ _ _ _ _ _ => FF
    refine c_useless2 (ks := [.B]) (M := [[.s .w], [.s (.a .F)], [.s (.a .U)], [.s .w]]) B k kn (by decide) (Room.deeper (Room.le rm (by first | exact Nat.le_of_ble_eq_true rfl | exact rm_lit | omega))) (Fm.top FF) (Fm.inn FF)
      ⟨_, _, rfl, by k_extra "ktr_rel", .cons ⟨_, _, rfl, by k_extra "ktr_rel", .cons (.simp (.wild (by k_extra "ktr_rel"))) .nil⟩ (.cons ⟨_, _, rfl, by k_extra "ktr_rel", .cons (.simp (.con (by decide) ⟨_, _, _, by k_extra "ktr_rel", by k_extra "ktr_rel"⟩)) .nil⟩ (.cons ⟨_, _, rfl, by k_extra "ktr_rel", .cons (.simp (.con (by decide) ⟨_, _, _, by k_extra "ktr_rel", by k_extra "ktr_rel"⟩)) .nil⟩ (.cons ⟨_, _, rfl, by k_extra "ktr_rel", .cons (.simp (.wild (by k_extra "ktr_rel"))) .nil⟩ .nil)))⟩
      (ConsG.mono (by k_extra "ktr_room") hcons) m2T (by decide) ?_
    intro x4 ys4 G4 h4 tk4 W4 hl4 ha4
    have gl4 := Went.sub W4
    have F4 := Fm.call FF W4
    clear FF
    have hb4 : All2 IntV ys4 [1, 2, 3] := use2 ▸ (show All2 IntV ys4 (uselessL [.B] M2 [] M2.length) from ha4)
    clear ha4
    k_extra "kc_close"
    refine ne_ints (by assumption) (Room.deeper (Room.le rm (by first | exact Nat.le_of_ble_eq_true rfl | exact rm_lit | omega))) (LstG.mono hl4 (by k_extra "ktr_room")) (by k_extra "ktr_rel") hb4 (.cons ⟨_, rfl⟩ (.cons ⟨_, rfl⟩ (.cons ⟨_, rfl⟩ .nil))) ?_
    k_extra "kc_close"
    rename Fm _ _ _ _ _ _ _ _ _ => FF
    refine c_unmatched (ks := [.B]) (M := [[.s (.a .F)], [.s (.a .U)], [.s .w]]) B k kn (by decide) (Room.deeper (Room.le rm (by first | exact Nat.le_of_ble_eq_true rfl | exact rm_lit | omega))) (Fm.top FF) (Fm.inn FF)
      ⟨_, _, rfl, by k_extra "ktr_rel", .cons ⟨_, _, rfl, by k_extra "ktr_rel", .cons (.simp (.con (by decide) ⟨_, _, _, by k_extra "ktr_rel", by k_extra "ktr_rel"⟩)) .nil⟩ (.cons ⟨_, _, rfl, by k_extra "ktr_rel", .cons (.simp (.con (by decide) ⟨_, _, _, by k_extra "ktr_rel", by k_extra "ktr_rel"⟩)) .nil⟩ (.cons ⟨_, _, rfl, by k_extra "ktr_rel", .cons (.simp (.wild (by k_extra "ktr_rel"))) .nil⟩ .nil))⟩
      (ConsG.mono (by k_extra "ktr_room") hcons) m3T (by decide) ?_
    intro x5 G5 h5 tk5 W5 hx5
    have gl5 := Went.sub W5
    have F5 := Fm.call FF W5
    clear FF
    have hx5 : x5 = .none := by
      have e : dueU [.B] [[.s (.a .F)], [.s (.a .U)], [.s .w]] = none := due3
      rw [e] at hx5; exact hx5
    subst hx5
    k_extra "kc_close"
    rename Fm _ _ _ _ _ _ _ _ _ => FF
    refine c_troughF B k (Room.deeper (Room.le rm (by first | exact Nat.le_of_ble_eq_true rfl | exact rm_lit | omega))) FF (LstG.mono hl (by k_extra "ktr_room")) hI ?_
    intro tr o G6 h6 tk6 gl6 htr0 htrm hTr F6
    clear FF
    have t4 : L + 1 + 1 + 1 + 1 ≠ tr := htrm _ (.head _)
    have t3 : L + 1 + 1 + 1 ≠ tr := htrm _ (.tail _ (.head _))
    have t2 : L + 1 + 1 ≠ tr := htrm _ (.tail _ (.tail _ (.head _)))
    have t1 : L + 1 ≠ tr := htrm _ (.tail _ (.tail _ (.tail _ (.head _))))
    have u4 := Ne.symm t4
    have u3 := Ne.symm t3
    have u2 := Ne.symm t2
    have u1 := Ne.symm t1
    k_extra "kc_close"
    rename Obj => ot2
    rename ot2.data = _ => hot2
    refine ev_comp (by rfl) (by rfl) (by rfl) ?_
    k_extra "kc_close"
    rw [show (1 : Int) + (r9 : Int) = ((1 + r9 : Nat) : Int) from by omega]
    refine comp_rng [tr] (fun i G' mu' ys => ∃ o' ks, mu' = [(tr, o'), (L + 1 + 1 + 1 + 1, of), (L + 1 + 1 + 1, os), (L + 1 + 1, ok), (L + 1, ot2)] ∧ TrO o' ∧ All2 KdV ys ks ∧ ks.length = i) (by assumption) rm.1 (Nat.le_trans (by omega : 1 + r9 ≤ 64) (by decide)) (by rfl) (by rfl) ?_ ⟨_, [], rfl, by assumption, .nil, rfl⟩ ?_ ?_
    · intro a ha
      cases List.mem_singleton.mp ha
      rename Fm _ _ _ _ _ _ _ _ _ => FF
      exact ⟨(FF.mus _ (.head _)).2.1, ⟨_, .head _⟩, .inr (by assumption)⟩
    · rintro i ti ys G₁ mu₁ C h₂ tk₂ m₁ hi ⟨o', ks, rfl, ho', hys2, hkl⟩ gl hys hmu F₂
      k_extra "kc_close"
      refine sub_btp (by omega) ?_
      intro k9 tk9
      k_extra "kc_close"
      k_extra "kpf_close"
      exact ⟨_, ks ++ [k9], rfl, by assumption, hys2.snoc ⟨_, rfl⟩, by simp [hkl]⟩
    · rintro D C2 k2 h7 tk7 G7 mu7 ys7 m7 ⟨o7, ks, rfl, ho7, hks, hkl7⟩ hys7 gl7 hmu7 F7 hD0 hDm hnC hCL hCD hC0 hGC hCm
      refine cp_none F7 hD0 hDm hnC hCL hCD hC0 hGC hCm ?_
      intro h8 G8 gl8 hl8 F8
      clear F7
      have hk1 : 1 ≤ ks.length := by omega
      have hk6 : ks.length ≤ 6 := by omega
      have hk60 : ks.length ≤ 60 := by omega
      have hkv64 : ys7.length ≤ 64 := by rw [hks.length]; omega
      k_extra "kc_close"
      rename Obj => ok2
      rename ok2.data = _ => hok2
      refine ev_comp (by rfl) (by rfl) (by rfl) ?_
      k_extra "kc_close"
      rw [show (1 : Int) + (r9 : Int) = ((1 + r9 : Nat) : Int) from by omega]
      refine comp_rng [tr] (fun i G' mu' ys => ∃ o' shs, mu' = [(tr, o'), (L + 1 + 1 + 1 + 1, of), (L + 1 + 1 + 1, os), (L + 1 + 1, ok2), (L + 1, ot2)] ∧ TrO o' ∧ All2 (ShpG w.params G') ys shs ∧ (∀ sh ∈ shs, ShpOK ks sh) ∧ shs.length = i) (by assumption) rm.1 (Nat.le_trans (by omega : 1 + r9 ≤ 64) (by decide)) (by rfl) (by rfl) ?_ ⟨_, [], rfl, by assumption, .nil, by simp, rfl⟩ ?_ ?_
      · intro a ha
        cases List.mem_singleton.mp ha
        rename Fm _ _ _ _ _ _ _ _ _ => FF
        exact ⟨(FF.mus _ (.head _)).2.1, ⟨_, .head _⟩, .inr (by assumption)⟩
      · rintro i ti ys G₁ mu₁ C h₂ tk₂ m₁ hi ⟨o', shs, rfl, ho', hys2, hok9, hkl⟩ gl hys hmu F₂
        k_extra "kc_close"
        rename Fm _ _ _ _ _ _ _ _ _ => FF
        refine c_rowF B k hgl (LN.mono (by k_extra "ktr_room") ln) (Room.deeper (Room.le rm (by first | exact Nat.le_of_ble_eq_true rfl | exact rm_lit | omega))) FF (.head _) ho' (.inl (by simp)) (LstG.mono hl8 (by k_extra "ktr_room")) hks hk1 hk60 ?_
        intro v9 o9 G9 h9 tk9 gl9 hTr9 hsh9 F9
        clear FF
        simp (disch := assumption) only [setMu_head, setMu_nil, setMu_skip] at F9
        k_extra "kc_close"
        k_extra "kpf_close"
        obtain ⟨sh9, s1, s2⟩ := hsh9
        refine ⟨_, shs ++ [sh9], rfl, hTr9, (hys2.mono fun _ _ => ShpG.mono gl9).snoc s2, fun sh hsh => ?_, by simp [hkl]⟩
        rcases List.mem_append.mp hsh with hsh | hsh
        · exact hok9 sh hsh
        · rw [List.mem_singleton.mp hsh]; exact s1
      · rintro D2 C3 k3 h9 tk9 G9 mu9 ys9 m9 ⟨o9', shs, rfl, ho9, hss, hsok, hsl9⟩ hys9 gl9 hmu9 F9 hE0 hEm hnC3 hCL3 hCD3 hC03 hGC3 hCm3
        refine cp_none F9 hE0 hEm hnC3 hCL3 hCD3 hC03 hGC3 hCm3 ?_
        intro h10 G10 gl10 hl10 F10
        clear F9
        have hsz : ys9.length ≤ 64 := by rw [hss.length]; omega
        k_extra "kc_close"
        rename Obj => os2
        rename os2.data = _ => hos2
        refine ev_comp (by rfl) (by rfl) (by rfl) ?_
        k_extra "kc_close"
        refine comp_rng [tr] (fun i G' mu' ys => ∃ o' fs, mu' = [(tr, o'), (L + 1 + 1 + 1 + 1, of), (L + 1 + 1 + 1, os2), (L + 1 + 1, ok2), (L + 1, ot2)] ∧ TrO o' ∧ All2 IntV ys fs) (by assumption) rm.1 (Nat.le_trans hsz (by decide)) (by rfl) (by rfl) ?_ ⟨_, [], rfl, ho9, .nil⟩ ?_ ?_
        · intro a ha
          cases List.mem_singleton.mp ha
          rename Fm _ _ _ _ _ _ _ _ _ => FF
          exact ⟨(FF.mus _ (.head _)).2.1, ⟨_, .head _⟩, .inr (by assumption)⟩
        · rintro i ti ys G₁ mu₁ C h₂ tk₂ m₁ hi ⟨o', fs, rfl, ho', hys2⟩ gl hys hmu F₂
          k_extra "kc_close"
          · k_extra "kpf_close"
            exact ⟨_, _, rfl, by assumption, hys2.snoc ⟨_, rfl⟩⟩
          · k_extra "kpf_close"
            exact ⟨_, _, rfl, by assumption, hys2⟩
        · rintro D3 C4 k4 h11 tk11 G11 mu11 ys11 m11 ⟨o11, fs, rfl, ho11, hfs⟩ hys11 gl11 hmu11 F11 hX0 hXm hnC4 hCL4 hCD4 hC04 hGC4 hCm4
          refine cp_none F11 hX0 hXm hnC4 hCL4 hCD4 hC04 hGC4 hCm4 ?_
          intro h12 G12 gl12 hl12 F12
          clear F11
          have hfall : FallG G12 (.ref D3) fs := ⟨D3, ys11, rfl, .inl hl12, hfs⟩
          have hkT : wtL ks ≤ 60 := by have := wt_three (ks := ks); omega
          k_extra "kc_close"
          rename Obj => of2
          rename of2.data = _ => hof2
          refine as_comp (by rfl) (by rfl) (by rfl) (by rfl) ?_
          k_extra "kc_close"
          refine comp_rng [] (fun j G' mu' zs => mu' = [(tr, o11), (L + 1 + 1 + 1 + 1, of2), (L + 1 + 1 + 1, os2), (L + 1 + 1, ok2), (L + 1, ot2)] ∧ All2 (ShpG w.params G') zs (aheadOf fs shs j)) (by assumption) rm.1 (Nat.le_trans hsz (by decide)) (by rfl) (by rfl) (by simp) ⟨rfl, .nil⟩ ?_ ?_
          · rintro j tj zs G₂ mu₂ C h₂ tk₂ m₁ hj ⟨rfl, hzs⟩ gl2 hzl hmu2 F₄
            obtain ⟨v2, ev2⟩ : ∃ v, ys9[j]? = some v := ⟨_, List.getElem?_eq_getElem hj⟩
            obtain ⟨sh2, esh2, hsh2⟩ := hss.get ev2
            k_extra "kc_close"
            · have q : j ∈ fs := by assumption
              k_extra "kpf_close"
              exact ⟨rfl, by rw [ahead_in q]; exact hzs.mono fun _ _ => ShpG.mono (by k_extra "ktr_room")⟩
            · have q : j ∉ fs := by assumption
              k_extra "kpf_close"
              exact ⟨rfl, by rw [ahead_out q esh2]; exact (hzs.mono fun _ _ => ShpG.mono (by k_extra "ktr_room")).snoc (hsh2.mono (by k_extra "ktr_room"))⟩
          · rintro D5 C5 k5 h13 tk13 G13 mu13 zs13 m13 ⟨rfl, hsu⟩ hzs13 gl13 hmu13 F13 hY0 hYm hnC5 hCL5 hCD5 hC05 hGC5 hCm5
            refine cp_as2 (y := "sure") F13 hY0 hYm hnC5 hCL5 hCD5 hC05 hGC5 hCm5 (by rfl) (by rfl) ?_
            intro h14 tk14 G14 gl14 hl14 F14
            clear F13
            rw [hss.length] at hsu
            have hsusz : zs13.length ≤ 64 := Nat.le_trans hzs13 hsz
            have hsuok : ∀ sh ∈ aheadOf fs shs shs.length, ShpOK ks sh := fun sh hsh => hsok sh (ahead_mem hsh)
            generalize aheadOf fs shs shs.length = sure at hsu hsuok
            k_extra "kc_close"
            refine ev_comp (by rfl) (by rfl) (by rfl) ?_
            k_extra "kc_close"
            refine comp_lst [] (fun i G' mu' ys => mu' = [(tr, o11), (L + 1 + 1 + 1 + 1, of2), (L + 1 + 1 + 1, os2), (L + 1 + 1, ok2), (L + 1, ot2)] ∧ All2 (RowG w.params G') ys ((sure.take i).map Shp.r)) (by assumption) hl14 rm.1 (Nat.le_trans hsusz (by decide)) (by rfl) (by rfl) (.inr ⟨⟨_, _, _, rfl⟩, fun v hv => by
              obtain ⟨i, hi⟩ := List.getElem?_of_mem hv
              obtain ⟨sh, _, a, _, _, _, e, _⟩ := hsu.get hi
              exact ⟨a, e⟩⟩) (by simp) ⟨rfl, .nil⟩ ?_ ?_
            · rintro i v ys G₁ mu₁ C h₂ tk₂ m₁ hv ⟨rfl, hys2⟩ gl hys hmu F₂
              obtain ⟨sh, esh, a, rv, pv, nv, rfl, hT, hR, hP⟩ := hsu.get hv
              k_extra "kc_close"
              k_extra "kpf_close"
              refine ⟨rfl, ?_⟩
              rw [take_snoc esh, List.map_append]
              exact (hys2.mono fun _ _ => RowG.mono (by k_extra "ktr_room")).snoc (hR.mono (by k_extra "ktr_room"))
            · rintro D6 C6 k6 h15 tk15 G15 mu15 ys15 m15 ⟨rfl, hro⟩ hys15 gl15 hmu15 F15 hZ0 hZm hnC6 hCL6 hCD6 hC06 hGC6 hCm6
              refine cp_none F15 hZ0 hZm hnC6 hCL6 hCD6 hC06 hGC6 hCm6 ?_
              intro h16 G16 gl16 hl16 F16
              clear F15
              rw [hsu.length, List.take_length] at hro
              have hsul : (sure.map Shp.r).length ≤ 64 := by rw [List.length_map, ← hsu.length]; exact hsusz
              have hsuT := shp_matT hsuok
              k_extra "kc_close"
              rename Fm _ _ _ _ _ _ _ _ _ => FF
              refine c_unmatched (ks := ks) (M := sure.map Shp.r) B k kn hkT (Room.deeper (Room.le rm (by first | exact Nat.le_of_ble_eq_true rfl | exact rm_lit | omega))) (Fm.top FF) (Fm.inn FF) ⟨_, _, rfl, LstG.mono hl16 (by k_extra "ktr_room"), hro.mono fun _ _ => RowG.mono (by k_extra "ktr_room")⟩ (ConsG.mono (by k_extra "ktr_room") hcons) hsuT hsul ?_
              intro x17 G17 h17 tk17 W17 hx17
              have gl17 := Went.sub W17
              have F17 := Fm.call FF W17
              clear FF
              have hdq := due_eq hsuok hk1
              k_extra "kc_close"
              rename Fm _ _ _ _ _ _ _ _ _ => FF
              refine c_words B k (Room.deeper (Room.le rm (by first | exact Nat.le_of_ble_eq_true rfl | exact rm_lit | omega))) (Fm.top FF) (Fm.inn FF) hx17 (fun cs e => Nat.le_trans (dueU_len e) (by omega)) ?_
              intro x18 G18 h18 tk18 W18 hx18
              have gl18 := Went.sub W18
              have F18 := Fm.call FF W18
              clear FF
              rw [hdq] at hx18
              k_extra "kc_close"
              rename WordsG _ _ (dueS ks sure) => hw19
              refine ne_words (by assumption) (Room.deeper (Room.le rm (by first | exact Nat.le_of_ble_eq_true rfl | exact rm_lit | omega))) (hx18.mono (by k_extra "ktr_room")) (hw19.mono (by k_extra "ktr_room")) ?_
              k_extra "kc_close"
              refine ev_comp (by rfl) (by rfl) (by rfl) ?_
              k_extra "kc_close"
              refine comp_lst [] (fun i G' mu' ys => mu' = [(tr, o11), (L + 1 + 1 + 1 + 1, of2), (L + 1 + 1 + 1, os2), (L + 1 + 1, ok2), (L + 1, ot2)] ∧ All2 (RowG w.params G') ys ((shs.take i).map Shp.r)) (by assumption) (LstG.mono hl10 (by k_extra "ktr_room")) rm.1 (Nat.le_trans hsz (by decide)) (by rfl) (by rfl) (.inr ⟨⟨_, _, _, rfl⟩, fun v hv => by
                obtain ⟨i, hi⟩ := List.getElem?_of_mem hv
                obtain ⟨sh, _, a, _, _, _, e, _⟩ := hss.get hi
                exact ⟨a, e⟩⟩) (by simp) ⟨rfl, .nil⟩ ?_ ?_
              · rintro i v ys G₁ mu₁ C h₂ tk₂ m₁ hv ⟨rfl, hys2⟩ gl hys hmu F₂
                obtain ⟨sh, esh, a, rv, pv, nv, rfl, hT, hR, hP⟩ := hss.get hv
                k_extra "kc_close"
                k_extra "kpf_close"
                refine ⟨rfl, ?_⟩
                rw [take_snoc esh, List.map_append]
                exact (hys2.mono fun _ _ => RowG.mono (by k_extra "ktr_room")).snoc (hR.mono (by k_extra "ktr_room"))
              · rintro D7 C7 k7 h20 tk20 G20 mu20 ys20 m20 ⟨rfl, hro2⟩ hys20 gl20 hmu20 F20 hV0 hVm hnC7 hCL7 hCD7 hC07 hGC7 hCm7
                refine cp_none F20 hV0 hVm hnC7 hCL7 hCD7 hC07 hGC7 hCm7 ?_
                intro h21 G21 gl21 hl21 F21
                clear F20
                rw [hss.length, List.take_length] at hro2
                have hshl : (shs.map Shp.r).length ≤ 64 := by rw [List.length_map, ← hss.length]; exact hsz
                have huq := useless_eq (fs := fs) hsok hk1
                k_extra "kc_close"
                rename Fm _ _ _ _ _ _ _ _ _ => FF
                refine c_useless3 (ks := ks) (M := shs.map Shp.r) B k kn hkT (Room.deeper (Room.le rm (by first | exact Nat.le_of_ble_eq_true rfl | exact rm_lit | omega))) (Fm.top FF) (Fm.inn FF) ⟨_, _, rfl, LstG.mono hl21 (by k_extra "ktr_room"), hro2.mono fun _ _ => RowG.mono (by k_extra "ktr_room")⟩ (ConsG.mono (by k_extra "ktr_room") hcons) (hfall.mono (by k_extra "ktr_room")) (shp_matT hsok) hshl ?_
                intro x22 ys22 G22 h22 tk22 W22 hl22 ha22
                have gl22 := Went.sub W22
                have F22 := Fm.call FF W22
                clear FF
                rw [List.length_map, huq] at ha22
                k_extra "kc_close"
                rename All2 IntV _ (uselessS ks shs fs shs.length) => ha23
                refine eq_intsL (by assumption) (Room.deeper (Room.le rm (by first | exact Nat.le_of_ble_eq_true rfl | exact rm_lit | omega))) (LstG.mono hl22 (by k_extra "ktr_room")) (by k_extra "ktr_rel") ha22 ha23 ?_
                k_extra "kc_close"
                exact h _ _ _ (Fm.done (by assumption) nL))) only [↓und])
end
end
theorem rgeW27 : True := by
  k_with "off:W27" => skip
  trivial
section
theorem is_str {x : Str} {t : Tok} : Value.isStrOf x (.str x t) = true := by simp [Value.isStrOf]
theorem ln_of {w : World} {K : Frag} {h : Heap} (X : K.In h) (x : KLn w K) : LN w h.get? where
  dic := by
    obtain ⟨t1, t2, t3, n, e⟩ := x.dic
    refine ⟨by decide, _, X _ _ e, #[⟨PyData.keyHash w.params (Str.ofString "B"), .str (Str.ofString "B") t1, .ref 513⟩, ⟨PyData.keyHash w.params (Str.ofString "T"), .str (Str.ofString "T") t2, .ref 514⟩, ⟨PyData.keyHash w.params (Str.ofString "P"), .str (Str.ofString "P") t3, .ref 515⟩], n, ⟨rfl, rfl, rfl⟩, rfl, ?_, ?_, by decide +kernel⟩
    · intro e he
      simp only [List.mem_toArray, List.mem_cons, List.not_mem_nil, or_false] at he
      rcases he with rfl | rfl | rfl
      · exact ⟨Str.ofString "B", is_str (t := t1), rfl⟩
      · exact ⟨Str.ofString "T", is_str (t := t2), rfl⟩
      · exact ⟨Str.ofString "P", is_str (t := t3), rfl⟩
    · exact .cons (is_str (t := t1)) rfl (.cons (is_str (t := t2)) rfl (.cons (is_str (t := t3)) rfl .nil))
  lst := by
    intro k
    cases k with
    | B =>
      obtain ⟨t1, t2, n, e⟩ := x.b
      exact ⟨[_, _], ⟨_, X _ _ e, rfl, n, rfl⟩, .cons ⟨_, rfl⟩ (.cons ⟨_, rfl⟩ .nil)⟩
    | T =>
      obtain ⟨t1, t2, t3, n, e⟩ := x.t
      exact ⟨[_, _, _], ⟨_, X _ _ e, rfl, n, rfl⟩, .cons ⟨_, rfl⟩ (.cons ⟨_, rfl⟩ (.cons ⟨_, rfl⟩ .nil))⟩
    | P =>
      obtain ⟨t1, t2, n, e⟩ := x.p
      exact ⟨[_, _], ⟨_, X _ _ e, rfl, n, rfl⟩, .cons ⟨_, rfl⟩ (.cons ⟨_, rfl⟩ .nil)⟩
theorem room_top : Room callerA 150 := ⟨rfl, by decide, by decide⟩
theorem fin_law : LawP := by
  intro w K s₁ mg mb fa l vs ns R X hmb hbb hnl hbt k kn hgl ln hlw hfa hl hI h
  have e := (mg_of X hmb hlw).symm.trans hfa
  injection e with e
  injection e with e
  subst e
  exact c_law (H := s₁.heap) (G := s₁.heap.get?) ⟨X, hmb, hbb, hnl, hbt⟩ k kn hgl (ln_of X ln) room_top (fun _ _ e => e) (fun _ _ e => e) hl hI h
end
theorem rgz : True := by
  k_with_none
  trivial
end Mine
theorem Mine.flz {M : Model} {A : Around} {E : Value → Shared → Prop} {s : Shared} {env : Env} {Q : Flow → Shared → Prop} (h : Q .next s) : wpAny M A (execs [] env) Q E s := by
  w_top off
  walk1
  exact h
set_option Elab.async true
namespace Mine
theorem holds.tw7398041634989697349 : True := trivial
theorem holds.tw4700713122064472571 : True := trivial
theorem holds.tw10876536743886354276 : True := trivial
theorem holds.tw5471403574791894133 : True := trivial
theorem holds.tw15654153127513851752 : True := trivial
theorem holds.tw8260078842695283502 : True := trivial
theorem holds.tw10280545108713110612 : True := trivial
theorem holds.tw18263738317455877889 : True := trivial
theorem holds.tw2156681307112010326 : True := trivial
theorem holds.tw14012497318314112844 : True := trivial
theorem holds.tw8551410553514715252 : True := trivial
theorem holds.tw16568243084613897719 : True := trivial
theorem holds.tw4949047195023096438 : True := trivial
theorem holds.tw17076291190057227869 : True := trivial
theorem holds.tw4876135695594978501 : True := trivial
theorem holds.tw6606875086121380550 : True := trivial
theorem holds.tw11759793716441912868 : True := trivial
theorem holds.tw5959074840488112208 : True := trivial
theorem holds.tw12160635655254385198 : True := trivial
theorem holds.tw185807328385624810 : True := trivial
theorem holds.tw4399152324972305773 : True := trivial
theorem holds.tw14062913937729191461 : True := trivial
theorem holds.tw8086972369959518483 : True := trivial
theorem holds.tw63030109126827207 : True := trivial
theorem holds.tw4496467784121089108 : True := trivial
theorem holds.tw6278366128872770721 : True := trivial
theorem holds.tw3381435865837020940 : True := trivial
theorem holds.tw11341941285841758863 : True := trivial
theorem holds.tw10411894287172707536 : True := trivial
theorem holds.tw9784731065822230439 : True := trivial
theorem holds.tw13373784697917265674 : True := trivial
theorem holds.tw5923573193019433623 : True := trivial
theorem holds.tw2207817973478938216 : True := trivial
theorem holds.tw12947342387834907416 : True := trivial
theorem holds.tw1986877004247180340 : True := trivial
theorem holds.tw8531975998826424889 : True := trivial
theorem holds.tw16532224993992427823 : True := trivial
theorem holds.tw15493915963290111440 : True := trivial
theorem holds.tw13602253286356535353 : True := trivial
theorem holds.tw10634055019105834221 : True := trivial
theorem holds.tw13942211991455542721 : True := trivial
theorem holds.tw6654929391614583909 : True := trivial
theorem holds.tw14040500308302212198 : True := trivial
theorem holds.tw14411328915609312922 : True := trivial
theorem holds.tw143733397751180983 : True := trivial
theorem holds.tw3444523814780208807 : True := trivial
theorem holds.tw3117193011312037209 : True := trivial
theorem holds.tw9890372494799421562 : True := trivial
theorem holds.tw16569799976186059295 : True := trivial
theorem holds.tw5974696593769725856 : True := trivial
theorem holds.tw5948040445239067262 : True := trivial
theorem holds.tw7365562674294520451 : True := trivial
theorem holds.tw3378624336152846145 : True := trivial
theorem holds.tw4320952357017371039 : True := trivial
theorem holds.tw17822619038779606285 : True := trivial
theorem holds.tw8067858942452583622 : True := trivial
theorem holds.tw12542415522573167287 : True := trivial
theorem holds.tw6216033271563703469 : True := trivial
theorem holds.tw14438757958421221462 : True := trivial
theorem holds.tw12322914241283428633 : True := trivial
theorem holds.tw8943767207682116370 : True := trivial
theorem holds.tw9569093901706499007 : True := trivial
theorem holds.tw4137054072099604216 : True := trivial
theorem holds.tw7943873644019274615 : True := trivial
theorem holds.tw8403075241119356948 : True := trivial
theorem holds.tw949623864930693503 : True := trivial
theorem holds.tw17779192219718171531 : True := trivial
theorem holds.tw150268843892594924 : True := trivial
theorem holds.tw15566814792845459997 : True := trivial
theorem holds.tw9732041140710341944 : True := trivial
theorem holds.tw16898140867199733807 : True := trivial
theorem holds.tw3393808461323943489 : True := trivial
theorem holds.tw13130249910395747862 : True := trivial
theorem holds.tw11750193621415288269 : True := trivial
theorem holds.tw17254660705983429885 : True := trivial
theorem holds.tw12135579543755162760 : True := trivial
theorem holds.tw5350216910946226995 : True := trivial
theorem holds.tw2395783193375807797 : True := trivial
theorem holds.tw4837283352154931363 : True := trivial
theorem holds.tw17631178891982236634 : True := trivial
theorem holds.tw8163853742193369449 : True := trivial
theorem holds.tw4065146272016792997 : True := trivial
theorem holds.tw14591408896582057207 : True := trivial
theorem holds.tw1446027475299390936 : True := trivial
theorem holds.tw4079574721724423606 : True := trivial
theorem holds.tw2661161477798328453 : True := trivial
theorem holds.tw3092724735428445279 : True := trivial
theorem holds.tw9160814584890018001 : True := trivial
theorem holds.tw17087466662150396210 : True := trivial
theorem holds.tw3864012138097595758 : True := trivial
theorem holds.tw9486143321106344294 : True := trivial
theorem holds.tw13334661261001831826 : True := trivial
theorem holds.tw15785218014132313688 : True := trivial
theorem holds.tw7154447938429058438 : True := trivial
theorem holds.tw15464432741802594518 : True := trivial
theorem holds.tw17453241218497372113 : True := trivial
theorem holds.tw16315053957116525436 : True := trivial
theorem holds.tw3579776383272448420 : True := trivial
theorem holds.tw15773771547523477324 : True := trivial
theorem holds.tw3152325903591766520 : True := trivial
theorem holds.tw16141144775947785660 : True := trivial
theorem holds.tw7798976556582896058 : True := trivial
theorem holds.tw8115153917610635543 : True := trivial
theorem holds.tw9157471666820141079 : True := trivial
theorem holds.tw8323465864499181419 : True := trivial
theorem holds.tw15305512045591798990 : True := trivial
theorem holds.tw8827755016177155863 : True := trivial
theorem holds.tw17092301067589072026 : True := trivial
theorem holds.tw14400433609042604536 : True := trivial
theorem holds.tw14263331781698699780 : True := trivial
theorem holds.tw1569810199879761147 : True := trivial
theorem holds.tw10238092577321643331 : True := trivial
theorem holds.tw1686462557126633389 : True := trivial
theorem holds.tw9114018109745100730 : True := trivial
theorem holds.tw6330134614895140133 : True := trivial
theorem holds.tw14064534554856164141 : True := trivial
theorem holds.tw4302478151189881795 : True := trivial
theorem holds.tw15969937429085165904 : True := trivial
theorem holds.tw613574419074001953 : True := trivial
theorem holds.tw2667925813562934949 : True := trivial
theorem holds.tw5588498093969417903 : True := trivial
theorem holds.tw432397303454026276 : True := trivial
theorem holds.tw14571696787620697854 : True := trivial
theorem holds.tw8564859838321607590 : True := trivial
theorem holds.tw16760418933842767799 : True := trivial
theorem holds.tw5595351579658275231 : True := trivial
theorem holds.tw4408763645494598628 : True := trivial
theorem holds.tw12004703523718567385 : True := trivial
theorem holds.tw14456359579513077766 : True := trivial
theorem holds.tw6072511530176384962 : True := trivial
theorem holds.tw17148229171239856432 : True := trivial
theorem holds.tw5031978486770369989 : True := trivial
theorem holds.tw8454650750101055009 : True := trivial
theorem holds.tw3081346186701454755 : True := trivial
theorem holds.tw4954732016240277505 : True := trivial
theorem holds.tw11413208387583891290 : True := trivial
theorem holds.tw8035951141280138642 : True := trivial
theorem holds.tw13945929957867325323 : True := trivial
theorem holds.tw15659084048362614264 : True := trivial
theorem holds.tw2296293446034493066 : True := trivial
theorem holds.tw15942494369296127945 : True := trivial
theorem holds.tw12004910477815969792 : True := trivial
theorem holds.tw10066566674380323332 : True := trivial
theorem holds.tw10859938921441162988 : True := trivial
theorem holds.tw8868040359437915812 : True := trivial
theorem holds.tw5898628582698610718 : True := trivial
theorem holds.tw16887932952891968693 : True := trivial
theorem holds.tw7122917452565745793 : True := trivial
theorem holds.tw1974762919298152056 : True := trivial
theorem holds.tw9188266559522036927 : True := trivial
theorem holds.tw17614710297363374402 : True := trivial
theorem holds.tw12461706298059298081 : True := trivial
theorem holds.tw17294395744611713098 : True := trivial
theorem holds.tw9259533211598610082 : True := trivial
theorem holds.tw7129523546110730894 : True := trivial
theorem holds.tw12870647732520690006 : True := trivial
theorem holds.tw8102643725754146565 : True := trivial
theorem holds.tw9250495785965993271 : True := trivial
theorem holds.tw12026586258414967476 : True := trivial
theorem holds.tw341249449185904685 : True := trivial
theorem holds.tw6735552807121987811 : True := trivial
theorem holds.tw12629177860411813126 : True := trivial
theorem holds.tw3964553439336064567 : True := trivial
theorem holds.tw6307330118970589470 : True := trivial
theorem holds.tw9855210162650666830 : True := trivial
theorem holds.tw8324913547053779211 : True := trivial
theorem holds.tw11319453509113102234 : True := trivial
theorem holds.tw7944191787301449481 : True := trivial
theorem holds.tw2697976716319701033 : True := trivial
theorem holds.tw8789113547377566482 : True := trivial
theorem holds.tw10675174832548182787 : True := trivial
theorem holds.tw14786868411472786527 : True := trivial
theorem holds.tw18078616723997116376 : True := trivial
theorem holds.tw9462340624215136286 : True := trivial
theorem holds.tw5099458221760260784 : True := trivial
theorem holds.tw4624323801304008105 : True := trivial
theorem holds.tw4043779546988386903 : True := trivial
theorem holds.tw17494583115025906637 : True := trivial
theorem holds.tw3339025504875072537 : True := trivial
theorem holds.tw17305823854243098232 : True := trivial
theorem holds.tw1714096750540956960 : True := trivial
theorem holds.tw2562329033357795767 : True := trivial
theorem holds.tw17094759248423572775 : True := trivial
theorem holds.tw13564983018704479910 : True := trivial
theorem holds.tw1621136399060944247 : True := trivial
theorem holds.tw4374827463496512255 : True := trivial
theorem holds.tw13757568721421367004 : True := trivial
theorem holds.tw12584058235822683084 : True := trivial
theorem holds.tw12158069946340328395 : True := trivial
theorem holds.tw12354433232887552844 : True := trivial
theorem holds.tw5565848844497943877 : True := trivial
theorem holds.tw9327718836232418737 : True := trivial
theorem holds.tw8277820557490507997 : True := trivial
theorem holds.tw10531532615022067580 : True := trivial
theorem holds.tw10274680400919065884 : True := trivial
theorem holds.tw6396523623945614605 : True := trivial
theorem holds.tw1552857426587298226 : True := trivial
theorem holds.tw142377125942736700 : True := trivial
theorem holds.tw17591727778206626035 : True := trivial
theorem holds.tw3762720468685896864 : True := trivial
theorem holds.tw6674158366018852832 : True := trivial
theorem holds.tw16239030619513480838 : True := trivial
theorem holds.tw11866763835798034582 : True := trivial
theorem holds.tw1095465085569150570 : True := trivial
theorem holds.tw12039203186867382747 : True := trivial
theorem holds.tw13727280502862124540 : True := trivial
theorem holds.tw10520202591518659360 : True := trivial
theorem holds.tw14394845925615563878 : True := trivial
theorem holds.tw13208604148985916543 : True := trivial
theorem holds.tw13002855754428957212 : True := trivial
theorem holds.tw12306811582311103309 : True := trivial
theorem holds.tw8778671856527934898 : True := trivial
theorem holds.tw685634667276709000 : True := trivial
theorem holds.tw15383290158734973844 : True := trivial
theorem holds.tw5915465848944024539 : True := trivial
theorem holds.tw4772410448533662562 : True := trivial
theorem holds.tw16939745714101447976 : True := trivial
theorem holds.tw4695128735345963622 : True := trivial
theorem holds.tw12098404996450287289 : True := trivial
theorem holds.tw187104208977503339 : True := trivial
theorem holds.tw8351548024695214574 : True := trivial
theorem holds.tw13416111870119765123 : True := trivial
theorem holds.tw13926404443759844560 : True := trivial
theorem holds.tw9072656965561520583 : True := trivial
theorem holds.tw4286360187039589740 : True := trivial
theorem holds.tw5006882278849481289 : True := trivial
theorem holds.tw4132201380793018340 : True := trivial
theorem holds.tw2980642449514264586 : True := trivial
theorem holds.tw10028576996824322293 : True := trivial
theorem holds.tw12633084752571091873 : True := trivial
theorem holds.tw3279077582325829838 : True := trivial
theorem holds.tw18020473825885896052 : True := trivial
theorem holds.tw7399101569421298396 : True := trivial
theorem holds.tw8105830805119860317 : True := trivial
theorem holds.tw10447927361281507451 : True := trivial
theorem holds.tw4500180452004054980 : True := trivial
theorem holds.tw11111472982789046935 : True := trivial
theorem holds.tw1833173380454153921 : True := trivial
theorem holds.tw17510143785770761814 : True := trivial
theorem holds.tw8923395334790345474 : True := trivial
theorem holds.tw9232459349045140238 : True := trivial
theorem holds.tw2041457743892144894 : True := trivial
theorem holds.tw14083959995102712966 : True := trivial
theorem holds.tw17533166617710000329 : True := trivial
theorem holds.tw1180276462324527112 : True := trivial
theorem holds.tw2946744036017948005 : True := trivial
theorem holds.tw3906943341852370832 : True := trivial
theorem holds.tw10494946348260405530 : True := trivial
theorem holds.tw4636335402390110268 : True := trivial
theorem holds.tw11379536335273661636 : True := trivial
theorem holds.tw9712817358965380444 : True := trivial
theorem holds.tw759334954848157859 : True := trivial
theorem holds.tw13860560629476652642 : True := trivial
theorem holds.tw17856180979147524769 : True := trivial
theorem holds.tw15733542881966949079 : True := trivial
theorem holds.tw17647985033660283594 : True := trivial
theorem holds.tw15573729904360925794 : True := trivial
theorem holds.tw9370115536473471133 : True := trivial
theorem holds.tw4753448620645791293 : True := trivial
theorem holds.tw1349225773494744244 : True := trivial
theorem holds.tw12467034654032377186 : True := trivial
theorem holds.tw16286308178466712102 : True := trivial
theorem holds.tw4381346726385406224 : True := trivial
theorem holds.tw4989695622661515502 : True := trivial
theorem holds.tw5768289875352899849 : True := trivial
theorem holds.tw4178180708970424880 : True := trivial
theorem holds.tw17476224472650253806 : True := trivial
theorem holds.tw3050561863661609479 : True := trivial
theorem holds.tw10684964147190113176 : True := trivial
theorem holds.tw10843207457187830352 : True := trivial
theorem holds.tw1639197193820686003 : True := trivial
theorem holds.tw8070350036930755802 : True := trivial
theorem holds.tw11210861575573996130 : True := trivial
theorem holds.tw5282283922864298156 : True := trivial
theorem holds.tw7400771686186127474 : True := trivial
theorem holds.tw15987345220168432620 : True := trivial
theorem holds.tw10240100896771907615 : True := trivial
theorem holds.tw4921510776622977656 : True := trivial
theorem holds.tw11450275943994455990 : True := trivial
theorem holds.tw3930379177928381544 : True := trivial
theorem holds.tw11937027079205856637 : True := trivial
theorem holds.tw14404905868111484630 : True := trivial
theorem holds.tw15663057623668237757 : True := trivial
theorem holds.tw14747351113905286367 : True := trivial
theorem holds.tw99148262030102190 : True := trivial
theorem holds.tw16035096773351161327 : True := trivial
theorem holds.tw8703845211747107117 : True := trivial
theorem holds.tw12095597400677081514 : True := trivial
theorem holds.tw6099975724469302500 : True := trivial
theorem holds.tw154871700347349385 : True := trivial
theorem holds.tw6305404595935261976 : True := trivial
theorem holds.tw10698829266838348154 : True := trivial
theorem holds.tw15136828946037461428 : True := trivial
theorem holds.tw10595842591828190984 : True := trivial
theorem holds.tw11569915684508697678 : True := trivial
theorem holds.tw9160933379109621080 : True := trivial
theorem holds.tw4197124852483764760 : True := trivial
theorem holds.tw16055276123995595159 : True := trivial
theorem holds.tw6026762337386570962 : True := trivial
theorem holds.tw12553914923479104506 : True := trivial
theorem holds.tw3589964763223657672 : True := trivial
theorem holds.tw5252246860307943348 : True := trivial
theorem holds.tw1906216828905148153 : True := trivial
theorem holds.tw98196739984318054 : True := trivial
theorem holds.tw4480811336153992742 : True := trivial
theorem holds.tw6896159741398044905 : True := trivial
theorem holds.tw9638990691586225099 : True := trivial
theorem holds.tw7580357766596436714 : True := trivial
theorem holds.tw7442186320969616419 : True := trivial
theorem holds.tw17714467908841036005 : True := trivial
theorem holds.tw2422663375537807432 : True := trivial
theorem holds.tw14149781006570564392 : True := trivial
theorem holds.tw8006095370074002437 : True := trivial
theorem holds.tw1316056555746827224 : True := trivial
theorem holds.tw9518972631687950247 : True := trivial
theorem holds.tw5078402968320093544 : True := trivial
theorem holds.tw12008902284401382014 : True := trivial
theorem holds.tw14751579383510745608 : True := trivial
theorem holds.tw10491065262344570346 : True := trivial
theorem holds.tw13980644296350529377 : True := trivial
theorem holds.tw12468101337765408714 : True := trivial
theorem holds.tw7145057240379410032 : True := trivial
theorem holds.tw1466284255255076664 : True := trivial
theorem holds.tw7405762614669717487 : True := trivial
theorem holds.tw15203487316939043196 : True := trivial
theorem holds.tw7258431392514884226 : True := trivial
theorem holds.tw11818566221774970091 : True := trivial
theorem holds.tw17096001632197288867 : True := trivial
theorem holds.tw6816380694822836728 : True := trivial
theorem holds.tw1211747854080251252 : True := trivial
theorem holds.tw10705619171732726748 : True := trivial
theorem holds.tw16878984735049331645 : True := trivial
theorem holds.tw10828986214106111531 : True := trivial
theorem holds.tw9816476011544392670 : True := trivial
theorem holds.tw2490583276235294983 : True := trivial
theorem holds.tw9284948610034456067 : True := trivial
theorem holds.tw2448847960820234738 : True := trivial
theorem holds.tw1876284267304334591 : True := trivial
theorem holds.tw15402825562841796884 : True := trivial
theorem holds.tw2720468260678641542 : True := trivial
theorem holds.tw11322816463052944642 : True := trivial
theorem holds.tw6871585250140865760 : True := trivial
theorem holds.tw151567797773009622 : True := trivial
theorem holds.tw11896979934692212325 : True := trivial
theorem holds.tw7810582327123544015 : True := trivial
theorem holds.tw2766847245526771718 : True := trivial
theorem holds.tw7058599786907716777 : True := trivial
theorem holds.tw3093010850272755244 : True := trivial
theorem holds.tw16900590462404453081 : True := trivial
theorem holds.tw7398177500901678427 : True := trivial
theorem holds.tw5857794014393010482 : True := trivial
theorem holds.tw10061326939861387809 : True := trivial
theorem holds.tw16500857126356320474 : True := trivial
theorem holds.tw5826770846592600178 : True := trivial
theorem holds.tw2804793297610418449 : True := trivial
theorem holds.tw6118206324766035986 : True := trivial
theorem holds.tw8844102623358338796 : True := trivial
theorem holds.tw13341946137322399123 : True := trivial
theorem holds.tw3349518531870832243 : True := trivial
theorem holds.tw9309047703646887916 : True := trivial
theorem holds.tw16762735861678686087 : True := trivial
theorem holds.tw5887078386916838634 : True := trivial
theorem holds.tw854715265852234644 : True := trivial
theorem holds.tw4796666493748621973 : True := trivial
theorem holds.tw12736823529576279204 : True := trivial
theorem holds.tw12370703938092414502 : True := trivial
theorem holds.tw7942442253511216057 : True := trivial
theorem holds.tw15985840036639034899 : True := trivial
theorem holds.tw7350330377624401328 : True := trivial
theorem holds.tw11612728935029869629 : True := trivial
theorem holds.tw7873036012977236159 : True := trivial
theorem holds.tw2160012875989923789 : True := trivial
theorem holds.tw13338651292558784369 : True := trivial
theorem holds.tw16179787414501680475 : True := trivial
theorem holds.tw14691085348537605332 : True := trivial
theorem holds.tw2682973687022302978 : True := trivial
theorem holds.tw5225467491883748592 : True := trivial
theorem holds.tw6424660084863691381 : True := trivial
theorem holds.tw915018914566706432 : True := trivial
theorem holds.tw8571184235532366510 : True := trivial
theorem holds.tw15027879205694222834 : True := trivial
theorem holds.tw1118671588950128205 : True := trivial
theorem holds.tw6545324650690627985 : True := trivial
theorem holds.tw7791430327242384495 : True := trivial
theorem holds.tw18193256452927958525 : True := trivial
theorem holds.tw14314133134477209284 : True := trivial
theorem holds.tw3811385743445658432 : True := trivial
theorem holds.tw10726778698580467152 : True := trivial
theorem holds.tw6357344898813262543 : True := trivial
theorem holds.tw2335221107431800076 : True := trivial
theorem holds.tw12540800736699631050 : True := trivial
theorem holds.tw8684541073956307770 : True := trivial
theorem holds.tw96072713605637463 : True := trivial
theorem holds.tw9140063382869304120 : True := trivial
theorem holds.tw3280128972450656526 : True := trivial
theorem holds.tw6489310206099298910 : True := trivial
theorem holds.tw9260842090827677427 : True := trivial
theorem holds.tw1311399786705062619 : True := trivial
theorem holds.tw16461013251600362008 : True := trivial
theorem holds.tw14856189802965030758 : True := trivial
theorem holds.tw2972900019843275892 : True := trivial
theorem holds.tw15477653585598255317 : True := trivial
theorem holds.tw16049930973857864354 : True := trivial
theorem holds.tw10637851664137882224 : True := trivial
theorem holds.tw1477864382951527211 : True := trivial
theorem holds.tw7074641181814816541 : True := trivial
theorem holds.tw8087799500789234286 : True := trivial
theorem holds.tw13281364814482169325 : True := trivial
theorem holds.tw18348608232412713582 : True := trivial
theorem holds.tw14453804969608289915 : True := trivial
theorem holds.tw3937267528351423324 : True := trivial
theorem holds.tw820627826665183454 : True := trivial
theorem holds.tw12941468149822085856 : True := trivial
theorem holds.tw138917058343750897 : True := trivial
theorem holds.tw11899092608841805274 : True := trivial
theorem holds.tw10705761992013847755 : True := trivial
theorem holds.tw15296638952792297585 : True := trivial
theorem holds.tw13306226422529918579 : True := trivial
theorem holds.tw4998001990490953706 : True := trivial
theorem holds.tw12056596633878991817 : True := trivial
theorem holds.tw4485590747672999114 : True := trivial
theorem holds.tw3969078344035082030 : True := trivial
theorem holds.tw12091882185175152326 : True := trivial
theorem holds.tw10840139340582571922 : True := trivial
theorem holds.tw2167384251425162797 : True := trivial
theorem holds.tw14027143162585244968 : True := trivial
theorem holds.tw13219762378693318442 : True := trivial
theorem holds.tw6479322844328308420 : True := trivial
theorem holds.tw7923702915469573346 : True := trivial
theorem holds.tw5857869478962280401 : True := trivial
theorem holds.tw2451063411067222376 : True := trivial
theorem holds.tw9458989268892848673 : True := trivial
theorem holds.tw3232270311777372273 : True := trivial
theorem holds.tw1672651397029140864 : True := trivial
theorem holds.tw3626213265524300766 : True := trivial
theorem holds.tw14432740918813763817 : True := trivial
theorem holds.tw15815842588268232306 : True := trivial
theorem holds.tw4397353207691548035 : True := trivial
theorem holds.tw15462992800728643659 : True := trivial
theorem holds.tw1213666046027356511 : True := trivial
theorem holds.tw13370180491053348 : True := trivial
theorem holds.tw13367305885274521072 : True := trivial
theorem holds.tw2963349702327202441 : True := trivial
theorem holds.tw4422276619278600727 : True := trivial
theorem holds.tw18374689057720224539 : True := trivial
theorem holds.tw6027180799015181879 : True := trivial
theorem holds.tw9107170298555381705 : True := trivial
theorem holds.tw17180457848445815676 : True := trivial
theorem holds.tw10981351503976158137 : True := trivial
theorem holds.tw10587580826675096554 : True := trivial
theorem holds.tw6987649320729488474 : True := trivial
theorem holds.tw17779774989671706653 : True := trivial
theorem holds.tw2781561513384061212 : True := trivial
theorem holds.tw11408340709373832527 : True := trivial
theorem holds.tw10576265454180977796 : True := trivial
theorem holds.tw2370105137638165564 : True := trivial
theorem holds.tw4702539438339769474 : True := trivial
theorem holds.tw8218819101457601776 : True := trivial
theorem holds.tw5619803957841784048 : True := trivial
theorem holds.tw13108245259352980691 : True := trivial
theorem holds.tw16260029586006496120 : True := trivial
theorem holds.tw14083834280242248106 : True := trivial
theorem holds.tw244668840739839672 : True := trivial
theorem holds.tw303617358959260456 : True := trivial
theorem holds.tw8143335708233088440 : True := trivial
theorem holds.tw13651502964188933756 : True := trivial
theorem holds.tw1032644102275906610 : True := trivial
theorem holds.tw5981487413272766262 : True := trivial
theorem holds.tw4732239084545436042 : True := trivial
theorem holds.tw7119377499074729706 : True := trivial
theorem holds.tw7753079526450916859 : True := trivial
theorem holds.tw4021013208564600997 : True := trivial
theorem holds.tw13356387430892511905 : True := trivial
theorem holds.tw12657093848384798476 : True := trivial
theorem holds.tw10894570999934473159 : True := trivial
theorem holds.tw10292701021901942622 : True := trivial
theorem holds.tw4952593789767209597 : True := trivial
theorem holds.tw14781169843320478655 : True := trivial
theorem holds.tw8664812251140827045 : True := trivial
theorem holds.tw16307742377514257941 : True := trivial
theorem holds.tw18202751451028033538 : True := trivial
theorem holds.tw6817751937963910627 : True := trivial
theorem holds.tw4698078265318845332 : True := trivial
theorem holds.tw14205006904943715905 : True := trivial
theorem holds.tw8413133151647880539 : True := trivial
theorem holds.tw3256209041318659551 : True := trivial
theorem holds.tw15750308709622187472 : True := trivial
theorem holds.tw8748387823217011937 : True := trivial
theorem holds.tw9143120035062812437 : True := trivial
theorem holds.tw5826472863771850064 : True := trivial
theorem holds.tw12733908048491186811 : True := trivial
theorem holds.tw9245723823536211039 : True := trivial
theorem holds.tw16725066886706607050 : True := trivial
theorem holds.tw14374762386000251392 : True := trivial
theorem holds.tw10853043219271619230 : True := trivial
theorem holds.tw945861476033566700 : True := trivial
theorem holds.tw3521771025164786240 : True := trivial
theorem holds.tw8868445881999480663 : True := trivial
theorem holds.tw14341210406198164329 : True := trivial
theorem holds.tw7548614866355832645 : True := trivial
theorem holds.tw13207259376416783048 : True := trivial
theorem holds.tw2642592217982111355 : True := trivial
theorem holds.tw9321796208036801940 : True := trivial
theorem holds.tw15421342739227911939 : True := trivial
theorem holds.tw9878063783549791415 : True := trivial
theorem holds.tw7794074229983474189 : True := trivial
theorem holds.tw17858152450515298520 : True := trivial
theorem holds.tw5878047611234877577 : True := trivial
theorem holds.tw14977296931134136204 : True := trivial
theorem holds.tw15326264675407861456 : True := trivial
theorem holds.tw7389893730484166007 : True := trivial
theorem holds.tw6234259597661685125 : True := trivial
theorem holds.tw14414307862276553398 : True := trivial
theorem holds.tw2277698456845511444 : True := trivial
theorem holds.tw10679687220464918932 : True := trivial
theorem holds.tw13150661809386230508 : True := trivial
theorem holds.tw5295917329084666069 : True := trivial
theorem holds.tw4381757428849502282 : True := trivial
theorem holds.tw16617498834693519143 : True := trivial
theorem holds.tw4532548537324856634 : True := trivial
theorem holds.tw16697607604324151607 : True := trivial
theorem holds.tw17549760099613038055 : True := trivial
theorem holds.tw17040301576142915119 : True := trivial
theorem holds.tw707885073954110949 : True := trivial
theorem holds.tw2192426249313902071 : True := trivial
theorem holds.tw7366336091430424897 : True := trivial
theorem holds.tw1438057683635843531 : True := trivial
theorem holds.tw16497969686579978388 : True := trivial
theorem holds.tw11647182259668861994 : True := trivial
theorem holds.tw5082999880386992228 : True := trivial
theorem holds.tw1710408800991569193 : True := trivial
theorem holds.tw12808162357026388105 : True := trivial
theorem holds.tw5274829272982666545 : True := trivial
theorem holds.tw14054693376921006050 : True := trivial
theorem holds.tw7235909688915465346 : True := trivial
theorem holds.tw5259053182002985842 : True := trivial
theorem holds.tw16281141667863336784 : True := trivial
theorem holds.tw18173914834931495973 : True := trivial
theorem holds.tw14247145606103189434 : True := trivial
theorem holds.tw12929723366055764138 : True := trivial
theorem holds.tw10817008591213730988 : True := trivial
theorem holds.tw17765825090018352961 : True := trivial
theorem holds.tw8253004272172430988 : True := trivial
theorem holds.tw13899955331829678731 : True := trivial
theorem holds.tw12774209864397607762 : True := trivial
theorem holds.tw7840918076549728228 : True := trivial
theorem holds.tw11619669790576578751 : True := trivial
theorem holds.tw5763553328388235881 : True := trivial
theorem holds.tw10824115321126796680 : True := trivial
theorem holds.tw3834328006691320696 : True := trivial
theorem holds.tw18232564904221570389 : True := trivial
theorem holds.tw8903297777125119442 : True := trivial
theorem holds.tw11021402016762074336 : True := trivial
theorem holds.tw2084331650109322480 : True := trivial
theorem holds.tw16801115162389100519 : True := trivial
theorem holds.tw14786066558164337950 : True := trivial
theorem holds.tw16139409775219458943 : True := trivial
theorem holds.tw12528141070781557109 : True := trivial
theorem holds.tw7459122314025714673 : True := trivial
theorem holds.tw11568272619759294016 : True := trivial
theorem holds.tw9647410926604887880 : True := trivial
theorem holds.tw15349486494167490861 : True := trivial
theorem holds.tw3210078786618844196 : True := trivial
theorem holds.tw1357463484097335404 : True := trivial
theorem holds.tw5498966250228494579 : True := trivial
theorem holds.tw10952790815543276595 : True := trivial
theorem holds.tw5531990279233569197 : True := trivial
theorem holds.tw15356600547250028879 : True := trivial
theorem holds.tw5046306585264764695 : True := trivial
set_option maxRecDepth 100000 in
set_option maxHeartbeats 16000000 in
theorem holds : PySem.Challenge.rw_sy0020_01.Holds := by
  w_on
  o_law
  k_head
  (case hw => w_witness2)
  w_strict (
    k_fill
    intro w s₀ s₁ mg mb G Y fa o pm cd doc dV kV ho hd hcd hD hmg hg args vals as hpre hlay hrd hwl hlo
    have KX := kIn_of Y
    refine Ground.open G ?_
    intro T B D TE TW
    wrow_args hpre hlay hrd hwl hlo
    all_goals (
      first | refine callC_kw (enter_call ?_) | refine enter_call ?_ | refine callC_kw (enter_callW ?_) | refine enter_callW ?_ | w_how
      try refine codeAny_mono ?_ (fun _ _ g => GoodW.toG g))
    refine Mine.LawP.use Mine.fin_law KX T.g T.b T.nolimit T.builtins ?jK ?jN ?jG ?jD ?jL hmg (by assumption) (by assumption) ?jF
    case jK =>
      constructor
      all_goals first
        | exact ⟨_, _, _, _, _, _, _, _, _, by k_is, by k_is⟩
        | (constructor <;> k_is)
        | kernel_rfl
        | exact ⟨_, by k_is, by k_is, by k_is, by k_is⟩
    case jN => exact ⟨⟨_, by k_is⟩, ⟨_, by k_is⟩⟩
    case jG => k_is
    case jD => exact ⟨⟨_, _, _, _, by k_is⟩, ⟨_, _, _, by k_is⟩, ⟨_, _, _, _, by k_is⟩, ⟨_, _, _, by k_is⟩⟩
    case jL => k_is
    case jF =>
      intro G' h' tk' W
      refine Mine.good_true W hg (raisesW_false ?_) ?_
      · wrow_none_raised
      · wrow_post)
end Mine
set_option Elab.async false
theorem PySem.Challenge.cw_sy0020_01_holds : PySem.Challenge.rw_sy0020_01.Holds :=
  Mine.holds
