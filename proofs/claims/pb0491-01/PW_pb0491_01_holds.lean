import PyProof.Rows.All
import Wide.All
import OpenK.AllK
import Wide.FinOn
import PySem.Challenge.RW_pb0491_01
open PySem PySem.W PyProof.Rows
set_option Elab.async false
set_option maxRecDepth 100000
set_option maxHeartbeats 8000000
namespace Mine
open_top hd for PySem.Challenge.rw_pb0491_01
end Mine
open PySem.Spec PySem.Calls
namespace Mine
noncomputable section

noncomputable abbrev PG : Program := PySem.Challenge.pw_pb0491_01
abbrev Led := List (Addr × Obj)
abbrev Loc := List (Str × Value)

noncomputable abbrev LS : List Str := looseW hd.view_39 [Str.ofString "PaperError", Str.ofString "told_objects"]

structure Fn where
  cn : Str
  cs : Scope
  a : Addr
  ccd : Value

structure Sit (w : World) (fn : Fn) where
  mean : ExcName → Option Value
  mg : Str → Option Value
  mb : Str → Option Value
  dp : Nat
  un : Nat
  gd : Option (List Code)
  L : Addr
  outer : List Env
  A₀ : Around
  base : Heap
  h₀ : Heap
  B : Below A₀ base outer h₀
  X : (hd.heap_39 w.params).In h₀
  T : Top hd.view_39 LS mean mg mb h₀
  hk : fn.cs.kind = .function
  above : h₀.objs.size ≤ L

/-- what stands in a hidden place: the names of a comprehension's block, or a fact of an object -/
abbrev BlkE := Loc ⊕ (Obj → Prop)
def BlkOk (h : Heap) (p : Addr × BlkE) : Prop := match p.2 with
  | .inl mb => ∃ f, h.Ns p.1 f ∧ ∀ x v, mb.lookup x = some v → f x = some v
  | .inr P => ∃ o, h.get? p.1 = some o ∧ P o
theorem BlkOk.grow {h h' : Heap} {p : Addr × BlkE} (x : BlkOk h p) (hk : ∀ o, h.get? p.1 = some o → h'.get? p.1 = some o) : BlkOk h' p := by
  obtain ⟨a, b⟩ := p
  cases b with
  | inl mb => obtain ⟨f, ⟨o, es, ep, ho, r⟩, hf⟩ := x; exact ⟨f, ⟨o, es, ep, hk _ ho, r⟩, hf⟩
  | inr P => obtain ⟨o, ho, hp⟩ := x; exact ⟨o, hk _ ho, hp⟩
theorem BlkOk.some {h : Heap} {p : Addr × BlkE} (x : BlkOk h p) : ∃ o, h.get? p.1 = some o := by
  obtain ⟨a, b⟩ := p
  cases b with
  | inl mb => obtain ⟨f, ⟨o, es, ep, ho, r⟩, hf⟩ := x; exact ⟨o, ho⟩
  | inr P => obtain ⟨o, ho, hp⟩ := x; exact ⟨o, ho⟩
theorem BlkOk.same {h h' : Heap} {a : Addr} {p : Addr × BlkE} (x : BlkOk h p) (hs : Heap.SameBut a h h') (hn : p.1 ≠ a) : BlkOk h' p := x.grow fun o e => (hs.2 p.1 hn).trans e

structure Sg where
  m : Loc
  blk : List (Addr × BlkE)
  led : Led

variable {w : World} {fn : Fn}

abbrev Sit.env (S : Sit w fn) : Env := envOfC fn.cn fn.cs S.L fn.a fn.ccd
abbrev Sit.cl (S : Sit w fn) : List (Str × Addr) := cellsFrom (S.L + 1) fn.cs.names []
abbrev Sit.A (S : Sit w fn) : Around := { handled := none, depth := S.dp, frames := some (S.env :: S.outer), guards := S.gd, units := S.un }

def own (S : Sit w fn) (σ : Sg) : List Addr := S.L :: (S.cl.map (·.2) ++ (σ.blk.map (·.1) ++ σ.led.map (·.1)))

structure St (S : Sit w fn) (σ : Sg) (h : Heap) : Prop where
  fr : ∃ f, h.Ns S.L f ∧ ∀ x v, σ.m.lookup x = some v → S.env.kindOf x = some .local → f x = some v
  cel : ∀ x v, σ.m.lookup x = some v → S.env.kindOf x = some .cell → ∃ c, S.cl.lookup x = some c ∧ h.IsCell c (some v)
  cex : ∀ p ∈ S.cl, ∃ v, h.IsCell p.2 v
  blk : ∀ p ∈ σ.blk, BlkOk h p
  led : ∀ p ∈ σ.led, h.get? p.1 = some p.2
  keep : ∀ b o, S.h₀.get? b = some o → h.get? b = some o
  nodup : (own S σ).Nodup
  fresh : ∀ a ∈ own S σ, S.h₀.get? a = none
  low : ∀ p ∈ σ.led, (p.1 == sysModules) = false

section
variable {S : Sit w fn} {σ : Sg} {h h' : Heap}

theorem St.lt (x : St S σ h) : ∀ a ∈ own S σ, a < h.objs.size := by
  intro a ha
  unfold own at ha
  rcases List.mem_cons.mp ha with rfl | ha
  · obtain ⟨f, hn, _⟩ := x.fr; exact hn.lt
  rcases List.mem_append.mp ha with ha | ha
  · obtain ⟨p, hp, rfl⟩ := List.mem_map.mp ha
    obtain ⟨v, hv⟩ := x.cex p hp
    exact hv.lt
  rcases List.mem_append.mp ha with ha | ha
  · obtain ⟨p, hp, rfl⟩ := List.mem_map.mp ha
    obtain ⟨o, ho⟩ := (x.blk p hp).some
    exact Heap.lt_size ho
  · obtain ⟨p, hp, rfl⟩ := List.mem_map.mp ha
    exact Heap.lt_size (x.led p hp)

theorem St.grow (x : St S σ h) (hk : ∀ b o, h.get? b = some o → h'.get? b = some o) : St S σ h' where
  fr := let ⟨f, hn, hf⟩ := x.fr; ⟨f, hn.keeps hk, hf⟩
  cel := fun y v e k => let ⟨c, hc, hv⟩ := x.cel y v e k; ⟨c, hc, hv.keeps hk⟩
  cex := fun p hp => let ⟨v, hv⟩ := x.cex p hp; ⟨v, hv.keeps hk⟩
  blk := fun p hp => (x.blk p hp).grow fun o e => hk _ _ e
  led := fun p hp => hk _ _ (x.led p hp)
  keep := fun b o e => hk _ _ (x.keep b o e)
  nodup := x.nodup
  fresh := x.fresh
  low := x.low

theorem none_of_ge {h₀ : Heap} {a : Addr} (ha : h₀.objs.size ≤ a) : h₀.get? a = none := by
  cases e : h₀.get? a with
  | none => rfl
  | some o => exact absurd (Heap.lt_size e) (Nat.not_lt.mpr ha)

theorem ge_modules {a : Addr} (hb : S.h₀.objs.size ≤ a) : (a == sysModules) = false := by
  have h1 := modules_low S.T.nolimit
  have h2 : sysModules < a := Nat.lt_of_lt_of_le h1 hb
  exact beq_eq_false_iff_ne.mpr (Nat.ne_of_gt h2)

theorem St.size (x : St S σ h) : S.h₀.objs.size ≤ h.objs.size := by
  obtain ⟨f, hn, _⟩ := x.fr
  exact Nat.le_trans S.above (Nat.le_of_lt hn.lt)

theorem nodup_insert {a : Addr} {A B C : List Addr} {L : Addr} (hn : (L :: (A ++ (B ++ C))).Nodup) (ha : a ∉ (L :: (A ++ (B ++ C)))) : (L :: (A ++ (B ++ (a :: C)))).Nodup := by
  have : (L :: (A ++ (B ++ (a :: C)))).Perm (a :: (L :: (A ++ (B ++ C)))) := by
    have h1 : (B ++ (a :: C)).Perm (a :: (B ++ C)) := List.perm_middle
    have h2 : (A ++ (B ++ (a :: C))).Perm (a :: (A ++ (B ++ C))) := (h1.append_left A).trans List.perm_middle
    exact (h2.cons L).trans (List.Perm.swap _ _ _)
  exact this.nodup_iff.mpr (List.nodup_cons.mpr ⟨ha, hn⟩)

theorem St.alloc (x : St S σ h) {o : Obj} (hf : o.isFreed = false) : St S { σ with led := (h.objs.size, o) :: σ.led } (h.push o) := by
  have hk : ∀ b o', h.get? b = some o' → (h.push o).get? b = some o' := fun b o' e => Heap.get?_push_of_some _ e
  have y := x.grow hk
  have hna : h.objs.size ∉ own S σ := fun hm => Nat.lt_irrefl _ (x.lt _ hm)
  refine ⟨y.fr, y.cel, y.cex, y.blk, ?_, y.keep, ?_, ?_, ?_⟩
  · intro p hp
    rcases List.mem_cons.mp hp with rfl | hp
    · exact Heap.get?_push_size _ hf
    · exact y.led p hp
  · exact nodup_insert x.nodup hna
  · intro a ha
    unfold own at ha
    simp only [List.map_cons, List.mem_cons, List.mem_append] at ha
    by_cases e : a = h.objs.size
    · rw [e]; exact none_of_ge x.size
    · refine x.fresh a ?_
      unfold own
      simp only [List.mem_cons, List.mem_append]
      rcases ha with ha | ha | ha | ha | ha
      · exact .inl ha
      · exact .inr (.inl ha)
      · exact .inr (.inr (.inl ha))
      · exact absurd ha e
      · exact .inr (.inr (.inr ha))
  · intro p hp
    rcases List.mem_cons.mp hp with rfl | hp
    · exact ge_modules (S := S) x.size
    · exact x.low p hp

/-- what a change at one owned address leaves -/
theorem St.but_led {pre post : Led} {a : Addr} {o o' : Obj} (x : St S σ h) (hl : σ.led = pre ++ (a, o) :: post) (hs : Heap.SameBut a h h') (ho : h'.get? a = some o') :
    St S { σ with led := pre ++ (a, o') :: post } h' := by
  have nd := x.nodup
  unfold own at nd
  rw [hl] at nd
  simp only [List.map_append, List.map_cons] at nd
  have hmem : ∀ b ∈ own S σ, b = a ∨ b ≠ a := fun b _ => Classical.em _
  have hLa : S.L ≠ a := by
    intro e; subst e
    exact (List.nodup_cons.mp nd).1 (by simp)
  have nd2 := (List.nodup_cons.mp nd).2
  have hcl : ∀ p ∈ S.cl, p.2 ≠ a := by
    intro p hp e
    have := (List.nodup_append.mp nd2).2.2 p.2 (List.mem_map_of_mem hp) a (by simp)
    exact this e
  have nd3 := (List.nodup_append.mp nd2).2.1
  have hbl : ∀ p ∈ σ.blk, p.1 ≠ a := by
    intro p hp e
    have := (List.nodup_append.mp nd3).2.2 p.1 (List.mem_map_of_mem hp) a (by simp)
    exact this e
  have nd4 := (List.nodup_append.mp nd3).2.1
  have hpre : ∀ p ∈ pre, p.1 ≠ a := by
    intro p hp e
    have := (List.nodup_append.mp nd4).2.2 p.1 (List.mem_map_of_mem hp) a (by simp)
    exact this e
  have hpost : ∀ p ∈ post, p.1 ≠ a := by
    intro p hp e
    have := (List.nodup_cons.mp (List.nodup_append.mp nd4).2.1).1
    exact this (e ▸ List.mem_map_of_mem hp)
  have haown : a ∈ own S σ := by unfold own; rw [hl]; simp
  have hown : own S { σ with led := pre ++ (a, o') :: post } = own S σ := by unfold own; rw [hl]; simp
  refine ⟨?_, ?_, ?_, ?_, ?_, ?_, by rw [hown]; exact x.nodup, by rw [hown]; exact x.fresh, ?_⟩
  rotate_left 6
  · intro p hp
    rcases List.mem_append.mp hp with hp | hp
    · exact x.low p (by rw [hl]; exact List.mem_append_left _ hp)
    · rcases List.mem_cons.mp hp with rfl | hp
      · exact x.low (a, o) (by rw [hl]; simp)
      · exact x.low p (by rw [hl]; exact List.mem_append_right _ (.tail _ hp))
  · obtain ⟨f, hn, hf⟩ := x.fr; exact ⟨f, hn.sameBut hs hLa, hf⟩
  · intro y v e k
    obtain ⟨c, hc, hv⟩ := x.cel y v e k
    exact ⟨c, hc, hv.sameBut hs (hcl _ (mem_of_lookup hc))⟩
  · intro p hp; obtain ⟨v, hv⟩ := x.cex p hp; exact ⟨v, hv.sameBut hs (hcl p hp)⟩
  · intro p hp; exact (x.blk p hp).same hs (hbl p hp)
  · intro p hp
    rcases List.mem_append.mp hp with hp | hp
    · exact (hs.2 p.1 (hpre p hp)).trans (x.led p (by rw [hl]; exact List.mem_append_left _ hp))
    · rcases List.mem_cons.mp hp with rfl | hp
      · exact ho
      · exact (hs.2 p.1 (hpost p hp)).trans (x.led p (by rw [hl]; exact List.mem_append_right _ (.tail _ hp)))
  · intro b ob e
    have hb : b ≠ a := by
      intro q; subst q
      have := x.fresh _ haown
      rw [e] at this; cases this
    exact (hs.2 b hb).trans (x.keep b ob e)

theorem St.but_loc {f' : Str → Option Value} {m' : Loc} (x : St S σ h) (hs : Heap.SameBut S.L h h') (hn' : h'.Ns S.L f')
    (hm : ∀ y v, m'.lookup y = some v → S.env.kindOf y = some .local → f' y = some v)
    (hc : ∀ y v, m'.lookup y = some v → S.env.kindOf y = some .cell → σ.m.lookup y = some v) : St S { σ with m := m' } h' := by
  have nd := x.nodup
  unfold own at nd
  have hL := (List.nodup_cons.mp nd).1
  have hcl : ∀ p ∈ S.cl, p.2 ≠ S.L := fun p hp e => hL (by rw [← e]; exact List.mem_append_left _ (List.mem_map_of_mem hp))
  have hbl : ∀ p ∈ σ.blk, p.1 ≠ S.L := fun p hp e => hL (by rw [← e]; exact List.mem_append_right _ (List.mem_append_left _ (List.mem_map_of_mem hp)))
  have hld : ∀ p ∈ σ.led, p.1 ≠ S.L := fun p hp e => hL (by rw [← e]; exact List.mem_append_right _ (List.mem_append_right _ (List.mem_map_of_mem hp)))
  refine ⟨⟨f', hn', hm⟩, ?_, ?_, ?_, ?_, ?_, x.nodup, x.fresh, x.low⟩
  · intro y v e k
    obtain ⟨c, hcc, hv⟩ := x.cel y v (hc y v e k) k
    exact ⟨c, hcc, hv.sameBut hs (hcl _ (mem_of_lookup hcc))⟩
  · intro p hp; obtain ⟨v, hv⟩ := x.cex p hp; exact ⟨v, hv.sameBut hs (hcl p hp)⟩
  · intro p hp; exact (x.blk p hp).same hs (hbl p hp)
  · intro p hp; exact (hs.2 p.1 (hld p hp)).trans (x.led p hp)
  · intro b ob e
    refine (hs.2 b (fun q => ?_)).trans (x.keep b ob e)
    have := x.fresh S.L (by unfold own; exact List.mem_cons_self)
    rw [← q, e] at this; cases this

theorem St.but_cell {c : Addr} {y₀ : Str} {v₀ : Value} {m' : Loc} (x : St S σ h) (hc₀ : S.cl.lookup y₀ = some c) (hs : Heap.SameBut c h h') (hv' : h'.IsCell c (some v₀))
    (hm : ∀ y v, m'.lookup y = some v → S.env.kindOf y = some .local → σ.m.lookup y = some v)
    (hc : ∀ y v, m'.lookup y = some v → S.env.kindOf y = some .cell → (y = y₀ ∧ v = v₀) ∨ (y ≠ y₀ ∧ σ.m.lookup y = some v)) : St S { σ with m := m' } h' := by
  have nd := x.nodup
  unfold own at nd
  have hcm : c ∈ S.cl.map (·.2) := List.mem_map_of_mem (f := (·.2)) (mem_of_lookup hc₀)
  have hL : S.L ≠ c := fun e => (List.nodup_cons.mp nd).1 (by rw [e]; exact List.mem_append_left _ hcm)
  have nd2 := (List.nodup_cons.mp nd).2
  have ndc := (List.nodup_append.mp nd2).1
  have apart : S.cl.Pairwise fun a b => a.2 ≠ b.2 := List.pairwise_map.mp ndc
  have hrest : ∀ b ∈ σ.blk.map (·.1) ++ σ.led.map (·.1), b ≠ c := fun b hb e => (List.nodup_append.mp nd2).2.2 c hcm b hb e.symm
  refine ⟨?_, ?_, ?_, ?_, ?_, ?_, x.nodup, x.fresh, x.low⟩
  · obtain ⟨f, hn, hf⟩ := x.fr
    exact ⟨f, hn.sameBut hs hL, fun y v e k => hf y v (hm y v e k) k⟩
  · intro y v e k
    rcases hc y v e k with ⟨rfl, rfl⟩ | ⟨hy, he⟩
    · exact ⟨c, hc₀, hv'⟩
    · obtain ⟨c', hc', hv⟩ := x.cel y v he k
      have hcc : c' ≠ c := fun q => hy (name_of_addr apart (mem_of_lookup hc') (q ▸ mem_of_lookup hc₀))
      exact ⟨c', hc', hv.sameBut hs hcc⟩
  · intro p hp
    by_cases e : p.2 = c
    · exact ⟨_, e ▸ hv'⟩
    · obtain ⟨v, hv⟩ := x.cex p hp; exact ⟨v, hv.sameBut hs e⟩
  · intro p hp; exact (x.blk p hp).same hs (hrest _ (List.mem_append_left _ (List.mem_map_of_mem hp)))
  · intro p hp; exact (hs.2 p.1 (hrest _ (List.mem_append_right _ (List.mem_map_of_mem hp)))).trans (x.led p hp)
  · intro b ob e
    refine (hs.2 b (fun q => ?_)).trans (x.keep b ob e)
    have := x.fresh c (by unfold own; exact .tail _ (List.mem_append_left _ hcm))
    rw [← q, e] at this; cases this

/-- forget names, reorder and drop ledger entries -/
theorem St.weak {m' : Loc} (x : St S σ h) (hm : ∀ y v, m'.lookup y = some v → σ.m.lookup y = some v) : St S { σ with m := m' } h :=
  ⟨let ⟨f, hn, hf⟩ := x.fr; ⟨f, hn, fun y v e => hf y v (hm y v e)⟩, fun y v e => x.cel y v (hm y v e), x.cex, x.blk, x.led, x.keep, x.nodup, x.fresh, x.low⟩

theorem St.perm {led' : Led} (x : St S σ h) (hp : σ.led.Perm led') : St S { σ with led := led' } h := by
  have hown : (own S σ).Perm (own S { σ with led := led' }) := by
    unfold own
    exact ((((hp.map _).append_left _)).append_left _).cons _
  exact ⟨x.fr, x.cel, x.cex, x.blk, fun p q => x.led p (hp.mem_iff.mpr q), x.keep, hown.nodup_iff.mp x.nodup, fun a ha => x.fresh a (hown.mem_iff.mpr ha), fun p q => x.low p (hp.mem_iff.mpr q)⟩

theorem St.sub {led' : Led} (x : St S σ h) (hp : led'.Sublist σ.led) : St S { σ with led := led' } h := by
  have hown : (own S { σ with led := led' }).Sublist (own S σ) := by
    unfold own
    exact (List.Sublist.append_left (List.Sublist.append_left (hp.map _) _) _).cons_cons _
  exact ⟨x.fr, x.cel, x.cex, x.blk, fun p q => x.led p (hp.subset q), x.keep, hown.nodup x.nodup, fun a ha => x.fresh a (hown.subset ha), fun p q => x.low p (hp.subset q)⟩
end

def W {α : Type} (S : Sit w fn) (σ : Sg) (t : Sem α) (Q : α → Sg → Prop) (E : Value → Heap → Prop) : Prop :=
  ∀ s : Shared, St S σ s.heap → wpAny (model PG w) S.A t (fun v s' => ∃ σ' h' tk', s' = { s with heap := h', toks := tk' } ∧ St S σ' h' ∧ Q v σ')
    (fun e s' => ∃ h' tk', s' = { s with heap := h', toks := tk' } ∧ E e h') s

section
variable {S : Sit w fn} {σ : Sg} {α β : Type} {E : Value → Heap → Prop}

theorem W.mono {t : Sem α} {Q Q' : α → Sg → Prop} (h : W S σ t Q E) (hq : ∀ v σ', Q v σ' → Q' v σ') : W S σ t Q' E := fun s x =>
  wpAny_mono (h s x) (fun _ _ ⟨σ', h', tk', e, y, q⟩ => ⟨σ', h', tk', e, y, hq _ _ q⟩) fun _ _ e => e

theorem W.pure {a : α} {Q : α → Sg → Prop} (h : Q a σ) : W S σ (Pure.pure a : Sem α) Q E := fun s x => wpAny_pure ⟨σ, s.heap, s.toks, rfl, x, h⟩

theorem W.bind {m : Sem α} {f : α → Sem β} {Q : β → Sg → Prop} (h : W S σ m (fun a σ' => W S σ' (f a) Q E) E) : W S σ (m >>= f) Q E := fun s x => by
  refine wpAny_bind (wpAny_mono (h s x) (fun a s₁ h₁ => ?_) fun _ _ e => e)
  obtain ⟨σ', h', tk', rfl, y, q⟩ := h₁
  refine wpAny_mono (q _ y) (fun b s₂ h₂ => ?_) (fun e s₂ h₂ => ?_)
  · obtain ⟨σ₂, h'', tk'', rfl, z, q'⟩ := h₂
    exact ⟨σ₂, h'', tk'', rfl, z, q'⟩
  · obtain ⟨h'', tk'', rfl, q'⟩ := h₂
    exact ⟨h'', tk'', rfl, q'⟩

/-- a rule of the library, taken as it stands -/
theorem W.of {t : Sem α} {Q : α → Sg → Prop}
    (h : ∀ s : Shared, St S σ s.heap → wpAny (model PG w) S.A t (fun v s' => ∃ σ' h' tk', s' = { s with heap := h', toks := tk' } ∧ St S σ' h' ∧ Q v σ')
      (fun e s' => ∃ h' tk', s' = { s with heap := h', toks := tk' } ∧ E e h') s) : W S σ t Q E := h

theorem W.eq {t t' : Sem α} {Q : α → Sg → Prop} (e : t = t') (h : W S σ t' Q E) : W S σ t Q E := e ▸ h

theorem W.weak {t : Sem α} {Q : α → Sg → Prop} {m' : Loc} (hm : ∀ y v, m'.lookup y = some v → σ.m.lookup y = some v) (h : W S { σ with m := m' } t Q E) : W S σ t Q E :=
  fun s x => h s (x.weak hm)
theorem W.perm {t : Sem α} {Q : α → Sg → Prop} {led' : Led} (hp : σ.led.Perm led') (h : W S { σ with led := led' } t Q E) : W S σ t Q E :=
  fun s x => h s (x.perm hp)
theorem W.sub {t : Sem α} {Q : α → Sg → Prop} {led' : Led} (hp : led'.Sublist σ.led) (h : W S { σ with led := led' } t Q E) : W S σ t Q E :=
  fun s x => h s (x.sub hp)
/-- what the state says -/
theorem W.got {t : Sem α} {Q : α → Sg → Prop} (h : (σ.led.map (·.1)).Nodup → W S σ t Q E) : W S σ t Q E := fun s x => by
  refine h ?_ s x
  have := x.nodup
  unfold own at this
  exact (List.nodup_append.mp (List.nodup_append.mp (List.nodup_cons.mp this).2).2.1).2.1
end
end
end Mine
namespace Mine
noncomputable section
variable {w : World} {fn : Fn} {S : Sit w fn} {σ : Sg} {α β : Type} {E : Value → Heap → Prop}

theorem W.nest {t : Sem α} {f : α → Sem β} {Q : β → Sg → Prop} (h : W S σ t (fun a σ₁ => W S σ₁ (f a) Q E) E) {s : Shared} (x : St S σ s.heap) :
    wpAny (model PG w) S.A t (fun a s₁ => wpAny (model PG w) S.A (f a) (fun v s' => ∃ σ' h' tk', s' = { s with heap := h', toks := tk' } ∧ St S σ' h' ∧ Q v σ')
      (fun e s' => ∃ h' tk', s' = { s with heap := h', toks := tk' } ∧ E e h') s₁) (fun e s' => ∃ h' tk', s' = { s with heap := h', toks := tk' } ∧ E e h') s := by
  refine wpAny_mono (h s x) (fun a s₁ h₁ => ?_) fun _ _ e => e
  obtain ⟨σ', h', tk', rfl, y, q⟩ := h₁
  refine wpAny_mono (q _ y) (fun b s₂ h₂ => ?_) (fun e s₂ h₂ => ?_)
  · obtain ⟨σ₂, h'', tk'', rfl, z, q'⟩ := h₂
    exact ⟨σ₂, h'', tk'', rfl, z, q'⟩
  · obtain ⟨h'', tk'', rfl, q'⟩ := h₂
    exact ⟨h'', tk'', rfl, q'⟩

theorem W.standAt {pos : Pos} {Q : Unit → Sg → Prop} (h : Q () σ) : W S σ (PySem.standAt pos) Q E := fun s x => wpAny_standAt ⟨σ, s.heap, s.toks, rfl, x, h⟩
theorem W.rule {tag : String} {Q : Unit → Sg → Prop} (h : Q () σ) : W S σ (PySem.rule tag) Q E := fun s x => wpAny_rule ⟨σ, s.heap, s.toks, rfl, x, h⟩
theorem W.point {Q : Unit → Sg → Prop} (h : Q () σ) : W S σ PySem.point Q E := fun s x => wpAny_point ⟨σ, s.heap, s.toks, rfl, x, h⟩
theorem W.holding {vs : List Value} {m : Sem α} {Q : α → Sg → Prop} (h : W S σ m Q E) : W S σ (PySem.holding vs m) Q E := fun s x => wpAny_holding (h s x)
theorem W.keep {vs : List Value} {m : Sem α} {Q : α → Sg → Prop} (h : W S σ m Q E) : W S σ (m.keep vs) Q E := fun s x => Calls.wpAny_keep (h s x)
theorem W.operate {vs : List Value} {m : Sem Value} {Q : Value → Sg → Prop} (h : W S σ m Q E) : W S σ (PySem.operate vs m) Q E := fun s x => wpAny_operateT (h s x)
theorem W.release {vs ks : List Value} {Q : Unit → Sg → Prop} (h : Q () σ) : W S σ (PySem.release vs ks) Q E := fun s x Γ p hΓ => by
  rw [Sem.wp_release]; exact ⟨σ, s.heap, s.toks, rfl, x, h⟩
theorem W.letGo {b : Expr} {o r : Value} {Q : Unit → Sg → Prop} (h : Q () σ) : W S σ (letTemporaryGo b o r) Q E := fun s x => wpAny_letTemporaryGo ⟨σ, s.heap, s.toks, rfl, x, h⟩
theorem W.mkInt {i : Int} {Q : Value → Sg → Prop} (h : ∀ t, Q (.int i t) σ) : W S σ (PySem.mkInt i) Q E := fun s x => wpAny_mkInt ⟨σ, s.heap, s.toks + 1, rfl, x, h _⟩
theorem W.mkStr {y : Str} {Q : Value → Sg → Prop} (hy : y.length ≤ sizeLine) (h : ∀ t, Q (.str y t) σ) : W S σ (PySem.mkStr y) Q E := fun s x => wpAny_mkStr ⟨σ, s.heap, s.toks + 1, rfl, x, h _⟩ hy
/-- reading an object of the ledger -/
theorem W.load {a : Addr} {o : Obj} {Q : Obj → Sg → Prop} (ho : (a, o) ∈ σ.led) (h : Q o σ) : W S σ (PySem.load a) Q E := fun s x => wpAny_load (x.led _ ho) ⟨σ, s.heap, s.toks, rfl, x, h⟩
theorem W.alloc {o : Obj} {Q : Addr → Sg → Prop} (hf : o.isFreed = false) (h : ∀ a, Q a { σ with led := (a, o) :: σ.led }) : W S σ (PySem.alloc o) Q E :=
  fun s x => wpAny_alloc ⟨{ σ with led := (s.heap.objs.size, o) :: σ.led }, _, s.toks, rfl, x.alloc hf, h _⟩

-- names
section
variable {env : Env} {n : Str} {pos : Pos} {v : Value} {Q : Value → Sg → Prop}
theorem W.Name (h : W S σ (loadName env n) Q E) (hd : (n == ("__debug__" : Str)) = false := by decide) : W S σ (eval (.Name n pos) env) Q E := fun s x => wpAny_Name (h s x) hd
theorem W.nameL (hl : S.env.kindOf n = some .local) (hv : σ.m.lookup n = some v) (h : Q v σ) : W S σ (loadName S.env n) Q E := fun s x => by
  obtain ⟨f, hn, hf⟩ := x.fr
  exact wpAny_loadName_local S.hk hl hn (hf n v hv hl) ⟨σ, s.heap, s.toks, rfl, x, h⟩
theorem W.nameC (hl : S.env.kindOf n = some .cell) (hv : σ.m.lookup n = some v) (h : Q v σ) : W S σ (loadName S.env n) Q E := fun s x => by
  obtain ⟨c, hc, hi⟩ := x.cel n v hv hl
  exact wpAny_loadName_cell S.hk hl hc hi ⟨σ, s.heap, s.toks, rfl, x, h⟩
/-- a name of a comprehension's own block -/
theorem W.nameB {mb : Loc} (hk : env.scope.kind = .function) (hl : env.kindOf n = some .local) (hm : (env.locals, (.inl mb : BlkE)) ∈ σ.blk) (hv : mb.lookup n = some v) (h : Q v σ) : W S σ (loadName env n) Q E := fun s x => by
  obtain ⟨f, hn, hf⟩ := x.blk _ hm
  exact wpAny_loadName_local hk hl hn (hf n v hv) ⟨σ, s.heap, s.toks, rfl, x, h⟩
/-- a cell of the function's, asked within a block -/
theorem W.nameBC {c : Addr} (hk : env.scope.kind = .function) (hl : env.kindOf n = some .cell) (hc : env.cells.lookup n = some c) (hS : S.env.kindOf n = some .cell) (hcs : S.cl.lookup n = some c) (hv : σ.m.lookup n = some v) (h : Q v σ) : W S σ (loadName env n) Q E := fun s x => by
  obtain ⟨c', hc', hi⟩ := x.cel n v hv hS
  rw [hcs] at hc'
  cases hc'
  exact wpAny_loadName_cell hk hl hc hi ⟨σ, s.heap, s.toks, rfl, x, h⟩
theorem W.nameBF {c : Addr} (hk : env.scope.kind = .function) (hl : env.kindOf n = some .free) (hc : env.cells.lookup n = some c) (hS : S.env.kindOf n = some .cell) (hcs : S.cl.lookup n = some c) (hv : σ.m.lookup n = some v) (h : Q v σ) (hn : (n == ("__classdict__" : Str)) = false := by decide) : W S σ (loadName env n) Q E := fun s x => by
  obtain ⟨c', hc', hi⟩ := x.cel n v hv hS
  rw [hcs] at hc'
  cases hc'
  exact wpAny_loadName_free hk hl hc hi ⟨σ, s.heap, s.toks, rfl, x, h⟩ hn
theorem W.nameG (hg : env.globals = mainGlobals) (hk : env.scope.kind = .function) (hl : env.kindOf n = some .globalImplicit) (hv : nsIn (hd.heap_39 w.params) mainGlobals n = some (some v)) (h : Q v σ)
    (hd : (n == ("__debug__" : Str)) = false := by decide) : W S σ (eval (.Name n pos) env) Q E := fun s x =>
  Name_function_global hk hl (loadGlobal_global (env := env) (by rw [hg]; exact S.T.g.keeps x.keep) (mg_of S.X S.T.g hv) ⟨σ, s.heap, s.toks, rfl, x, h⟩) hd
theorem W.nameBI (hg : env.globals = mainGlobals) (hb : env.builtins = builtinsNs) (hk : env.scope.kind = .function) (hl : env.kindOf n = some .globalImplicit) (hv : nsIn (hd.heap_39 w.params) mainGlobals n = some none) (hbv : bootBuiltins n = some v) (hn : n ≠ "__name__") (h : Q v σ)
    (hd : (n == ("__debug__" : Str)) = false := by decide) : W S σ (eval (.Name n pos) env) Q E := fun s x =>
  Name_function_global hk hl (loadGlobal_builtin (env := env) (by rw [hg]; exact S.T.g.keeps x.keep) (mg_none_of S.X S.T.g hv) (by rw [hb]; exact S.T.b.keeps x.keep) ((S.T.builtins n hn).trans hbv) ⟨σ, s.heap, s.toks, rfl, x, h⟩) hd
end

-- stores
section
variable {env : Env} {n : Str} {pos : Pos} {v : Value} {Q : Unit → Sg → Prop}
theorem lookup_set {m : Loc} {n y : Str} {v u : Value} (e : ((n, v) :: m).lookup y = some u) : (y = n ∧ u = v) ∨ (y ≠ n ∧ m.lookup y = some u) := by
  rw [List.lookup_cons] at e
  cases hb : y == n with
  | true => rw [hb] at e; exact .inl ⟨eq_of_beq hb, (Option.some.inj e).symm⟩
  | false => rw [hb] at e; exact .inr ⟨by simpa using hb, e⟩
theorem W.storeL (hl : S.env.kindOf n = some .local) (h : Q () { σ with m := (n, v) :: σ.m }) : W S σ (storeName S.env n v) Q E := fun s x => by
  obtain ⟨f, hn, hf⟩ := x.fr
  refine wpAny_storeName_local hl hn (fun h' hn' hs => ⟨_, h', _, rfl, x.but_loc hs hn' ?_ ?_, h⟩) (by show (fn.cs.kind == .class || (fn.cs.kind == .module && _)) = false; rw [S.hk]; rfl)
  · intro y u e k
    rcases lookup_set e with ⟨rfl, rfl⟩ | ⟨hy, e⟩
    · simp
    · simp only [if_neg hy]; exact hf y u e k
  · intro y u e k
    rcases lookup_set e with ⟨rfl, rfl⟩ | ⟨hy, e⟩
    · rw [hl] at k; cases k
    · exact e
theorem W.storeC (hl : S.env.kindOf n = some .cell) {c : Addr} (hc : S.cl.lookup n = some c) (h : Q () { σ with m := (n, v) :: σ.m }) : W S σ (storeName S.env n v) Q E := fun s x => by
  obtain ⟨v₀, hv₀⟩ := x.cex _ (mem_of_lookup hc)
  refine wpAny_storeName_cell S.hk hl hc hv₀ fun h' hv hs => ⟨_, h', s.toks, rfl, x.but_cell hc hs hv ?_ ?_, h⟩
  · intro y u e k
    rcases lookup_set e with ⟨rfl, rfl⟩ | ⟨hy, e⟩
    · rw [hl] at k; cases k
    · exact e
  · intro y u e k
    exact lookup_set e
theorem St.but_blk {pre post : List (Addr × BlkE)} {C : Addr} {mb mb' : BlkE} {h h' : Heap} (x : St S σ h) (hb : σ.blk = pre ++ (C, mb) :: post) (hs : Heap.SameBut C h h') (hn : BlkOk h' (C, mb')) :
    St S { σ with blk := pre ++ (C, mb') :: post } h' := by
  have nd := x.nodup
  unfold own at nd
  rw [hb] at nd
  simp only [List.map_append, List.map_cons] at nd
  have hL : S.L ≠ C := by
    intro e; subst e
    exact (List.nodup_cons.mp nd).1 (by simp)
  have nd2 := (List.nodup_cons.mp nd).2
  have hcl : ∀ p ∈ S.cl, p.2 ≠ C := fun p hp e => (List.nodup_append.mp nd2).2.2 p.2 (List.mem_map_of_mem hp) C (by simp) e
  have nd3 := (List.nodup_append.mp nd2).2.1
  have hld : ∀ p ∈ σ.led, p.1 ≠ C := fun p hp e => (List.nodup_append.mp nd3).2.2 C (by simp) p.1 (List.mem_map_of_mem hp) e.symm
  have nd4 := (List.nodup_append.mp nd3).1
  have hpre : ∀ p ∈ pre, p.1 ≠ C := fun p hp e => (List.nodup_append.mp nd4).2.2 p.1 (List.mem_map_of_mem hp) C (by simp) e
  have hpost : ∀ p ∈ post, p.1 ≠ C := fun p hp e => (List.nodup_cons.mp (List.nodup_append.mp nd4).2.1).1 (e ▸ List.mem_map_of_mem hp)
  have hCown : C ∈ own S σ := by unfold own; rw [hb]; simp
  have hown : own S { σ with blk := pre ++ (C, mb') :: post } = own S σ := by unfold own; rw [hb]; simp
  refine ⟨?_, ?_, ?_, ?_, ?_, ?_, by rw [hown]; exact x.nodup, by rw [hown]; exact x.fresh, x.low⟩
  · obtain ⟨f, hn, hf⟩ := x.fr; exact ⟨f, hn.sameBut hs hL, hf⟩
  · intro y u e k; obtain ⟨c, hc, hv⟩ := x.cel y u e k; exact ⟨c, hc, hv.sameBut hs (hcl _ (mem_of_lookup hc))⟩
  · intro p hp; obtain ⟨u, hv⟩ := x.cex p hp; exact ⟨u, hv.sameBut hs (hcl p hp)⟩
  · intro p hp
    rcases List.mem_append.mp hp with hp | hp
    · exact (x.blk p (by rw [hb]; exact List.mem_append_left _ hp)).same hs (hpre p hp)
    · rcases List.mem_cons.mp hp with rfl | hp
      · exact hn
      · exact (x.blk p (by rw [hb]; exact List.mem_append_right _ (.tail _ hp))).same hs (hpost p hp)
  · intro p hp; exact (hs.2 p.1 (hld p hp)).trans (x.led p hp)
  · intro b ob e
    refine (hs.2 b (fun q => ?_)).trans (x.keep b ob e)
    have := x.fresh _ hCown
    rw [← q, e] at this; cases this
/-- an entry of a list of places, and the list as a function of what stands at its place -/
inductive Hole {β : Type} (a : Addr) (o : β) : List (Addr × β) → (β → List (Addr × β)) → Prop
  | head {r} : Hole a o ((a, o) :: r) (fun o' => (a, o') :: r)
  | tail {p r g} : Hole a o r g → Hole a o (p :: r) (fun o' => p :: g o')
section
variable {β : Type} {a b : Addr} {o o' ob : β} {l : List (Addr × β)} {g : β → List (Addr × β)}
theorem Hole.split (h : Hole a o l g) : ∃ pre post, l = pre ++ (a, o) :: post ∧ ∀ o', g o' = pre ++ (a, o') :: post := by
  induction h with
  | head => exact ⟨[], _, rfl, fun _ => rfl⟩
  | @tail p r g _ ih =>
    obtain ⟨pre, post, e1, e2⟩ := ih
    exact ⟨p :: pre, post, by rw [e1]; rfl, fun o' => by show p :: g o' = _; rw [e2]; rfl⟩
theorem Hole.mem (h : Hole a o l g) : (a, o) ∈ l := by
  obtain ⟨_, _, rfl, _⟩ := h.split; simp
theorem Hole.keys (h : Hole a o l g) (o' : β) : (g o').map (·.1) = l.map (·.1) := by
  obtain ⟨_, _, rfl, e⟩ := h.split; rw [e]; simp
theorem Hole.mem' (h : Hole a o l g) : (a, o') ∈ g o' := by
  obtain ⟨_, _, rfl, e⟩ := h.split; rw [e]; simp
theorem Hole.again (h : Hole a o l g) : Hole a o' (g o') g := by
  induction h with
  | head => exact .head
  | tail _ ih => exact .tail ih
theorem Hole.self (h : Hole a o l g) : l = g o := by
  obtain ⟨_, _, e1, e2⟩ := h.split; rw [e1, e2]
theorem Hole.keepAt (h : Hole a o l g) (hb : (b, ob) ∈ l) (hn : b ≠ a) : (b, ob) ∈ g o' := by
  obtain ⟨pre, post, rfl, e⟩ := h.split
  rw [e]
  rcases List.mem_append.mp hb with hb | hb
  · exact List.mem_append_left _ hb
  · rcases List.mem_cons.mp hb with hb | hb
    · exact absurd (Prod.mk.inj hb).1 hn
    · exact List.mem_append_right _ (.tail _ hb)
theorem Hole.app (h : Hole a o l g) (pre : List (Addr × β)) : Hole a o (pre ++ l) (fun o' => pre ++ g o') := by
  induction pre with
  | nil => exact h
  | cons p pre ih => exact .tail ih
/-- a place in a list that has grown -/
theorem Hole.suf {l' : List (Addr × β)} (hs : l <:+ l') (h : Hole a o l g) : Hole a o l' (fun o' => l'.take (l'.length - l.length) ++ g o') := by
  obtain ⟨t, rfl⟩ := hs
  have : (t ++ l).take ((t ++ l).length - l.length) = t := by
    rw [List.length_append, Nat.add_sub_cancel]; simp
  rw [this]
  exact h.app t
end
theorem W.storeB {mb : Loc} {g : BlkE → List (Addr × BlkE)} (hk : env.scope.kind = .function) (hl : env.kindOf n = some .local) (H : Hole env.locals (.inl mb) σ.blk g) (h : Q () { σ with blk := g (.inl ((n, v) :: mb)) }) : W S σ (storeName env n v) Q E := fun s x => by
  obtain ⟨f, hn, hf⟩ := x.blk _ H.mem
  obtain ⟨pre, post, e1, e2⟩ := H.split
  refine wpAny_storeName_local hl hn (fun h' hn' hs => ⟨_, h', _, rfl, ?_, h⟩) (by rw [hk]; rfl)
  rw [e2]
  refine x.but_blk e1 hs ⟨_, hn', ?_⟩
  intro y u e
  rcases lookup_set e with ⟨rfl, rfl⟩ | ⟨hy, e⟩
  · simp
  · simp only [if_neg hy]; exact hf y u e
theorem W.bindName (h : W S σ (storeName env n v) Q E) : W S σ (PySem.bindName env n v) Q E := fun s x => wpAny_bindName (h s x)
theorem W.assignName (h : W S σ (storeName env n v) Q E) : W S σ (assign (.Name n pos) env v) Q E := W.eq (arm_assign_Name _ _ _ _) (W.bind (W.standAt (W.bindName h)))
end

-- expressions
section
variable {env : Env} {pos : Pos} {Q : Value → Sg → Prop}
theorem W.cInt {i : Int} {k} (h : ∀ t, Q (.int i t) σ) : W S σ (eval (.Constant (.int i) k pos) env) Q E := fun s x => wpAny_Constant_int ⟨σ, s.heap, s.toks + 1, rfl, x, h _⟩
theorem W.cStr {y : Str} {k} (h : ∀ t, Q (.str y t) σ) : W S σ (eval (.Constant (.str y) k pos) env) Q E := fun s x => wpAny_Constant_str ⟨σ, s.heap, s.toks + 1, rfl, x, h _⟩
theorem W.cBool {b : Bool} {k} (h : Q (.bool b) σ) : W S σ (eval (.Constant (.bool b) k pos) env) Q E := fun s x => wpAny_Constant_bool ⟨σ, s.heap, s.toks, rfl, x, h⟩
theorem W.cNone {k} (h : Q .none σ) : W S σ (eval (.Constant .none k pos) env) Q E := fun s x => wpAny_Constant_none ⟨σ, s.heap, s.toks, rfl, x, h⟩
theorem W.cBytes {b : List UInt8} {k} (h : ∀ t, Q (.bytes b.toArray t) σ) : W S σ (eval (.Constant (.bytes b) k pos) env) Q E := fun s x => by
  show wpAny _ _ (mkTextBytes b.toArray) _ _ _
  exact wpAny_bind (wpAny_fresh (wpAny_pure ⟨σ, s.heap, s.toks + 1, rfl, x, h _⟩))
theorem W.BinOp {l r op} (h : W S σ (eval l env) (fun a σ₁ => W S σ₁ (eval r env) (fun b σ₂ => W S σ₂ (binaryOp op a b) Q E) E) E) : W S σ (eval (.BinOp l op r pos) env) Q E :=
  W.eq (arm_eval_BinOp _ _ _ _ _) (W.bind (W.mono h fun _ _ h₁ => W.bind (W.holding (W.mono h₁ fun _ _ h₂ => W.bind (W.standAt (W.operate h₂))))))
theorem W.UnaryOp {op y} (h : W S σ (eval y env) (fun a σ₁ => W S σ₁ (unaryOp op a) Q E) E) : W S σ (eval (.UnaryOp op y pos) env) Q E :=
  W.eq (arm_eval_UnaryOp _ _ _ _) (W.bind (W.mono h fun _ _ h₁ => W.bind (W.standAt (W.holding h₁))))
theorem W.Compare1 {l r op} (h : W S σ (eval l env) (fun a σ₁ => W S σ₁ (eval r env) (fun b σ₂ => W S σ₂ (compareOp op a b) Q E) E) E) (hm : behindInMarks op r = false := by with_unfolding_all rfl) :
    W S σ (eval (.Compare l [op] [r] pos) env) Q E := by
  refine W.eq (eval_Compare1 ..) ?_
  rw [markedBehindIn_of_false hm]
  exact W.bind (W.mono h fun _ _ h₁ => W.bind (W.holding (W.mono h₁ fun _ _ h₂ => W.bind (W.standAt (W.operate h₂)))))
theorem W.IfExp {t a b} (h : W S σ (isTrue t env (eval t env)) (fun c σ₁ => if c = true then W S σ₁ (eval a env) Q E else W S σ₁ (eval b env) Q E) E) : W S σ (eval (.IfExp t a b pos) env) Q E := by
  refine W.eq (arm_eval_IfExp _ _ _ _ _) (W.bind (W.mono h fun c σ₁ h₁ => ?_))
  cases c <;> exact h₁
theorem W.And2 {a b} (h : W S σ (eval a env) (fun v σ₁ => W S σ₁ (truthy v) (fun t σ₂ => if t = true then W S σ₂ (eval b env) Q E else Q v σ₂) E) E) : W S σ (eval (.BoolOp .And [a, b] pos) env) Q E := by
  show W S σ (do
    let v ← eval a env
    PySem.standAt pos
    let t ← PySem.holding [v] (truthy v)
    match BoolOp.And, t with
    | .And, false | .Or, true => Pure.pure v
    | _, _ => boolOp pos .And [eval b env]) Q E
  refine W.bind (W.mono h fun v σ₁ h₁ => W.bind (W.standAt (W.bind (W.holding (W.mono h₁ fun t σ₂ h₂ => ?_)))))
  cases t with
  | false => exact W.pure h₂
  | true => exact h₂
theorem W.Or2 {a b} (h : W S σ (eval a env) (fun v σ₁ => W S σ₁ (truthy v) (fun t σ₂ => if t = true then Q v σ₂ else W S σ₂ (eval b env) Q E) E) E) : W S σ (eval (.BoolOp .Or [a, b] pos) env) Q E := by
  show W S σ (do
    let v ← eval a env
    PySem.standAt pos
    let t ← PySem.holding [v] (truthy v)
    match BoolOp.Or, t with
    | .And, false | .Or, true => Pure.pure v
    | _, _ => boolOp pos .Or [eval b env]) Q E
  refine W.bind (W.mono h fun v σ₁ h₁ => W.bind (W.standAt (W.bind (W.holding (W.mono h₁ fun t σ₂ h₂ => ?_)))))
  cases t with
  | false => exact h₂
  | true => exact W.pure h₂
theorem W.Attr {e : Expr} {attr : Str} (h : W S σ (eval e env) (fun o σ₁ => W S σ₁ (getAttr o attr true) Q E) E)
    (he : eval (.Attribute e attr pos) env = (do
      let o ← eval e env
      PySem.standAt pos.atName
      let r ← PySem.holding [o] (getAttr o attr true)
      letTemporaryGo e o r
      Pure.pure r) := by with_unfolding_all rfl) : W S σ (eval (.Attribute e attr pos) env) Q E :=
  W.eq he (W.bind (W.mono h fun _ _ h₁ => W.bind (W.standAt (W.bind (W.holding (W.mono h₁ fun _ _ h₂ => W.bind (W.letGo (W.pure h₂))))))))
theorem W.Subscript {a b : Expr} (h : W S σ (eval a env) (fun o σ₁ => W S σ₁ (eval b env) (fun i σ₂ => W S σ₂ (subscriptTail a b o i) Q E) E) E) : W S σ (eval (.Subscript a b pos) env) Q E :=
  W.eq (arm_eval_Subscript _ _ _ _) (W.bind (W.mono h fun _ _ h₁ => W.bind (W.holding (W.mono h₁ fun _ _ h₂ => W.bind (W.standAt h₂)))))
end
end
end Mine
namespace Mine
noncomputable section
variable {w : World} {fn : Fn} {S : Sit w fn} {σ : Sg} {α β : Type} {E : Value → Heap → Prop}

def retOf : Flow → Value
  | .ret v => v
  | _ => .none

theorem bindL_skip {k : Str → Option NameKind} : ∀ (r : Loc) (m : Str → Option Value) (x : Str), r.reverse.lookup x = none → bindL k r m x = m x
  | [], _, _, _ => rfl
  | (n, u) :: r, m, x, h => by
    rw [List.reverse_cons, List.lookup_append, Option.or_eq_none_iff] at h
    have hx : x ≠ n := by
      rintro rfl
      simp at h
    unfold bindL
    rw [bindL_skip r _ x h.1]
    split
    · simp [hx]
    · rfl
theorem bindL_get {k : Str → Option NameKind} : ∀ (r : Loc) (m : Str → Option Value) (x : Str) (v : Value), r.reverse.lookup x = some v → k x = some .local → bindL k r m x = some v
  | [], _, _, _, h, _ => by simp at h
  | (n, u) :: r, m, x, v, h, hk => by
    rw [List.reverse_cons, List.lookup_append] at h
    unfold bindL
    cases e : r.reverse.lookup x with
    | some y =>
      rw [e] at h
      simp at h
      subst h
      exact bindL_get r _ x _ e hk
    | none =>
      rw [e] at h
      simp only [Option.none_or, List.lookup_cons, List.lookup_nil] at h
      rw [bindL_skip r _ x e]
      cases hb : x == n with
      | true =>
        rw [hb] at h
        obtain rfl := eq_of_beq hb
        rw [if_pos hk]
        simpa using h
      | false => rw [hb] at h; cases h
theorem bindC_skip {k : Str → Option NameKind} : ∀ (r : Loc) (m : Str → Option Value) (x : Str), r.reverse.lookup x = none → bindC k r m x = m x
  | [], _, _, _ => rfl
  | (n, u) :: r, m, x, h => by
    rw [List.reverse_cons, List.lookup_append, Option.or_eq_none_iff] at h
    have hx : x ≠ n := by
      rintro rfl
      simp at h
    unfold bindC
    rw [bindC_skip r _ x h.1]
    split
    · rfl
    · simp [hx]
theorem bindC_get {k : Str → Option NameKind} : ∀ (r : Loc) (m : Str → Option Value) (x : Str) (v : Value), r.reverse.lookup x = some v → k x = some .cell → bindC k r m x = some v
  | [], _, _, _, h, _ => by simp at h
  | (n, u) :: r, m, x, v, h, hk => by
    rw [List.reverse_cons, List.lookup_append] at h
    unfold bindC
    cases e : r.reverse.lookup x with
    | some y =>
      rw [e] at h
      simp at h
      subst h
      exact bindC_get r _ x _ e hk
    | none =>
      rw [e] at h
      simp only [Option.none_or, List.lookup_cons, List.lookup_nil] at h
      rw [bindC_skip r _ x e]
      cases hb : x == n with
      | true =>
        rw [hb] at h
        obtain rfl := eq_of_beq hb
        rw [if_neg (by rw [hk]; decide)]
        simpa using h
      | false => rw [hb] at h; cases h

theorem St.news {h : Heap} (x : St S σ h) : News S.h₀ S.L h σ.led := fun p hp => by
  refine ⟨x.led p hp, fun e => ?_, x.fresh _ (by unfold own; exact .tail _ (List.mem_append_right _ (List.mem_append_right _ (List.mem_map_of_mem hp))))⟩
  have nd := x.nodup
  unfold own at nd
  exact (List.nodup_cons.mp nd).1 (by rw [← e]; exact List.mem_append_right _ (List.mem_append_right _ (List.mem_map_of_mem hp)))

/-- what a call leaves of the caller -/
theorem St.back {h h' : Heap} {fn' : Fn} {S' : Sit w fn'} {σ' : Sg} (x : St S σ h) (e : S'.h₀ = hideAll h (σ.led.map (·.1))) (y : St S' σ' h') : St S { σ with led := σ'.led } h' := by
  have nd := x.nodup
  unfold own at nd
  have hkp : ∀ b, b ∉ σ.led.map (·.1) → ∀ o, h.get? b = some o → S'.h₀.get? b = some o := fun b hb o hq => by rw [e]; exact hideAll_get _ hq hb
  have hL : S.L ∉ σ.led.map (·.1) := fun q => (List.nodup_cons.mp nd).1 (List.mem_append_right _ (List.mem_append_right _ q))
  have nd2 := (List.nodup_cons.mp nd).2
  have hcl : ∀ p ∈ S.cl, p.2 ∉ σ.led.map (·.1) := fun p hp q => (List.nodup_append.mp nd2).2.2 p.2 (List.mem_map_of_mem hp) p.2 (List.mem_append_right _ q) rfl
  have nd3 := (List.nodup_append.mp nd2).2.1
  have hbl : ∀ p ∈ σ.blk, p.1 ∉ σ.led.map (·.1) := fun p hp q => (List.nodup_append.mp nd3).2.2 p.1 (List.mem_map_of_mem hp) p.1 q rfl
  have hst : ∀ b o, S.h₀.get? b = some o → S'.h₀.get? b = some o := fun b o q => hkp b (fun z => by
    have := x.fresh b (by unfold own; exact .tail _ (List.mem_append_right _ (List.mem_append_right _ z)))
    rw [q] at this; cases this) o (x.keep b o q)
  have some_of : ∀ b ∈ S.L :: (S.cl.map (·.2) ++ σ.blk.map (·.1)), ∃ o, S'.h₀.get? b = some o := by
    intro b hb
    rcases List.mem_cons.mp hb with rfl | hb
    · obtain ⟨f, ⟨o, _, _, ho, _⟩, _⟩ := x.fr; exact ⟨o, hkp _ hL o ho⟩
    rcases List.mem_append.mp hb with hb | hb
    · obtain ⟨p, hp, rfl⟩ := List.mem_map.mp hb
      obtain ⟨v, o, ho, _⟩ := x.cex p hp
      exact ⟨o, hkp _ (hcl p hp) o ho⟩
    · obtain ⟨p, hp, rfl⟩ := List.mem_map.mp hb
      obtain ⟨o, ho⟩ := (x.blk p hp).some
      exact ⟨o, hkp _ (hbl p hp) o ho⟩
  have none_of : ∀ b ∈ σ'.led.map (·.1), S'.h₀.get? b = none := fun b hb => y.fresh b (by unfold own; exact .tail _ (List.mem_append_right _ (List.mem_append_right _ hb)))
  have nd' := y.nodup
  unfold own at nd'
  have ndl : (σ'.led.map (·.1)).Nodup := (List.nodup_append.mp (List.nodup_append.mp (List.nodup_cons.mp nd').2).2.1).2.1
  refine ⟨?_, ?_, ?_, ?_, y.led, fun b o q => y.keep b o (hst b o q), ?_, ?_, y.low⟩
  · obtain ⟨f, ⟨o, es, ep, ho, r⟩, hf⟩ := x.fr
    exact ⟨f, ⟨o, es, ep, y.keep _ _ (hkp _ hL o ho), r⟩, hf⟩
  · intro n v q k
    obtain ⟨c, hc, o, ho, hd⟩ := x.cel n v q k
    exact ⟨c, hc, o, y.keep _ _ (hkp _ (hcl _ (mem_of_lookup hc)) o ho), hd⟩
  · intro p hp
    obtain ⟨v, o, ho, hd⟩ := x.cex p hp
    exact ⟨v, o, y.keep _ _ (hkp _ (hcl p hp) o ho), hd⟩
  · intro p hp
    exact (x.blk p hp).grow fun o ho => y.keep _ _ (hkp _ (hbl p hp) o ho)
  · show (S.L :: (S.cl.map (·.2) ++ (σ.blk.map (·.1) ++ σ'.led.map (·.1)))).Nodup
    have hA : (S.L :: (S.cl.map (·.2) ++ σ.blk.map (·.1))).Nodup := by
      refine List.Sublist.nodup ?_ nd
      exact (List.Sublist.append_left (List.sublist_append_left _ _) _).cons_cons _
    rw [show S.L :: (S.cl.map (·.2) ++ (σ.blk.map (·.1) ++ σ'.led.map (·.1))) = (S.L :: (S.cl.map (·.2) ++ σ.blk.map (·.1))) ++ σ'.led.map (·.1) by simp]
    refine List.nodup_append.mpr ⟨hA, ndl, fun a ha b hb q => ?_⟩
    subst q
    obtain ⟨o, ho⟩ := some_of a ha
    rw [none_of a hb] at ho; cases ho
  · intro a ha
    unfold own at ha
    have ha' : a ∈ (S.L :: (S.cl.map (·.2) ++ σ.blk.map (·.1))) ++ σ'.led.map (·.1) := by simpa using ha
    rcases List.mem_append.mp ha' with ha | ha
    · refine x.fresh a ?_
      unfold own
      rcases List.mem_cons.mp ha with rfl | ha
      · exact .head _
      rcases List.mem_append.mp ha with ha | ha
      · exact .tail _ (List.mem_append_left _ ha)
      · exact .tail _ (List.mem_append_right _ (List.mem_append_left _ ha))
    · cases q : S.h₀.get? a with
      | none => rfl
      | some o => have := hst a o q; rw [none_of a ha] at this; cases this

theorem lookup_mem_nodup : ∀ {cs : List (Str × Addr)} {n : Str} {c : Addr}, (cs.map (·.1)).Nodup → (n, c) ∈ cs → cs.lookup n = some c
  | (n', c') :: cs, n, c, hnd, hm => by
    rw [List.map_cons, List.nodup_cons] at hnd
    rcases List.mem_cons.mp hm with e | hm
    · cases e; simp
    · have hne : n ≠ n' := fun e => hnd.1 (e ▸ List.mem_map.mpr ⟨(n, c), hm, rfl⟩)
      rw [List.lookup_cons, beq_eq_false_iff_ne.mpr hne]
      exact lookup_mem_nodup hnd.2 hm

abbrev CellsNd (scope : Scope) : Prop := ((cellsFrom 0 scope.names []).map (·.1)).Nodup

/-- the call of a def of the text's: what a raise leaves is E' of the callee's frame, passed on by `leaves` -/
theorem W.callDef0 {name qual : Str} {params : Arguments} {body : List Stmt} {scope : Scope} {dV kV doc pm cdv ct oc : Value} {an od : Option Addr} {osl : Array (Option Value)} {f : Addr} {vs : List Value} {binds : Loc} {Q : Value → Sg → Prop}
    (ho : (hd.heap_39 w.params).lookup f = some ⟨oc, od, .func (fnOf name qual params body scope dV kV doc pm an cdv ct), osl⟩) (hcd : codeIn (hd.heap_39 w.params) cdv qual = true) (hroom : S.dp < recursionLimit)
    (hbind : ∀ s : Shared, (hd.heap_39 w.params).In s.heap → BindsTo s (fnOf name qual params body scope dV kV doc pm an cdv ct) ⟨vs, []⟩ binds)
    (hkind : (binds.all fun y => scope.names.lookup y.1 == some .local || scope.names.lookup y.1 == some .cell) = true) (hnd : CellsNd scope)
    (hco : scope.isCoroutine = false) (hgen : scope.isGenerator = false) (hk : scope.kind = .function)
    (E' : ∀ S' : Sit w ⟨qual, scope, f, cdv⟩, Value → Heap → Prop)
    (leaves : ∀ (S' : Sit w ⟨qual, scope, f, cdv⟩) (h : Heap) (s' : Shared) (e : Value), S'.dp = S.dp + 1 → S'.un = S.un + 3 → S'.outer = S.env :: S.outer → S'.base = S.base → S'.h₀ = hideAll h (σ.led.map (·.1)) → St S σ h → E' S' e s'.heap →
      wpAny (model PG w) S'.A (leaving S'.env e) (fun _ s'' => ∃ h' tk', s'' = { s' with heap := h', toks := tk' } ∧ E e h') (fun e' s'' => ∃ h' tk', s'' = { s' with heap := h', toks := tk' } ∧ E e' h') s')
    (h : ∀ S' : Sit w ⟨qual, scope, f, cdv⟩, S'.dp = S.dp + 1 → S'.un = S.un + 3 → W S' ⟨binds.reverse, [], σ.led⟩ (execs body S'.env) (fun fl σ' => Q (retOf fl) { σ with led := σ'.led }) (E' S')) :
    W S σ (call (.ref f) vs) Q E := fun s x => by
  refine wpAny_call ?_
  obtain ⟨fL, hnL, hfL⟩ := x.fr
  have F : Fr S.h₀ S.L s.heap fL := ⟨hnL, x.keep, S.above⟩
  obtain ⟨FG, BG, st, _⟩ := groundX (R := fun _ _ => True) (A := S.A) S.B F x.news rfl rfl S.hk
  have XK := S.X.keeps x.keep
  have st' : ∀ b o, S.h₀.get? b = some o → (hideAll s.heap (σ.led.map (·.1))).get? b = some o := st
  refine codeAny_call_function (fd := fnOf name qual params body scope dV kV doc pm an cdv ct) hroom (XK _ _ ho) rfl hco hgen rfl (codeRec_of XK hcd) (hbind s XK _ _ _ _ ?_)
  have hkk : ∀ y ∈ binds, scope.names.lookup y.1 = some .local ∨ (scope.names.lookup y.1 = some .cell ∧ ((cellsFrom (s.heap.objs.size + 1) scope.names []).lookup y.1).isSome = true) := by
    exact kindsX hkind _
  refine wpAny_newFunctionEnv_cells hk hkk fun env' he s' z => ?_
  subst he
  refine ⟨(S.T.nolimit.keeps x.keep).keeps z.toInCall.keep, codeAny_func ?_⟩
  obtain ⟨h₁, tk, rfl, hk₁⟩ := z.done
  let S' : Sit w ⟨qual, scope, f, cdv⟩ := ⟨S.mean, S.mg, S.mb, S.dp + 1, S.un + 3, S.gd, s.heap.objs.size, S.env :: S.outer, S.A, S.base, hideAll s.heap (σ.led.map (·.1)), BG, S.X.keeps st', S.T.keeps st', hk, Nat.le_of_eq (hideAll_size _ _)⟩
  have hndc : (S'.cl.map (·.1)).Nodup := cellsFrom_names scope.names 0 (s.heap.objs.size + 1) [] [] rfl ▸ hnd
  have y : St S' ⟨binds.reverse, [], σ.led⟩ h₁ := by
    refine ⟨⟨_, z.toInCall.ns, fun n v e k => bindL_get _ _ _ _ e k⟩, ?_, ?_, fun _ hp => (nomatch hp), fun p hp => hk₁ _ _ (x.led p hp), fun b o e => hk₁ b o (of_hideAll _ e), ?_, ?_, x.low⟩
    · intro n v e k
      have hm : n ∈ binds.map (·.1) := by
        have := mem_of_lookup e
        exact List.mem_map.mpr ⟨_, List.mem_reverse.mp this, rfl⟩
      obtain ⟨p, hp, rfl⟩ := List.mem_map.mp hm
      rcases hkk p hp with q | ⟨_, q⟩
      · have k' : scope.names.lookup p.1 = some .cell := k
        rw [q] at k'; cases k'
      · obtain ⟨c, hc⟩ := Option.isSome_iff_exists.mp q
        refine ⟨c, hc, ?_⟩
        have := z.cell p.1 c hc
        have e2 : bindC (envOfC qual scope s.heap.objs.size f cdv).kindOf binds (fun _ => none) p.1 = some v := bindC_get _ _ _ _ e k
        exact e2 ▸ this
    · intro p hp
      exact ⟨_, z.cell p.1 p.2 (lookup_mem_nodup hndc hp)⟩
    · show (s.heap.objs.size :: ((cellsFrom (s.heap.objs.size + 1) scope.names []).map (·.2) ++ ([] ++ σ.led.map (·.1)))).Nodup
      have hled : ∀ b ∈ σ.led.map (·.1), b < s.heap.objs.size := fun b hb => by
        obtain ⟨p, hp, rfl⟩ := List.mem_map.mp hb; exact Heap.lt_size (x.led p hp)
      have hcell : ∀ b ∈ (cellsFrom (s.heap.objs.size + 1) scope.names []).map (·.2), s.heap.objs.size < b := fun b hb => by
        obtain ⟨p, hp, rfl⟩ := List.mem_map.mp hb; exact z.above p.1 p.2 hp
      have ndl : (σ.led.map (·.1)).Nodup := by
        have nd := x.nodup
        unfold own at nd
        exact (List.nodup_append.mp (List.nodup_append.mp (List.nodup_cons.mp nd).2).2.1).2.1
      refine List.nodup_cons.mpr ⟨fun q => ?_, List.nodup_append.mpr ⟨List.pairwise_map.mpr z.apart, ndl, fun a ha b hb q => ?_⟩⟩
      · rcases List.mem_append.mp q with q | q
        · exact Nat.lt_irrefl _ (hcell _ q)
        · exact Nat.lt_irrefl _ (hled _ q)
      · subst q
        exact Nat.lt_asymm (hcell a ha) (hled a hb)
    · intro a ha
      have ha' : a = s.heap.objs.size ∨ a ∈ (cellsFrom (s.heap.objs.size + 1) scope.names []).map (·.2) ∨ a ∈ σ.led.map (·.1) := by
        unfold own at ha
        rcases List.mem_cons.mp ha with rfl | ha
        · exact .inl rfl
        rcases List.mem_append.mp ha with ha | ha
        · exact .inr (.inl ha)
        · exact .inr (.inr ha)
      show (hideAll s.heap (σ.led.map (·.1))).get? a = none
      rcases ha' with rfl | ha' | ha'
      · exact none_of_ge (Nat.le_of_eq (hideAll_size _ _))
      · obtain ⟨p, hp, rfl⟩ := List.mem_map.mp ha'
        exact none_of_ge (by rw [hideAll_size]; exact Nat.le_of_lt (z.above p.1 p.2 hp))
      · exact hideAll_none _ ha'
  refine wpAny_mono (h S' rfl rfl _ y) (fun fl s₂ h₂ => ?_) (fun e s₂ h₂ => ?_)
  · obtain ⟨σ', h', tk', rfl, y', q⟩ := h₂
    exact ⟨_, h', tk', rfl, x.back (S' := S') rfl y', q⟩
  · obtain ⟨h', tk', rfl, q⟩ := h₂
    refine wpAny_mono (leaves S' s.heap _ e rfl rfl rfl rfl rfl x q) (fun _ s₃ h₃ => ?_) (fun e' s₃ h₃ => ?_)
    · obtain ⟨h'', tk'', rfl, q'⟩ := h₃; exact ⟨h'', tk'', rfl, q'⟩
    · obtain ⟨h'', tk'', rfl, q'⟩ := h₃; exact ⟨h'', tk'', rfl, q'⟩

/-- a def that does not raise; mm: its parameters, the last first -/
theorem W.callDef {name qual : Str} {params : Arguments} {body : List Stmt} {scope : Scope} {dV kV doc pm cdv ct oc : Value} {an od : Option Addr} {osl : Array (Option Value)} {f : Addr} {vs : List Value} (mm : Loc) {Q : Value → Sg → Prop}
    (ho : (hd.heap_39 w.params).lookup f = some ⟨oc, od, .func (fnOf name qual params body scope dV kV doc pm an cdv ct), osl⟩) (hcd : codeIn (hd.heap_39 w.params) cdv qual = true) (hroom : S.dp < recursionLimit)
    (hbind : ∀ s : Shared, (hd.heap_39 w.params).In s.heap → BindsTo s (fnOf name qual params body scope dV kV doc pm an cdv ct) ⟨vs, []⟩ mm.reverse)
    (hkind : (mm.reverse.all fun y => scope.names.lookup y.1 == some .local || scope.names.lookup y.1 == some .cell) = true) (hnd : CellsNd scope)
    (hco : scope.isCoroutine = false) (hgen : scope.isGenerator = false) (hk : scope.kind = .function)
    (h : ∀ S' : Sit w ⟨qual, scope, f, cdv⟩, S'.dp = S.dp + 1 → S'.un = S.un + 3 → W S' ⟨mm, [], σ.led⟩ (execs body S'.env) (fun fl σ' => Q (retOf fl) { σ with led := σ'.led }) (fun _ _ => False)) :
    W S σ (call (.ref f) vs) Q E :=
  W.callDef0 ho hcd hroom hbind hkind hnd hco hgen hk (fun _ _ _ => False) (fun _ _ _ _ _ _ _ _ _ _ z => z.elim) (fun S' a b => by rw [List.reverse_reverse]; exact h S' a b)
end
end Mine
namespace Mine
noncomputable section
variable {w : World} {fn : Fn} {S : Sit w fn} {σ : Sg} {α β : Type} {E : Value → Heap → Prop}

abbrev lstObj (vs : List Value) (n : Nat) : Obj := { cls := .type "list", data := .seq vs.toArray n }
abbrev tupObj (vs : List Value) : Obj := { cls := .type "tuple", data := .seq vs.toArray }

theorem St.KIn {h : Heap} (x : St S σ h) : (hd.heap_39 w.params).In h := S.X.keeps x.keep

/-- as W.nest, with a fact of every state -/
theorem W.nestP {P : Heap → Prop} {t : Sem α} {f : α → Sem β} {Q : β → Sg → Prop} (hP : ∀ σ' h, St S σ' h → P h) (h : W S σ t (fun a σ₁ => W S σ₁ (f a) Q E) E) {s : Shared} (x : St S σ s.heap) :
    wpAny (model PG w) S.A t (fun a s₁ => P s₁.heap ∧ wpAny (model PG w) S.A (f a) (fun v s' => ∃ σ' h' tk', s' = { s with heap := h', toks := tk' } ∧ St S σ' h' ∧ Q v σ')
      (fun e s' => ∃ h' tk', s' = { s with heap := h', toks := tk' } ∧ E e h') s₁) (fun e s' => ∃ h' tk', s' = { s with heap := h', toks := tk' } ∧ E e h') s := by
  refine wpAny_mono (h s x) (fun a s₁ h₁ => ?_) fun _ _ e => e
  obtain ⟨σ', h', tk', rfl, y, q⟩ := h₁
  refine ⟨hP _ _ y, wpAny_mono (q _ y) (fun b s₂ h₂ => ?_) (fun e s₂ h₂ => ?_)⟩
  · obtain ⟨σ₂, h'', tk'', rfl, z, q'⟩ := h₂
    exact ⟨σ₂, h'', tk'', rfl, z, q'⟩
  · obtain ⟨h'', tk'', rfl, q'⟩ := h₂
    exact ⟨h'', tk'', rfl, q'⟩

-- calls
section
variable {env : Env} {pos : Pos} {Q : Value → Sg → Prop}
theorem W.Call {id : Str} {p : Pos} {args : List Expr} (h : W S σ (eval (.Name id p) env) (fun f σ₁ => W S σ₁ (callWith pos f [] (backTo pos (starEach args env)) []) Q E) E) :
    W S σ (eval (.Call (.Name id p) args [] pos) env) Q E := W.eq (arm_eval_Call_Name' _ _ _ _ _ _) (W.bind h)
theorem W.spNil {Q : List Value → Sg → Prop} (h : Q [] σ) : W S σ (spliced (backTo pos (starEach [] env))) Q E := W.pure h
theorem W.spCons {e : Expr} {rest : List Expr} {Q : List Value → Sg → Prop} (h : W S σ (eval e env) (fun v σ₁ => W S σ₁ (spliced (backTo pos (starEach rest env))) (fun vs σ₂ => Q (v :: vs) σ₂) E) E)
    (he : starEach (e :: rest) env = (false, eval e env) :: starEach rest env := by rfl) : W S σ (spliced (backTo pos (starEach (e :: rest) env))) Q E := by
  rw [he]
  show W S σ (do
    let v ← eval e env
    let here ← (Pure.pure [v] : Sem (List Value))
    return here ++ (← PySem.holding here (spliced (backTo pos (starEach rest env))))) Q E
  exact W.bind (W.mono h fun v σ₁ h₁ => W.bind (W.pure (W.bind (W.holding (W.mono h₁ fun vs σ₂ h₂ => W.pure h₂)))))
theorem W.cwK {f : Value} {first : List Value} {e : Expr} {rest : List Expr} (hk : keepIn (hd.heap_39 w.params) f = true) (h : W S σ (spliced (backTo pos (starEach (e :: rest) env))) (fun vs σ₁ => W S σ₁ (call f (first ++ vs)) Q E) E)
    (he : starEach (e :: rest) env = (false, eval e env) :: starEach rest env := by rfl) (hplain : (backTo pos (starEach rest env)).any (·.1) = false := by rfl) : W S σ (callWith pos f first (backTo pos (starEach (e :: rest) env)) []) Q E :=
  fun _ x => callWith_K (K := hd.heap_39 w.params) S.X hk (W.nestP (P := (hd.heap_39 w.params).In) (fun _ _ y => y.KIn) h x) he hplain
theorem W.cwK0 {f : Value} {first : List Value} (hk : keepIn (hd.heap_39 w.params) f = true) (h : W S σ (call f (first ++ [])) Q E) : W S σ (callWith pos f first (backTo pos (starEach [] env)) []) Q E :=
  fun _ x => callWith_K0 (K := hd.heap_39 w.params) x.KIn hk (h _ x)
theorem W.cwB {id : String} {first : List Value} {e : Expr} {rest : List Expr} (h : W S σ (spliced (backTo pos (starEach (e :: rest) env))) (fun vs σ₁ => W S σ₁ (call (.builtin id) (first ++ vs)) Q E) E)
    (he : starEach (e :: rest) env = (false, eval e env) :: starEach rest env := by rfl) (hplain : (backTo pos (starEach rest env)).any (·.1) = false := by rfl) : W S σ (callWith pos (.builtin id) first (backTo pos (starEach (e :: rest) env)) []) Q E :=
  fun _ x => callWith_method1 (W.nest h x) he hplain
theorem W.cwB0 {id : String} {first : List Value} (h : W S σ (call (.builtin id) first) Q E) : W S σ (callWith pos (.builtin id) first (backTo pos (starEach [] env)) []) Q E :=
  fun _ x => callWith_method0 (h _ x)
theorem W.MCall {o : Expr} {name : Str} {apos : Pos} {args : List Expr} {pl : Sem Bool}
    (h : W S σ (eval o env) (fun ov σ₁ => W S σ₁ (getMethod ov name pl) (fun fx σ₂ => W S σ₂ (callWith pos fx.1 fx.2 (backTo pos (starEach args env)) []) Q E) E) E)
    (he : eval (.Call (.Attribute o name apos) args [] pos) env = (do
      let ov ← eval o env
      PySem.standAt apos.atName
      let (f, first) ← PySem.holding [ov] (getMethod ov name pl)
      callWith pos f first (backTo pos (starEach args env)) []) := by rfl) : W S σ (eval (.Call (.Attribute o name apos) args [] pos) env) Q E :=
  W.eq he (W.bind (W.mono h fun _ _ h₁ => W.bind (W.standAt (W.bind (W.holding (W.mono h₁ fun _ _ h₂ => h₂))))))
end

-- ints
section
variable {a b : Int} {t u : Tok} {Q : Value → Sg → Prop}
theorem W.addI (h : ∀ t', Q (.int (a + b) t') σ) : W S σ (binaryOp .Add (.int a t) (.int b u)) Q E := fun s x => PyProof.Rows.add_int ⟨σ, s.heap, s.toks + 1, rfl, x, h _⟩
theorem W.subI (h : ∀ t', Q (.int (a - b) t') σ) : W S σ (binaryOp .Sub (.int a t) (.int b u)) Q E := fun s x => PyProof.Rows.sub_int ⟨σ, s.heap, s.toks + 1, rfl, x, h _⟩
theorem W.mulI (hm : IntMulOk a b) (h : ∀ t', Q (.int (a * b) t') σ) : W S σ (binaryOp .Mult (.int a t) (.int b u)) Q E := fun s x => PyProof.Rows.mul_int ⟨σ, s.heap, s.toks + 1, rfl, x, h _⟩ hm
theorem W.modI (hb : b ≠ 0) (h : ∀ t', Q (.int (a.fmod b) t') σ) : W S σ (binaryOp .Mod (.int a t) (.int b u)) Q E := fun s x => mod_int' hb ⟨σ, s.heap, s.toks + 1, rfl, x, h _⟩
theorem W.divI (hb : b ≠ 0) (hp : Builtin.divisionGoesByPylong a b = false) (h : ∀ t', Q (.int (a.fdiv b) t') σ) : W S σ (binaryOp .FloorDiv (.int a t) (.int b u)) Q E := fun s x => floordiv_int hb ⟨σ, s.heap, s.toks + 1, rfl, x, h _⟩ (.inl hp)
theorem W.negI (h : ∀ t', Q (.int (-a) t') σ) : W S σ (unaryOp .USub (.int a t)) Q E := fun s x => PyProof.Rows.neg_int ⟨σ, s.heap, s.toks + 1, rfl, x, h _⟩
theorem W.eqI (h : Q (.bool (a == b)) σ) : W S σ (compareOp .Eq (.int a t) (.int b u)) Q E := fun s x => PyProof.Rows.eq_int ⟨σ, s.heap, s.toks, rfl, x, h⟩
theorem W.neI (h : Q (.bool (a != b)) σ) : W S σ (compareOp .NotEq (.int a t) (.int b u)) Q E := fun s x => PyProof.Rows.ne_int ⟨σ, s.heap, s.toks, rfl, x, h⟩
theorem W.ltI (h : Q (.bool (decide (a < b))) σ) : W S σ (compareOp .Lt (.int a t) (.int b u)) Q E := fun s x => PyProof.Rows.lt_int ⟨σ, s.heap, s.toks, rfl, x, h⟩
theorem W.gtI (h : Q (.bool (decide (b < a))) σ) : W S σ (compareOp .Gt (.int a t) (.int b u)) Q E := fun s x => PyProof.Rows.gt_int ⟨σ, s.heap, s.toks, rfl, x, h⟩
theorem W.leI (h : Q (.bool (decide (a ≤ b))) σ) : W S σ (compareOp .LtE (.int a t) (.int b u)) Q E := fun s x => PyProof.Rows.le_int ⟨σ, s.heap, s.toks, rfl, x, h⟩
theorem W.geI (h : Q (.bool (decide (b ≤ a))) σ) : W S σ (compareOp .GtE (.int a t) (.int b u)) Q E := fun s x => PyProof.Rows.ge_int ⟨σ, s.heap, s.toks, rfl, x, h⟩
theorem W.eqS {x y : Str} (h : Q (.bool (x == y)) σ) : W S σ (compareOp .Eq (.str x t) (.str y u)) Q E := fun s z => PyProof.Rows.eq_str ⟨σ, s.heap, s.toks, rfl, z, h⟩
theorem W.neS {x y : Str} (h : Q (.bool (x != y)) σ) : W S σ (compareOp .NotEq (.str x t) (.str y u)) Q E := fun s z => PyProof.Rows.ne_str ⟨σ, s.heap, s.toks, rfl, z, h⟩
theorem W.isNone {v : Value} (h : Q (.bool (v == .none)) σ) : W S σ (compareOp .Is v .none) Q E := fun s x => is_none ⟨σ, s.heap, s.toks, rfl, x, h⟩
theorem W.isNotNone {v : Value} (h : Q (.bool (!(v == .none))) σ) : W S σ (compareOp .IsNot v .none) Q E := fun s x => isNot_none ⟨σ, s.heap, s.toks, rfl, x, h⟩
theorem W.tBool {b : Bool} {Q : Bool → Sg → Prop} (h : Q b σ) : W S σ (truthy (.bool b)) Q E := fun s x => wpAny_truthy_bool ⟨σ, s.heap, s.toks, rfl, x, h⟩
theorem W.notV {v : Value} (h : W S σ (truthy v) (fun b σ₁ => Q (.bool (!b)) σ₁) E) : W S σ (unaryOp .Not v) Q E := fun s x => not_value (h s x)
end

-- lists and tuples
section
variable {l : Addr} {vs : List Value} {n : Nat} {k : Int} {t : Tok} {v : Value}
theorem St.isList {h : Heap} (x : St S σ h) (hl : (l, lstObj vs n) ∈ σ.led) : h.IsList l vs.toArray := ⟨_, x.led _ hl, rfl, n, rfl⟩
theorem St.isTup {h : Heap} (x : St S σ h) (hl : (l, tupObj vs) ∈ σ.led) : IsTup h l vs.toArray := ⟨_, x.led _ hl, rfl, 0, rfl⟩
theorem W.itemL {a b : Expr} {Q : Value → Sg → Prop} (hl : (l, lstObj vs n) ∈ σ.led) (h0 : 0 ≤ k) (hf : k < 2 ^ 63) (hx : vs[k.toNat]? = some v) (h : Q v σ)
    (hs : subscripted b false (.ref l) (.int k t) = PySem.operate [.ref l, .int k t] (getItem (.ref l) (.int k t)) := by with_unfolding_all rfl) : W S σ (subscriptTail a b (.ref l) (.int k t)) Q E :=
  fun s x => tail_any (x.isList hl).typeIs slot_list_getitem.lookup (wpAny_getItem_list (x.isList hl) h0 hf (by simpa using hx) ⟨σ, s.heap, s.toks, rfl, x, h⟩) hs
theorem W.itemT {a b : Expr} {j : Nat} {Q : Value → Sg → Prop} (hl : (l, tupObj vs) ∈ σ.led) (hlo : -(2 ^ 63) ≤ k) (hf : k < 2 ^ 63) (hj : seqIndex? k vs.length = some j) (hx : vs[j]? = some v) (h : Q v σ)
    (hs : subscripted b false (.ref l) (.int k t) = PySem.operate [.ref l, .int k t] (getItem (.ref l) (.int k t)) := by with_unfolding_all rfl) : W S σ (subscriptTail a b (.ref l) (.int k t)) Q E :=
  fun s x => item_tupleT (x.isTup hl) hlo hf hj hx ⟨σ, s.heap, s.toks, rfl, x, h⟩ hs

/-- the state, told in the library's words: a frame and a ledger -/
theorem St.bridge {h : Heap} (x : St S σ h) : ∃ f hid, Fr S.h₀ S.L h f ∧ News S.h₀ S.L h (hid ++ σ.led) ∧ (∀ p ∈ hid, ∀ q ∈ σ.led, p.1 ≠ q.1) ∧
    ∀ h' led', Fr S.h₀ S.L h' f → News S.h₀ S.L h' (hid ++ led') → (led'.map (·.1)).Nodup → (∀ p ∈ hid, ∀ q ∈ led', p.1 ≠ q.1) → (∀ q ∈ led', (q.1 == sysModules) = false) → St S { σ with led := led' } h' := by
  obtain ⟨f, hn, hf⟩ := x.fr
  have nd := x.nodup
  unfold own at nd
  have nd2 := (List.nodup_cons.mp nd).2
  have nd3 := (List.nodup_append.mp nd2).2.1
  have hL : ∀ a ∈ S.cl.map (·.2) ++ σ.blk.map (·.1), a ≠ S.L := fun a ha e => (List.nodup_cons.mp nd).1 (by
    rw [← e]
    rcases List.mem_append.mp ha with ha | ha
    · exact List.mem_append_left _ ha
    · exact List.mem_append_right _ (List.mem_append_left _ ha))
  have hfr : ∀ a ∈ S.cl.map (·.2) ++ σ.blk.map (·.1), S.h₀.get? a = none := fun a ha => x.fresh a (by
    unfold own
    rcases List.mem_append.mp ha with ha | ha
    · exact .tail _ (List.mem_append_left _ ha)
    · exact .tail _ (List.mem_append_right _ (List.mem_append_left _ ha)))
  have hsome : ∀ a ∈ S.cl.map (·.2) ++ σ.blk.map (·.1), h.get? a = some ((h.get? a).getD default) := by
    intro a ha
    have : ∃ o, h.get? a = some o := by
      rcases List.mem_append.mp ha with ha | ha
      · obtain ⟨p, hp, rfl⟩ := List.mem_map.mp ha; obtain ⟨v, o, ho, _⟩ := x.cex p hp; exact ⟨o, ho⟩
      · obtain ⟨p, hp, rfl⟩ := List.mem_map.mp ha; exact (x.blk p hp).some
    obtain ⟨o, ho⟩ := this
    rw [ho]; rfl
  let hid : Led := (S.cl.map (·.2) ++ σ.blk.map (·.1)).map fun a => (a, (h.get? a).getD default)
  have hapart : ∀ a ∈ S.cl.map (·.2) ++ σ.blk.map (·.1), a ∉ σ.led.map (·.1) := by
    intro a ha hq
    rcases List.mem_append.mp ha with ha | ha
    · exact (List.nodup_append.mp nd2).2.2 a ha a (List.mem_append_right _ hq) rfl
    · exact (List.nodup_append.mp nd3).2.2 a ha a hq rfl
  refine ⟨f, hid, ⟨hn, x.keep, S.above⟩, fun p hp => ?_, fun p hp q hq e => ?_, fun h' led' F' N' hnd hap hlow => ?_⟩
  · rcases List.mem_append.mp hp with hp | hp
    · obtain ⟨a, ha, rfl⟩ := List.mem_map.mp hp
      exact ⟨hsome a ha, hL a ha, hfr a ha⟩
    · exact x.news p hp
  · obtain ⟨a, ha, rfl⟩ := List.mem_map.mp hp
    exact hapart a ha (List.mem_map.mpr ⟨q, hq, e.symm⟩)
  · have hsame : ∀ a ∈ S.cl.map (·.2) ++ σ.blk.map (·.1), ∀ o, h.get? a = some o → h'.get? a = some o := by
      intro a ha o ho
      have := (N' (a, (h.get? a).getD default) (List.mem_append_left _ (List.mem_map.mpr ⟨a, ha, rfl⟩))).1
      rw [ho] at this; exact this
    have mcl : ∀ p ∈ S.cl, p.2 ∈ S.cl.map (·.2) ++ σ.blk.map (·.1) := fun p hp => List.mem_append_left _ (List.mem_map_of_mem hp)
    have mbl : ∀ p ∈ σ.blk, p.1 ∈ S.cl.map (·.2) ++ σ.blk.map (·.1) := fun p hp => List.mem_append_right _ (List.mem_map_of_mem hp)
    refine ⟨⟨f, F'.ns, hf⟩, ?_, ?_, ?_, fun p hp => (N' p (List.mem_append_right _ hp)).1, F'.keep, ?_, ?_, hlow⟩
    · intro n v e k
      obtain ⟨c, hc, o, ho, hd⟩ := x.cel n v e k
      exact ⟨c, hc, o, hsame _ (mcl _ (mem_of_lookup hc)) o ho, hd⟩
    · intro p hp
      obtain ⟨v, o, ho, hd⟩ := x.cex p hp
      exact ⟨v, o, hsame _ (mcl p hp) o ho, hd⟩
    · intro p hp
      exact (x.blk p hp).grow fun o ho => hsame _ (mbl p hp) o ho
    · show (S.L :: (S.cl.map (·.2) ++ (σ.blk.map (·.1) ++ led'.map (·.1)))).Nodup
      rw [show S.L :: (S.cl.map (·.2) ++ (σ.blk.map (·.1) ++ led'.map (·.1))) = (S.L :: (S.cl.map (·.2) ++ σ.blk.map (·.1))) ++ led'.map (·.1) by simp]
      refine List.nodup_append.mpr ⟨?_, hnd, fun a ha b hb e => ?_⟩
      · refine List.Sublist.nodup ?_ nd
        exact (List.Sublist.append_left (List.sublist_append_left _ _) _).cons_cons _
      · subst e
        obtain ⟨q, hq, rfl⟩ := List.mem_map.mp hb
        rcases List.mem_cons.mp ha with e | ha
        · exact (N' q (List.mem_append_right _ hq)).2.1 e
        · exact hap (q.1, (h.get? q.1).getD default) (List.mem_map.mpr ⟨q.1, ha, rfl⟩) q hq rfl
    · intro a ha
      have ha' : a ∈ (S.L :: (S.cl.map (·.2) ++ σ.blk.map (·.1))) ++ led'.map (·.1) := by
        unfold own at ha; simpa using ha
      rcases List.mem_append.mp ha' with ha | ha
      · rcases List.mem_cons.mp ha with rfl | ha
        · exact x.fresh _ (by unfold own; exact .head _)
        · exact hfr a ha
      · obtain ⟨q, hq, rfl⟩ := List.mem_map.mp ha
        exact (N' q (List.mem_append_right _ hq)).2.2
theorem St.ledNodup {h : Heap} (x : St S σ h) : (σ.led.map (·.1)).Nodup := by
  have nd := x.nodup
  unfold own at nd
  exact (List.nodup_append.mp (List.nodup_append.mp (List.nodup_cons.mp nd).2).2.1).2.1
/-- a place of the ledger, for the library's rules that change one object -/
theorem St.hole {h : Heap} {a : Addr} {o : Obj} {g : Obj → Led} (x : St S σ h) (H : Hole a o σ.led g) : ∃ f hid, Fr S.h₀ S.L h f ∧ News S.h₀ S.L h (hid ++ σ.led) ∧ UpdF a o (hid ++ σ.led) (fun o' => hid ++ g o') ∧ (∀ o', Upd a o o' (hid ++ σ.led) (hid ++ g o')) ∧
    ∀ h' o', Fr S.h₀ S.L h' f → News S.h₀ S.L h' (hid ++ g o') → St S { σ with led := g o' } h' := by
  obtain ⟨f, hid, F, N, ap, back⟩ := x.bridge
  obtain ⟨pre, post, e1, e2⟩ := H.split
  have nd := x.ledNodup
  rw [e1, List.map_append, List.map_cons] at nd
  have hpost : ∀ p ∈ post, p.1 ≠ a := fun p hp e => (List.nodup_cons.mp (List.nodup_append.mp nd).2.1).1 (List.mem_map.mpr ⟨p, hp, e⟩)
  have hpre : ∀ p ∈ pre, p.1 ≠ a := fun p hp e => (List.nodup_append.mp nd).2.2 p.1 (List.mem_map_of_mem hp) a (by simp) e
  have hhid : ∀ p ∈ hid, p.1 ≠ a := fun p hp e => ap p hp (a, o) H.mem e
  have key : ∀ (l : Led), (∀ p ∈ l, p.1 ≠ a) → UpdF a o (l ++ (a, o) :: post) (fun o' => l ++ (a, o') :: post) := by
    intro l
    induction l with
    | nil => exact fun _ => .head hpost
    | cons p l ih => exact fun hl => .tail (hl p (.head _)) (ih fun q hq => hl q (.tail _ hq))
  have keyU : ∀ (o' : Obj) (l : Led), (∀ p ∈ l, p.1 ≠ a) → Upd a o o' (l ++ (a, o) :: post) (l ++ (a, o') :: post) := by
    intro o' l
    induction l with
    | nil => exact fun _ => .head hpost
    | cons p l ih => exact fun hl => .tail (hl p (.head _)) (ih fun q hq => hl q (.tail _ hq))
  have hl : ∀ p ∈ hid ++ pre, p.1 ≠ a := fun p hp => (List.mem_append.mp hp).elim (hhid p) (hpre p)
  refine ⟨f, hid, F, N, ?_, fun o' => ?_, fun h' o' F' N' => back h' _ F' N' (by rw [H.keys]; exact x.ledNodup) (fun p hp q hq => ?_) (fun q hq => ?_)⟩
  · have := key (hid ++ pre) hl
    rw [e1]
    simp only [e2]
    simpa only [List.append_assoc] using this
  · have := keyU o' (hid ++ pre) hl
    rw [e1, e2]
    simpa only [List.append_assoc] using this
  · have : q.1 ∈ σ.led.map (·.1) := by rw [← H.keys o']; exact List.mem_map_of_mem hq
    obtain ⟨q', hq', e⟩ := List.mem_map.mp this
    exact fun z => ap p hp q' hq' (z.trans e.symm)
  · have : q.1 ∈ σ.led.map (·.1) := by rw [← H.keys o']; exact List.mem_map_of_mem hq
    obtain ⟨q', hq', e⟩ := List.mem_map.mp this
    rw [← e]; exact x.low q' hq'

-- lists: what changes them
section
variable {g : Obj → Led}
theorem W.methL {name : Str} {id : String} {pl : Sem Bool} {Q : Value × List Value → Sg → Prop} (hm : (l, lstObj vs n) ∈ σ.led) (slot : Slot "list" name id) (hty : typeOf (.builtin id) = Pure.pure (.type "method_descriptor")) (h : Q (.builtin id, [.ref l]) σ) :
    W S σ (getMethod (.ref l) name pl) Q E := fun s x => getMethod_builtin ⟨_, x.led _ hm, rfl⟩ PySem.F.plainAttrs_list slot hty (fun a e => by cases e; exact ⟨_, x.led _ hm, rfl⟩) ⟨σ, s.heap, s.toks, rfl, x, h⟩
theorem W.appendL {y : Value} {Q : Value → Sg → Prop} (H : Hole l (lstObj vs n) σ.led g) (hz : vs.length ≤ sizeLine) (h : Q .none { σ with led := g (lstObj (vs ++ [y]) (n + 1)) }) : W S σ (call (.builtin "list.append") [.ref l, y]) Q E := fun s x => by
  obtain ⟨f, hid, F, N, _, U, back⟩ := x.hole H
  have U' := U (lstObj (vs ++ [y]) (n + 1))
  have e : (vs ++ [y]).toArray = vs.toArray.push y := by simp
  refine append_K F N (by unfold lstObj at U'; rw [e] at U'; exact U') (fun h' F' N' => ⟨_, h', _, rfl, back h' _ F' (by unfold lstObj; rw [e]; exact N'), h⟩) (by rw [List.size_toArray]; exact hz)
theorem W.popL {p : List Value} {y : Value} {Q : Value → Sg → Prop} (H : Hole l (lstObj (p ++ [y]) n) σ.led g) (hz : (p ++ [y]).length ≤ sizeLine) (h : Q y { σ with led := g (lstObj p (n + 1)) }) : W S σ (call (.builtin "list.pop") [.ref l]) Q E := fun s x => by
  obtain ⟨f, hid, F, N, _, U, back⟩ := x.hole H
  exact kl_pop F N (kpa_last y p) (U (lstObj p (n + 1))) hz (fun h' F' N' => ⟨_, h', _, rfl, back h' _ F' N', h⟩)
theorem W.popL0 {p : List Value} {y : Value} {u : Tok} {Q : Value → Sg → Prop} (H : Hole l (lstObj (y :: p) n) σ.led g) (hz : (y :: p).length ≤ sizeLine) (h : Q y { σ with led := g (lstObj p (n + 1)) }) : W S σ (call (.builtin "list.pop") [.ref l, .int 0 u]) Q E := fun s x => by
  obtain ⟨f, hid, F, N, _, U, back⟩ := x.hole H
  exact kl_popAt (k := 0) (p := []) F N (by decide) (by simp [seqIndex?]) rfl (U (lstObj p (n + 1))) hz (fun h' F' N' => ⟨_, h', _, rfl, back h' _ F' N', h⟩)
theorem W.insertL0 {y : Value} {u : Tok} {Q : Value → Sg → Prop} (H : Hole l (lstObj vs n) σ.led g) (hz : vs.length ≤ sizeLine) (h : Q .none { σ with led := g (lstObj (y :: vs) (n + 1)) }) : W S σ (call (.builtin "list.insert") [.ref l, .int 0 u, y]) Q E := fun s x => by
  obtain ⟨f, hid, F, N, _, U, back⟩ := x.hole H
  exact kl_insert F N (by decide) (by simp [kl_ins]) (U (lstObj (y :: vs) (n + 1))) hz (fun h' F' N' => ⟨_, h', _, rfl, back h' _ F' N', h⟩)
theorem St.put {h h' : Heap} {a : Addr} {o o' : Obj} (x : St S σ h) (H : Hole a o σ.led g) (hs : Heap.SameBut a h h') (ho : h'.get? a = some o') : St S { σ with led := g o' } h' := by
  obtain ⟨pre, post, e1, e2⟩ := H.split
  rw [e2]
  exact x.but_led e1 hs ho
theorem W.extendL {b : Addr} {us : List Value} {n2 : Nat} {Q : Value → Sg → Prop} (H : Hole l (lstObj vs n) σ.led g) (hb : (b, lstObj us n2) ∈ σ.led) (hz : (vs ++ us).length ≤ sizeLine) (h : ∀ n', Q .none { σ with led := g (lstObj (vs ++ us) n') }) : W S σ (call (.builtin "list.extend") [.ref l, .ref b]) Q E := fun s x => by
  obtain ⟨f, hid, F, N, _, U, back⟩ := x.hole H
  have hb' : (b, lstObj us n2) ∈ hid ++ σ.led := List.mem_append_right _ hb
  have hlen : vs.length + us.length ≤ sizeLine := by rw [← List.length_append]; exact hz
  have hd : ¬(!vs.toArray.isEmpty && Builtin.List.listTooLong (vs.toArray.size + us.toArray.size)) = true := by
    intro q
    have q2 := (Bool.and_eq_true_iff.mp q).2
    unfold Builtin.List.listTooLong at q2
    simp only [List.size_toArray, decide_eq_true_eq] at q2
    omega
  by_cases hu : us.length = 0
  · obtain rfl := List.eq_nil_of_length_eq_zero hu
    rw [List.append_nil] at h
    exact kxn_extend F N hb' rfl (U (lstObj vs n)) hd (by simp; omega) (by simp; omega) (fun h' F' N' => ⟨_, h', _, rfl, back h' _ F' N', h n⟩)
  · exact kl_extend F N hb' (by simp) hu (U (lstObj (vs ++ us) (n + 1))) hd (by simp; omega) (by simp; omega) (fun h' F' N' => ⟨_, h', _, rfl, back h' _ F' N', h (n + 1)⟩)
theorem W.setItemL {k : Int} {t : Tok} {v : Value} {Q : Unit → Sg → Prop} (H : Hole l (lstObj vs n) σ.led g) (h0 : 0 ≤ k) (hf : k < 2 ^ 63) (hn : k < vs.length) (h : Q () { σ with led := g (lstObj (vs.set k.toNat v) n) }) : W S σ (setItem (.ref l) (.int k t) v) Q E := fun s x => by
  have ho := x.led _ H.mem
  refine ki_setAt ho h0 hf (by simpa using hn) ⟨_, _, s.toks, rfl, x.put H (Heap.SameBut.update ..) ?_, h⟩
  have e : Obj.mapSeq (·.setIfInBounds k.toNat v) (lstObj vs n) = lstObj (vs.set k.toNat v) n := by
    simp [Obj.mapSeq, lstObj]
  rw [← e]
  exact Heap.get?_update_self _ ho (by rw [e]; rfl)
end
end
end
end Mine
namespace Mine
noncomputable section
variable {w : World} {fn : Fn} {S : Sit w fn} {σ : Sg} {α β : Type} {E : Value → Heap → Prop}

section
variable {env : Env} {pos : Pos} {Q : Flow → Sg → Prop}
/-- what comes behind a statement -/
def Sq (S : Sit w fn) (env : Env) (rest : List Stmt) (Q : Flow → Sg → Prop) (E : Value → Heap → Prop) : Flow → Sg → Prop
  | .next, σ => W S σ (execs rest env) Q E
  | f, σ => Q f σ
theorem W.xNil (h : Q .next σ) : W S σ (execs [] env) Q E := fun s x => wpAny_execs_nil ⟨σ, s.heap, s.toks, rfl, x, h⟩
theorem W.xCons {st : Stmt} {rest : List Stmt} (h : W S σ (exec st env) (Sq S env rest Q E) E) : W S σ (execs (st :: rest) env) Q E := fun s x => by
  refine wpAny_execs_cons (wpAny_mono (h s x) (fun f s₁ h₁ => ?_) fun _ _ e => e)
  obtain ⟨σ', h', tk', rfl, y, q⟩ := h₁
  cases f with
  | next =>
    refine wpAny_mono (q _ y) (fun b s₂ h₂ => ?_) (fun e s₂ h₂ => ?_)
    · obtain ⟨σ₂, h'', tk'', rfl, z, q'⟩ := h₂; exact ⟨σ₂, h'', tk'', rfl, z, q'⟩
    · obtain ⟨h'', tk'', rfl, q'⟩ := h₂; exact ⟨h'', tk'', rfl, q'⟩
  | brk => exact ⟨σ', h', tk', rfl, y, q⟩
  | cont => exact ⟨σ', h', tk', rfl, y, q⟩
  | ret v => exact ⟨σ', h', tk', rfl, y, q⟩
theorem W.sNext {rest : List Stmt} (h : W S σ (execs rest env) Q E) : Sq S env rest Q E .next σ := h
theorem W.sRet {rest : List Stmt} {v : Value} (h : Q (.ret v) σ) : Sq S env rest Q E (.ret v) σ := h
/-- the ways of a statement meet -/
theorem W.Join {P : Sg → Prop} {t : Sem Flow} {rest : List Stmt} (h1 : W S σ t (fun f σ' => f = .next ∧ P σ') E) (h2 : ∀ σ', P σ' → W S σ' (execs rest env) Q E) : W S σ t (Sq S env rest Q E) E :=
  W.mono h1 fun _ σ' z => by obtain ⟨rfl, p⟩ := z; exact h2 σ' p
theorem W.Pass (h : Q .next σ) : W S σ (exec (.Pass pos) env) Q E := fun s x => wpAny_Pass ⟨σ, s.heap, s.toks, rfl, x, h⟩
theorem W.Return {e : Expr} (h : W S σ (eval e env) (fun v σ₁ => Q (.ret v) σ₁) E) : W S σ (exec (.Return (some e) pos) env) Q E := fun s x => wpAny_Return_some (h s x)
theorem W.If {t : Expr} {a b : List Stmt} (h : W S σ (isTrue t env (eval t env)) (fun c σ₁ => if c = true then W S σ₁ (execs a env) Q E else W S σ₁ (execs b env) Q E) E) : W S σ (exec (.If t a b pos) env) Q E := fun s x => by
  refine wpAny_If (wpAny_mono (h s x) (fun c s₁ h₁ => ?_) fun _ _ e => e)
  obtain ⟨σ', h', tk', rfl, y, q⟩ := h₁
  have fin : ∀ {l : List Stmt}, W S σ' (execs l env) Q E → wpAny (model PG w) S.A (execs l env) (fun v s' => ∃ σ' h' tk', s' = { s with heap := h', toks := tk' } ∧ St S σ' h' ∧ Q v σ') (fun e s' => ∃ h' tk', s' = { s with heap := h', toks := tk' } ∧ E e h') { s with heap := h', toks := tk' } := fun q => by
    refine wpAny_mono (q _ y) (fun b s₂ h₂ => ?_) (fun e s₂ h₂ => ?_)
    · obtain ⟨σ₂, h'', tk'', rfl, z, q'⟩ := h₂; exact ⟨σ₂, h'', tk'', rfl, z, q'⟩
    · obtain ⟨h'', tk'', rfl, q'⟩ := h₂; exact ⟨h'', tk'', rfl, q'⟩
  cases c with
  | true => exact fin q
  | false => exact fin q
theorem W.AssignName {n : Str} {p : Pos} {e : Expr} (h : W S σ (eval e env) (fun v σ₁ => W S σ₁ (storeName env n v) (fun _ σ₂ => Q .next σ₂) E) E)
    (hs : swapsWith e (some (.Name n p)) pos.line env = Pure.pure false := by rfl) : W S σ (exec (.Assign [.Name n p] e pos) env) Q E := fun _ x =>
  wpAny_Assign_Name (wpAny_mono (W.nest (f := fun v => storeName env n v) (Q := fun _ σ₂ => Q .next σ₂) h x) (fun _ _ z => z) fun _ _ z => z) hs
/-- one statement, one target: its value, then the store -/
theorem W.AssignOne {t : Expr} {e : Expr} (he : exec (.Assign [t] e pos) env = (do PySem.standAt pos; let v ← eval e env; assign t env v; Pure.pure Flow.next))
    (h : W S σ (eval e env) (fun v σ₁ => W S σ₁ (assign t env v) (fun _ σ₂ => Q .next σ₂) E) E) : W S σ (exec (.Assign [t] e pos) env) Q E :=
  W.eq he (W.bind (W.standAt (W.bind (W.mono h fun _ _ h₁ => W.bind (W.mono h₁ fun _ _ h₂ => W.pure h₂)))))
theorem W.aAttr {o : Expr} {attr : Str} {v : Value} {Q : Unit → Sg → Prop} (h : W S σ (eval o env) (fun ov σ₁ => W S σ₁ (setAttr ov attr v) Q E) E) : W S σ (assign (.Attribute o attr pos) env v) Q E :=
  W.eq (arm_assign_Attribute _ _ _ _ _) (W.bind (W.holding (W.mono h fun _ _ h₁ => W.bind (W.standAt (W.bind (W.holding (W.mono h₁ fun _ _ h₂ => W.release h₂)))))))
theorem W.aSub {o i : Expr} {v : Value} {Q : Unit → Sg → Prop} (h : W S σ (eval o env) (fun ov σ₁ => W S σ₁ (eval i env) (fun iv σ₂ => W S σ₂ (setItem ov iv v) Q E) E) E) : W S σ (assign (.Subscript o i pos) env v) Q E :=
  W.eq (arm_assign_Subscript _ _ _ _ _) (W.bind (W.holding (W.mono h fun _ _ h₁ => W.bind (W.holding (W.mono h₁ fun _ _ h₂ => W.bind (W.standAt (W.bind (W.holding (W.mono h₂ fun _ _ h₃ => W.release h₃)))))))))
theorem W.ExprV {e : Expr} (h : W S σ (eval e env) (fun v σ₁ => (∀ a, v ≠ .ref a) ∧ Q .next σ₁) E) (hi : interactive env = false := by rfl) (hs : swapsWith e none pos.line env = Pure.pure false := by rfl) : W S σ (exec (.Expr e pos) env) Q E := fun s x => by
  refine wpAny_Expr (wpAny_mono (h s x) (fun v s₁ h₁ => ?_) fun _ _ e => e) hi hs
  obtain ⟨σ', h', tk', rfl, y, hv, q⟩ := h₁
  cases v <;> first | exact (hv _ rfl).elim | exact ⟨σ', h', tk', rfl, y, q⟩

-- tests
variable {Q : Bool → Sg → Prop}
theorem W.tCmp {l r op whole} (h : W S σ (eval l env) (fun a σ₁ => W S σ₁ (eval r env) (fun b σ₂ => W S σ₂ (compareOp op a b) (fun c σ₃ => W S σ₃ (truthy c) Q E) E) E) E)
    (hm : behindInMarks op r = false := by with_unfolding_all rfl) : W S σ (isTrue (.Compare l [op] [r] pos) env whole) Q E := by
  refine W.eq (isTrue_Compare1 ..) ?_
  rw [markedBehindIn_of_false hm]
  exact W.bind (W.mono h fun _ _ h₁ => W.bind (W.holding (W.mono h₁ fun _ _ h₂ => W.bind (W.standAt (W.bind (W.operate (W.mono h₂ fun _ _ h₃ => W.holding h₃)))))))
theorem W.tNot {y whole} (h : W S σ (isTrue y env (eval y env)) (fun b σ₁ => Q (!b) σ₁) E) : W S σ (isTrue (.UnaryOp .Not y pos) env whole) Q E := fun s x => wpAny_isTrue_Not (h s x)
theorem W.tVal {e : Expr} {whole : Sem Value} (h : W S σ whole (fun v σ₁ => W S σ₁ (truthy v) Q E) E)
    (he : isTrue e env whole = (do let v ← whole; PySem.standAt e.pos; PySem.holding [v] (truthy v)) := by rfl) : W S σ (isTrue e env whole) Q E :=
  W.eq he (W.bind (W.mono h fun _ _ h₁ => W.bind (W.standAt (W.holding h₁))))
theorem W.tBool1 {op values whole} (h : W S σ (allTrue op values env) Q E) : W S σ (isTrue (.BoolOp op values pos) env whole) Q E := W.eq (arm_isTrue_BoolOp _ _ _ _ _) h
theorem W.tAndNil (h : Q true σ) : W S σ (allTrue .And [] env) Q E := W.pure h
theorem W.tOrNil (h : Q false σ) : W S σ (allTrue .Or [] env) Q E := W.pure h
theorem W.tAnd {y rest} (h : W S σ (isTrue y env (eval y env)) (fun b σ₁ => if b = true then W S σ₁ (allTrue .And rest env) Q E else Q false σ₁) E) : W S σ (allTrue .And (y :: rest) env) Q E := by
  show W S σ (do match BoolOp.And, ← isTrue y env (eval y env) with | .And, false => Pure.pure false | .Or, true => Pure.pure true | _, _ => allTrue .And rest env) Q E
  refine W.bind (W.mono h fun b σ₁ h₁ => ?_)
  cases b
  · exact W.pure h₁
  · exact h₁
theorem W.tOr {y rest} (h : W S σ (isTrue y env (eval y env)) (fun b σ₁ => if b = true then Q true σ₁ else W S σ₁ (allTrue .Or rest env) Q E) E) : W S σ (allTrue .Or (y :: rest) env) Q E := by
  show W S σ (do match BoolOp.Or, ← isTrue y env (eval y env) with | .And, false => Pure.pure false | .Or, true => Pure.pure true | _, _ => allTrue .Or rest env) Q E
  refine W.bind (W.mono h fun b σ₁ h₁ => ?_)
  cases b
  · exact h₁
  · exact W.pure h₁
end
theorem ite_of {c : Bool} {P R : Prop} (h1 : c = true → P) (h2 : c = false → R) : if c = true then P else R := by
  cases c with
  | true => exact h1 rfl
  | false => exact h2 rfl
end
end Mine
namespace Mine
noncomputable section
variable {w : World} {fn : Fn} {S : Sit w fn} {σ : Sg} {α β : Type} {E : Value → Heap → Prop}
abbrev Sit.at (S : Sit w fn) (d u : Nat) : Sit w fn := { S with dp := d, un := u }
theorem St.at {h : Heap} {d u : Nat} (x : St S σ h) : St (S.at d u) σ h := ⟨x.fr, x.cel, x.cex, x.blk, x.led, x.keep, x.nodup, x.fresh, x.low⟩
theorem St.unat {h : Heap} {d u : Nat} (x : St (S.at d u) σ h) : St S σ h := ⟨x.fr, x.cel, x.cex, x.blk, x.led, x.keep, x.nodup, x.fresh, x.low⟩
/-- the call of a def of the text's: what a raise leaves is E' of the callee's frame, passed on by `leaves` -/
theorem code_def0 {name qual : Str} {params : Arguments} {body : List Stmt} {scope : Scope} {dV kV doc pm cdv ct oc : Value} {an od : Option Addr} {osl : Array (Option Value)} {f : Addr} {vs : List Value} {binds : Loc} {Q : Value → Sg → Prop} {R : Result → Shared → Prop} {s : Shared} (x : St S σ s.heap)
    (hR : ∀ v σ' h' tk', St S σ' h' → Q v σ' → R (.ok (.ret v)) { s with heap := h', toks := tk' }) (hRE : ∀ e h' tk', E e h' → R (.error e) { s with heap := h', toks := tk' })
    (ho : (hd.heap_39 w.params).lookup f = some ⟨oc, od, .func (fnOf name qual params body scope dV kV doc pm an cdv ct), osl⟩) (hcd : codeIn (hd.heap_39 w.params) cdv qual = true) (hroom : S.dp < recursionLimit)
    (hbind : ∀ s : Shared, (hd.heap_39 w.params).In s.heap → BindsTo s (fnOf name qual params body scope dV kV doc pm an cdv ct) ⟨vs, []⟩ binds)
    (hkind : (binds.all fun y => scope.names.lookup y.1 == some .local || scope.names.lookup y.1 == some .cell) = true) (hnd : CellsNd scope)
    (hco : scope.isCoroutine = false) (hgen : scope.isGenerator = false) (hk : scope.kind = .function)
    (E' : ∀ S' : Sit w ⟨qual, scope, f, cdv⟩, Value → Heap → Prop)
    (leaves : ∀ (S' : Sit w ⟨qual, scope, f, cdv⟩) (h : Heap) (s' : Shared) (e : Value), S'.dp = S.dp + 1 → S'.un = S.un + 3 → S'.outer = S.env :: S.outer → S'.base = S.base → S'.h₀ = hideAll h (σ.led.map (·.1)) → St S σ h → E' S' e s'.heap →
      wpAny (model PG w) S'.A (leaving S'.env e) (fun _ s'' => ∃ h' tk', s'' = { s' with heap := h', toks := tk' } ∧ E e h') (fun e' s'' => ∃ h' tk', s'' = { s' with heap := h', toks := tk' } ∧ E e' h') s')
    (h : ∀ S' : Sit w ⟨qual, scope, f, cdv⟩, S'.dp = S.dp + 1 → S'.un = S.un + 3 → W S' ⟨binds.reverse, [], σ.led⟩ (execs body S'.env) (fun fl σ' => Q (retOf fl) { σ with led := σ'.led }) (E' S')) :
    codeAny (model PG w) S.A (.call (.ref f) ⟨vs, []⟩) R s := by
  obtain ⟨fL, hnL, hfL⟩ := x.fr
  have F : Fr S.h₀ S.L s.heap fL := ⟨hnL, x.keep, S.above⟩
  obtain ⟨FG, BG, st, _⟩ := groundX (R := fun _ _ => True) (A := S.A) S.B F x.news rfl rfl S.hk
  have XK := S.X.keeps x.keep
  have st' : ∀ b o, S.h₀.get? b = some o → (hideAll s.heap (σ.led.map (·.1))).get? b = some o := st
  refine codeAny_call_function (fd := fnOf name qual params body scope dV kV doc pm an cdv ct) hroom (XK _ _ ho) rfl hco hgen rfl (codeRec_of XK hcd) (hbind s XK _ _ _ _ ?_)
  have hkk : ∀ y ∈ binds, scope.names.lookup y.1 = some .local ∨ (scope.names.lookup y.1 = some .cell ∧ ((cellsFrom (s.heap.objs.size + 1) scope.names []).lookup y.1).isSome = true) := by
    exact kindsX hkind _
  refine wpAny_newFunctionEnv_cells hk hkk fun env' he s' z => ?_
  subst he
  refine ⟨(S.T.nolimit.keeps x.keep).keeps z.toInCall.keep, codeAny_func ?_⟩
  obtain ⟨h₁, tk, rfl, hk₁⟩ := z.done
  let S' : Sit w ⟨qual, scope, f, cdv⟩ := ⟨S.mean, S.mg, S.mb, S.dp + 1, S.un + 3, S.gd, s.heap.objs.size, S.env :: S.outer, S.A, S.base, hideAll s.heap (σ.led.map (·.1)), BG, S.X.keeps st', S.T.keeps st', hk, Nat.le_of_eq (hideAll_size _ _)⟩
  have hndc : (S'.cl.map (·.1)).Nodup := cellsFrom_names scope.names 0 (s.heap.objs.size + 1) [] [] rfl ▸ hnd
  have y : St S' ⟨binds.reverse, [], σ.led⟩ h₁ := by
    refine ⟨⟨_, z.toInCall.ns, fun n v e k => bindL_get _ _ _ _ e k⟩, ?_, ?_, fun _ hp => (nomatch hp), fun p hp => hk₁ _ _ (x.led p hp), fun b o e => hk₁ b o (of_hideAll _ e), ?_, ?_, x.low⟩
    · intro n v e k
      have hm : n ∈ binds.map (·.1) := by
        have := mem_of_lookup e
        exact List.mem_map.mpr ⟨_, List.mem_reverse.mp this, rfl⟩
      obtain ⟨p, hp, rfl⟩ := List.mem_map.mp hm
      rcases hkk p hp with q | ⟨_, q⟩
      · have k' : scope.names.lookup p.1 = some .cell := k
        rw [q] at k'; cases k'
      · obtain ⟨c, hc⟩ := Option.isSome_iff_exists.mp q
        refine ⟨c, hc, ?_⟩
        have := z.cell p.1 c hc
        have e2 : bindC (envOfC qual scope s.heap.objs.size f cdv).kindOf binds (fun _ => none) p.1 = some v := bindC_get _ _ _ _ e k
        exact e2 ▸ this
    · intro p hp
      exact ⟨_, z.cell p.1 p.2 (lookup_mem_nodup hndc hp)⟩
    · show (s.heap.objs.size :: ((cellsFrom (s.heap.objs.size + 1) scope.names []).map (·.2) ++ ([] ++ σ.led.map (·.1)))).Nodup
      have hled : ∀ b ∈ σ.led.map (·.1), b < s.heap.objs.size := fun b hb => by
        obtain ⟨p, hp, rfl⟩ := List.mem_map.mp hb; exact Heap.lt_size (x.led p hp)
      have hcell : ∀ b ∈ (cellsFrom (s.heap.objs.size + 1) scope.names []).map (·.2), s.heap.objs.size < b := fun b hb => by
        obtain ⟨p, hp, rfl⟩ := List.mem_map.mp hb; exact z.above p.1 p.2 hp
      have ndl : (σ.led.map (·.1)).Nodup := by
        have nd := x.nodup
        unfold own at nd
        exact (List.nodup_append.mp (List.nodup_append.mp (List.nodup_cons.mp nd).2).2.1).2.1
      refine List.nodup_cons.mpr ⟨fun q => ?_, List.nodup_append.mpr ⟨List.pairwise_map.mpr z.apart, ndl, fun a ha b hb q => ?_⟩⟩
      · rcases List.mem_append.mp q with q | q
        · exact Nat.lt_irrefl _ (hcell _ q)
        · exact Nat.lt_irrefl _ (hled _ q)
      · subst q
        exact Nat.lt_asymm (hcell a ha) (hled a hb)
    · intro a ha
      have ha' : a = s.heap.objs.size ∨ a ∈ (cellsFrom (s.heap.objs.size + 1) scope.names []).map (·.2) ∨ a ∈ σ.led.map (·.1) := by
        unfold own at ha
        rcases List.mem_cons.mp ha with rfl | ha
        · exact .inl rfl
        rcases List.mem_append.mp ha with ha | ha
        · exact .inr (.inl ha)
        · exact .inr (.inr ha)
      show (hideAll s.heap (σ.led.map (·.1))).get? a = none
      rcases ha' with rfl | ha' | ha'
      · exact none_of_ge (Nat.le_of_eq (hideAll_size _ _))
      · obtain ⟨p, hp, rfl⟩ := List.mem_map.mp ha'
        exact none_of_ge (by rw [hideAll_size]; exact Nat.le_of_lt (z.above p.1 p.2 hp))
      · exact hideAll_none _ ha'
  refine wpAny_mono (h S' rfl rfl _ y) (fun fl s₂ h₂ => ?_) (fun e s₂ h₂ => ?_)
  · obtain ⟨σ', h', tk', rfl, y', q⟩ := h₂
    exact hR _ _ h' tk' (x.back (S' := S') rfl y') q
  · obtain ⟨h', tk', rfl, q⟩ := h₂
    refine wpAny_mono (leaves S' s.heap _ e rfl rfl rfl rfl rfl x q) (fun _ s₃ h₃ => ?_) (fun e' s₃ h₃ => ?_)
    · obtain ⟨h'', tk'', rfl, q'⟩ := h₃; exact hRE _ h'' tk'' q'
    · obtain ⟨h'', tk'', rfl, q'⟩ := h₃; exact hRE _ h'' tk'' q'


/-- a class of the text's is called: the object, its dict, then __init__ -/
theorem W.newCls {C fI : Addr} {name qual : Str} {params : Arguments} {body : List Stmt} {scope : Scope} {dV kV doc pm cdv ct oc : Value} {an od : Option Addr} {osl : Array (Option Value)} {vs : List Value} (mm : Addr → Loc) {Q : Value → Sg → Prop}
    (hm : makesIn (hd.heap_39 w.params) C = true) (hi : findIn (hd.heap_39 w.params) (.ref C) "__init__" = some (some (.ref fI))) (hf : isFn (hd.heap_39 w.params) (.ref fI) = true)
    (ho : (hd.heap_39 w.params).lookup fI = some ⟨oc, od, .func (fnOf name qual params body scope dV kV doc pm an cdv ct), osl⟩) (hcd : codeIn (hd.heap_39 w.params) cdv qual = true) (hroom : S.dp + 1 < recursionLimit)
    (hbind : ∀ x, ∀ s : Shared, (hd.heap_39 w.params).In s.heap → BindsTo s (fnOf name qual params body scope dV kV doc pm an cdv ct) ⟨.ref x :: vs, []⟩ (mm x).reverse)
    (hkind : ∀ x, ((mm x).reverse.all fun y => scope.names.lookup y.1 == some .local || scope.names.lookup y.1 == some .cell) = true) (hnd : CellsNd scope)
    (hco : scope.isCoroutine = false) (hgen : scope.isGenerator = false) (hk : scope.kind = .function)
    (h : ∀ x dx, ∀ S' : Sit w ⟨qual, scope, fI, cdv⟩, S'.dp = S.dp + 2 → W S' ⟨mm x, [], (x, instObj C dx) :: (dx, dictOf [] 0) :: σ.led⟩ (execs body S'.env) (fun fl σ' => retOf fl = .none ∧ Q (.ref x) { σ with led := σ'.led }) (fun _ _ => False)) :
    W S σ (call (.ref C) vs) Q E := fun s x => by
  obtain ⟨hh, g, d, tk, os⟩ := s
  have x2 : St S _ _ := (x.alloc (o := dictOf [] 0) rfl).alloc (o := instObj C hh.objs.size) rfl
  refine wpAny_call (make_core (makes_of x.KIn hm) (looks_findIn x.KIn hi) (fun self => bind_fn x.KIn self (beq_iff_eq.mp hf)) (.inl rfl) ?_)
  rw [Heap.size_push] at x2
  refine code_def0 (S := S.at (S.dp + 1) (S.un + 1)) (σ := { σ with led := (hh.objs.size + 1, instObj C hh.objs.size) :: (hh.objs.size, dictOf [] 0) :: σ.led }) (E := fun _ _ => False) (vs := .ref (hh.objs.size + 1) :: vs) (binds := (mm (hh.objs.size + 1)).reverse) (Q := fun v σ' => v = .none ∧ Q (.ref (hh.objs.size + 1)) σ') x2.at
    (fun v σ' h'' tk' st q => ⟨q.1, σ', h'', tk', rfl, st.unat, q.2⟩) (fun _ _ _ z => z.elim) ho hcd hroom (hbind _) (hkind _) hnd hco hgen hk (fun _ _ _ => False) (fun _ _ _ _ _ _ _ _ _ _ z => z.elim) (fun S' a b => by rw [List.reverse_reverse]; exact h _ _ S' a)
/-- an attribute entry -/
abbrev ent (P : Params) (name : Str) (t : Tok) (v : Value) : DictEntry := ⟨PyData.keyHash P name, .str name t, v⟩
theorem putL_new {name : Str} {hsh : Int} {key v : Value} : ∀ {es : List DictEntry}, getL name es = some none → putL name hsh key v es = es ++ [⟨hsh, key, v⟩] ∧ ∀ n, putN name es n = n + 1 := by
  intro es h
  have hf : es.find? (·.key.isStr name) = none := by
    unfold getL at h
    split at h
    · cases h
    · assumption
  have hall : ∀ e ∈ es, e.key.isStr name = false := fun e he => by simpa using List.find?_eq_none.mp hf e he
  refine ⟨?_, fun n => ?_⟩
  · clear h hf
    induction es with
    | nil => rfl
    | cons e r ih =>
      unfold putL
      rw [hall e (.head _)]
      simp only [Bool.false_eq_true, if_false, List.cons_append]
      rw [ih fun e he => hall e (.tail _ he)]
  · unfold putN
    have : es.any (·.key.isStr name) = false := List.any_eq_false.mpr fun e he => by rw [hall e he]; decide
    rw [this]; rfl
/-- a new attribute is set -/
theorem W.setA {x dx C : Addr} {es : List DictEntry} {n : Nat} {name : Str} {v : Value} {g : Obj → Led} {Q : Unit → Sg → Prop} (hx : (x, instObj C dx) ∈ σ.led) (H : Hole dx (dictOf es n) σ.led g)
    (hs : findIn (hd.heap_39 w.params) (.ref C) "__setattr__" = some (some (.builtin "object.__setattr__"))) (hp : plainOver (hd.heap_39 w.params) C = true) (ht : takerIn (hd.heap_39 w.params) C name = some none) (hh : hasDictIn (hd.heap_39 w.params) C = true)
    (hl : getL name es = some none) (hz : es.length ≤ 100)
    (h : ∀ tk, Q () { σ with led := g (dictOf (es ++ [ent w.params name tk v]) (n + 1)) }) : W S σ (setAttr (.ref x) name v) Q E := fun s y => by
  obtain ⟨f, hid, F, N, U, U2, back⟩ := y.hole H
  have e := putL_new (name := name) (hsh := PyData.keyHash w.params name) (key := .str name (s.toks + 1)) (v := v) hl
  exact set_dict F S.X N (InstAt.of_news N (List.mem_append_right _ hx) (List.mem_append_right _ H.mem)) rfl hs hp ht hh (by rw [hl]; rfl) (Prod.ext e.1 (e.2 n)) (U2 _) (by simp; omega) fun h' F' N' => ⟨_, h', _, rfl, back h' _ F' N', h _⟩
theorem W.getA {x dx C : Addr} {es : List DictEntry} {n : Nat} {name : Str} {v : Value} {expr : Bool} {attr : Option Value} {Q : Value → Sg → Prop} (hx : (x, instObj C dx) ∈ σ.led) (hdx : (dx, dictOf es n) ∈ σ.led)
    (hg : plainGet (hd.heap_39 w.params) C name = true) (hh : hasDictIn (hd.heap_39 w.params) C = true) (ha : findIn (hd.heap_39 w.params) (.ref C) name = some attr) (hn : noGet (hd.heap_39 w.params) attr = true) (hl : getL name es = some (some v)) (hv : handedIn v = true)
    (h : Q v σ) : W S σ (getAttr (.ref x) name expr) Q E := fun s y => by
  obtain ⟨f, hid, F, N, ap, back⟩ := y.bridge
  exact get_own F S.X (InstAt.of_news N (List.mem_append_right _ hx) (List.mem_append_right _ hdx)) hg hh ha hn hl hv ⟨σ, s.heap, _, rfl, y, h⟩
theorem W.methI {x dx C : Addr} {es : List DictEntry} {n : Nat} {name : Str} {f : Addr} {pl : Sem Bool} {Q : Value × List Value → Sg → Prop} (hx : (x, instObj C dx) ∈ σ.led) (hdx : (dx, dictOf es n) ∈ σ.led)
    (hg : plainGet (hd.heap_39 w.params) C name = true) (hf : findIn (hd.heap_39 w.params) (.ref C) name = some (some (.ref f))) (ht : isFn (hd.heap_39 w.params) (.ref f) = true) (hl : getL name es = some none) (h : Q (.ref f, [.ref x]) σ) :
    W S σ (getMethod (.ref x) name pl) Q E := fun s y => by
  obtain ⟨f', hid, F, N, ap, back⟩ := y.bridge
  exact method_inst F S.X (InstAt.of_news N (List.mem_append_right _ hx) (List.mem_append_right _ hdx)) hg hf ht hl ⟨σ, s.heap, s.toks, rfl, y, h⟩
end
end Mine
namespace Mine
noncomputable section
variable {w : World} {fn : Fn} {S : Sit w fn} {σ : Sg} {α β : Type} {E : Value → Heap → Prop}

theorem own_move {a : Addr} {b : BlkE} {o : Obj} {σ : Sg} : (own S { σ with led := (a, o) :: σ.led }).Perm (own S { σ with blk := (a, b) :: σ.blk }) := by
  unfold own
  refine List.Perm.cons _ (List.Perm.append_left _ ?_)
  simp only [List.map_cons, List.cons_append]
  exact List.perm_middle
theorem St.toBlk {h : Heap} {a : Addr} {o : Obj} {P : Obj → Prop} (x : St S { σ with led := (a, o) :: σ.led } h) (hp : P o) : St S { σ with blk := (a, .inr P) :: σ.blk } h := by
  refine ⟨x.fr, x.cel, x.cex, fun p hp' => ?_, fun p q => x.led p (.tail _ q), x.keep, own_move.nodup_iff.mp x.nodup, fun b hb => x.fresh b (own_move.mem_iff.mpr hb), fun p q => x.low p (.tail _ q)⟩
  rcases List.mem_cons.mp hp' with rfl | hp'
  · exact ⟨o, x.led _ (.head _), hp⟩
  · exact x.blk p hp'
theorem St.toLed {h : Heap} {a : Addr} {P : Obj → Prop} (x : St S { σ with blk := (a, .inr P) :: σ.blk } h) (hm : (a == sysModules) = false) : ∃ o, P o ∧ St S { σ with led := (a, o) :: σ.led } h := by
  obtain ⟨o, ho, hp⟩ := x.blk _ (.head _)
  refine ⟨o, hp, x.fr, x.cel, x.cex, fun p q => x.blk p (.tail _ q), fun p q => ?_, x.keep, own_move.nodup_iff.mpr x.nodup, fun b hb => x.fresh b (own_move.mem_iff.mp hb), fun p q => ?_⟩
  · rcases List.mem_cons.mp q with rfl | q
    · exact ho
    · exact x.led p q
  · rcases List.mem_cons.mp q with rfl | q
    · exact hm
    · exact x.low p q
theorem own_drop {p : Addr × BlkE} {r : List (Addr × BlkE)} {m : Loc} {led : Led} : (own S ⟨m, r, led⟩).Sublist (own S ⟨m, p :: r, led⟩) := by
  unfold own
  exact (List.Sublist.append_left (List.Sublist.append_right (List.sublist_cons_self _ _) _) _).cons_cons _
/-- a hidden place is given up -/
theorem St.drop {h h' : Heap} {m : Loc} {led : Led} {I : Addr} {b : BlkE} {r : List (Addr × BlkE)} (x : St S ⟨m, (I, b) :: r, led⟩ h) (hk : ∀ a o, a ≠ I → h.get? a = some o → h'.get? a = some o) : St S ⟨m, r, led⟩ h' := by
  have hI : I ∈ own S ⟨m, (I, b) :: r, led⟩ := by unfold own; simp
  have hne : ∀ a ∈ own S ⟨m, r, led⟩, a ≠ I := by
    intro a ha e
    subst e
    have nd := x.nodup
    unfold own at nd ha
    have : (S.L :: (S.cl.map (·.2) ++ (((a, b) :: r).map (·.1) ++ led.map (·.1)))).Perm (a :: (S.L :: (S.cl.map (·.2) ++ (r.map (·.1) ++ led.map (·.1))))) := by
      simp only [List.map_cons, List.cons_append]
      exact ((List.perm_middle (a := a) (l₁ := S.cl.map (·.2)) (l₂ := r.map (·.1) ++ led.map (·.1))).cons S.L).trans (List.Perm.swap _ _ _)
    exact (List.nodup_cons.mp (this.nodup_iff.mp nd)).1 ha
  refine ⟨?_, ?_, ?_, ?_, ?_, ?_, own_drop.nodup x.nodup, fun a ha => x.fresh a (own_drop.subset ha), x.low⟩
  · obtain ⟨f, ⟨o, es, ep, ho, q⟩, hf⟩ := x.fr
    exact ⟨f, ⟨o, es, ep, hk _ _ (hne _ (by unfold own; exact .head _)) ho, q⟩, hf⟩
  · intro y v e k
    obtain ⟨c, hc, o, ho, hd⟩ := x.cel y v e k
    exact ⟨c, hc, o, hk _ _ (hne _ (by unfold own; exact .tail _ (List.mem_append_left _ (List.mem_map_of_mem (f := (·.2)) (mem_of_lookup hc))))) ho, hd⟩
  · intro p hp
    obtain ⟨v, o, ho, hd⟩ := x.cex p hp
    exact ⟨v, o, hk _ _ (hne _ (by unfold own; exact .tail _ (List.mem_append_left _ (List.mem_map_of_mem hp)))) ho, hd⟩
  · intro p hp
    exact (x.blk p (.tail _ hp)).grow fun o ho => hk _ _ (hne _ (by unfold own; exact .tail _ (List.mem_append_right _ (List.mem_append_left _ (List.mem_map_of_mem hp))))) ho
  · intro p hp
    exact hk _ _ (hne _ (by unfold own; exact .tail _ (List.mem_append_right _ (List.mem_append_right _ (List.mem_map_of_mem hp))))) (x.led p hp)
  · intro a o e
    refine hk _ _ (fun q => ?_) (x.keep a o e)
    have := x.fresh I hI
    rw [← q, e] at this; cases this
theorem St.step {h h' : Heap} {m : Loc} {led : Led} {I : Addr} {b : BlkE} {b' : BlkE} {r : List (Addr × BlkE)} (x : St S ⟨m, (I, b) :: r, led⟩ h) (hs : Heap.SameBut I h h') (hb : BlkOk h' (I, b')) : St S ⟨m, (I, b') :: r, led⟩ h' :=
  x.but_blk (pre := []) rfl hs hb

/-- an iterator: n items, what it hands out, what its object says -/
structure Itr (S : Sit w fn) (n : Nat) (item : Nat → Value → Prop) (P : Nat → Obj → Prop) (ok : Led → Prop) : Prop where
  next : ∀ (s : Shared) (m : Loc) (led : Led) (I : Addr) r i (Q : Option Value → Shared → Prop) (E : Value → Shared → Prop), i < n → ok led → St S ⟨m, (I, .inr (P i)) :: r, led⟩ s.heap → (∀ v h' tk, item i v → St S ⟨m, (I, .inr (P (i+1))) :: r, led⟩ h' → Q (some v) { s with heap := h', toks := tk }) → wpAny (model PG w) S.A (pyNext (.ref I)) Q E s
  stop : ∀ (s : Shared) (m : Loc) (led : Led) (I : Addr) r (Q : Option Value → Shared → Prop) (E : Value → Shared → Prop), ok led → St S ⟨m, (I, .inr (P n)) :: r, led⟩ s.heap → (∀ h' tk, St S ⟨m, r, led⟩ h' → Q none { s with heap := h', toks := tk }) → wpAny (model PG w) S.A (pyNext (.ref I)) Q E s
  self : ∀ (s : Shared) (m : Loc) (led : Led) (I : Addr) r i (Q : Value → Shared → Prop) (E : Value → Shared → Prop), St S ⟨m, (I, .inr (P i)) :: r, led⟩ s.heap → Q (.ref I) s → wpAny (model PG w) S.A (pyIter (.ref I)) Q E s
  cls : ∀ i o, P i o → ∃ c, o.cls = .type c ∧ ["enumerate", "zip", "dict_itemiterator", "dict_reverseitemiterator", "odict_iterator", "itertools.zip_longest", "itertools.pairwise"].contains c = false

abbrev LIt (l : Addr) (i : Nat) : Obj → Prop := fun o => o.cls = .type "list_iterator" ∧ o.data = .fields #[.ref l, .int i 0]
abbrev TIt (l : Addr) (i : Nat) : Obj → Prop := fun o => o.cls = .type "tuple_iterator" ∧ o.data = .fields #[.ref l, .int i 0]
abbrev RIt (l : Addr) (k : Int) : Obj → Prop := fun o => o.cls = .type "list_reverseiterator" ∧ o.data = .fields #[.ref l, rawInt k]
abbrev BIt (b : Array UInt8) (t : Tok) (i : Nat) : Obj → Prop := fun o => o.cls = .type "bytes_iterator" ∧ o.data = .fields #[.bytes b t, .int i 0]

theorem Itr.list {l : Addr} {vs : List Value} {k : Nat} : Itr S vs.length (fun i v => vs[i]? = some v) (LIt l) (fun led => (l, lstObj vs k) ∈ led) where
  next := fun s m led I r i Q E hi ok x hQ => by
    refine wpAny_pyNext_list_item (x.blk _ (.head _)) (x.isList ok) (x := vs[i]) (by simp [hi]) fun h' hit hs => hQ _ h' s.toks (by simp [hi]) (x.step hs hit)
  stop := fun s m led I r Q E ok x hQ => wpAny_pyNext_list_end rfl (x.blk _ (.head _)) (x.isList ok) (by simp) fun h' he => hQ h' s.toks (x.drop fun a o ha e => he a o ha e)
  self := fun s m led I r i Q E x hQ => wpAny_pyIter_listiter (x.blk _ (.head _)) hQ
  cls := fun i o h => ⟨_, h.1, by decide⟩
theorem Itr.tuple {l : Addr} {vs : List Value} : Itr S vs.length (fun i v => vs[i]? = some v) (TIt l) (fun led => (l, tupObj vs) ∈ led) where
  next := fun s m led I r i Q E hi ok x hQ => by
    refine next_tuple_item (x.blk _ (.head _)) (x.isTup ok) (x := vs[i]) (by simp [hi]) fun h' hit hs => hQ _ h' s.toks (by simp [hi]) (x.step hs hit)
  stop := fun s m led I r Q E ok x hQ => next_tuple_end rfl (x.blk _ (.head _)) (x.isTup ok) (by simp) fun h' he => hQ h' s.toks (x.drop fun a o ha e => he a o ha e)
  self := fun s m led I r i Q E x hQ => by
    exact wpAny_pyIter_tupleiter (x.blk _ (.head _)) hQ
  cls := fun i o h => ⟨_, h.1, by decide⟩
theorem Itr.rev {l : Addr} {vs : List Value} {k : Nat} : Itr S vs.length (fun i v => vs.reverse[i]? = some v) (fun i => RIt l ((vs.length : Int) - 1 - i)) (fun led => (l, lstObj vs k) ∈ led) where
  next := fun s m led I r i Q E hi ok x hQ => by
    have e : (vs.length : Int) - 1 - i = ((vs.length - 1 - i : Nat) : Int) := by omega
    have hit : s.heap.IsRevIter I l ((vs.length - 1 - i : Nat) : Int) := by
      have := x.blk _ (.head _)
      rw [← e]; exact this
    refine wpAny_pyNext_rev_item hit (x.isList ok) (x := vs[vs.length - 1 - i]'(by omega)) (by simp) fun h' hit' hs => hQ _ h' s.toks ?_ (x.step hs ?_)
    · rw [List.getElem?_reverse hi]; simp
    · have e2 : (vs.length : Int) - 1 - ((i + 1 : Nat) : Int) = ((vs.length - 1 - i : Nat) : Int) - 1 := by omega
      show BlkOk h' (I, .inr (RIt l ((vs.length : Int) - 1 - ((i + 1 : Nat) : Int))))
      rw [e2]; exact hit'
  stop := fun s m led I r Q E ok x hQ => by
    have hit : s.heap.IsRevIter I l (-1) := by
      have := x.blk _ (.head _)
      have e : (vs.length : Int) - 1 - (vs.length : Nat) = -1 := by omega
      rw [← e]; exact this
    exact wpAny_pyNext_rev_end rfl hit fun h' he => hQ h' s.toks (x.drop fun a o ha e => he a o ha e)
  self := fun s m led I r i Q E x hQ => wpAny_pyIter_revIter (x.blk _ (.head _)) hQ
  cls := fun i o h => ⟨_, h.1, by decide⟩
theorem Itr.range {a c : Int} {n : Nat} : Itr S n (fun i v => ∃ t, v = .int (a + i * c) t) (fun i o => o = { cls := .type "range_iterator", data := .fields #[rawInt (a + i * c), rawInt ((n : Int) - i), rawInt c] }) (fun _ => True) where
  next := fun s m led I r i Q E hi _ x hQ => by
    obtain ⟨o, ho, e⟩ := x.blk _ (.head _)
    subst e
    refine wpAny_pyNext_range_item (step := c) ho (by omega) fun h' hit hs => hQ _ h' _ ⟨_, rfl⟩ (x.step hs ⟨_, hit, ?_⟩)
    have e1 : a + ((i + 1 : Nat) : Int) * c = a + (i : Int) * c + c := by push_cast; rw [Int.add_mul, Int.one_mul, Int.add_assoc]
    have e2 : (n : Int) - ((i + 1 : Nat) : Int) = (n : Int) - (i : Int) - 1 := by push_cast; omega
    rw [e1, e2]
  stop := fun s m led I r Q E _ x hQ => by
    obtain ⟨o, ho, e⟩ := x.blk _ (.head _)
    subst e
    exact wpAny_pyNext_range_end (step := c) rfl ho (by omega) fun h' he => hQ h' s.toks (x.drop fun a o ha e => he a o ha e)
  self := fun s m led I r i Q E x hQ => by
    obtain ⟨o, ho, e⟩ := x.blk _ (.head _)
    subst e
    exact wpAny_pyIter_rangeiter (step := c) ho hQ
  cls := fun i o h => ⟨"range_iterator", by rw [h], by decide⟩

theorem letGo_any {I : Addr} {o : Obj} {c : String} {v : Value} {target : Expr} {A : Around} {s : Shared} {Q : Unit → Shared → Prop} {E : Value → Shared → Prop} (ho : s.heap.get? I = some o) (hc : o.cls = .type c)
    (hn : ["enumerate", "zip", "dict_itemiterator", "dict_reverseitemiterator", "odict_iterator", "itertools.zip_longest", "itertools.pairwise"].contains c = false) (h : Q () s) : wpAny (model PG w) A (letOwnedTupleGo target (.ref I) v) Q E s := by
  have key : ∀ a, wpAny (model PG w) A (do
      let o ← load I
      match o.cls, o.data with
      | .type n, .fields vs =>
        if ["enumerate", "zip", "dict_itemiterator", "dict_reverseitemiterator", "odict_iterator", "itertools.zip_longest", "itertools.pairwise"].contains n && vs[0]? == some (rawInt a) then
          rule "for.unpacks-the-owned-tuple"
          updateField I 0 .none
      | _, _ => Pure.pure ()) Q E s := by
    intro a
    refine wpAny_bind (wpAny_load ho ?_)
    rw [hc]
    cases o.data with
    | fields vs =>
      dsimp only
      rw [hn, Bool.false_and]
      exact wpAny_pure h
    | _ => exact wpAny_pure h
  unfold letOwnedTupleGo
  split
  · split
    · rename_i a e
      cases e
      exact key _
    · exact wpAny_pure h
  · split
    · rename_i a e
      cases e
      exact key _
    · exact wpAny_pure h
  · exact wpAny_pure h

/-- the loop of a for -/
def FLoop (S : Sit w fn) (σ : Sg) (it : Value) (target : Expr) (body : List Stmt) (env : Env) (Q : Flow → Sg → Prop) (E : Value → Heap → Prop) : Prop :=
  ∀ s : Shared, St S σ s.heap → codeAny (model PG w) S.A (.forLoop target it body [] env) (fun r s' => match r with
    | .ok f => ∃ σ' h' tk', s' = { s with heap := h', toks := tk' } ∧ St S σ' h' ∧ Q f σ'
    | .error e => cameBackBy (model PG w) S.A env (fun e s' => ∃ h' tk', s' = { s with heap := h', toks := tk' } ∧ E e h') e s') s
theorem W.For {target iter : Expr} {body : List Stmt} {env : Env} {pos : Pos} {Q : Flow → Sg → Prop}
    (h : W S σ (eval iter env) (fun x σ₁ => W S σ₁ (pyIter x) (fun it σ₂ => FLoop S σ₂ it target body env Q E) E) E)
    (hs : ∀ x, foldedSetIterable iter env x = Pure.pure x := by intro _; rfl) : W S σ (exec (.For target iter body [] pos) env) Q E := fun s x => by
  refine wpAny_For (wpAny_mono (h s x) (fun v s₁ h₁ => ?_) fun _ _ e => e) hs
  obtain ⟨σ', h', tk', rfl, y, q⟩ := h₁
  refine wpAny_mono (q _ y) (fun it s₂ h₂ => ?_) (fun e s₂ h₂ => ?_)
  · obtain ⟨σ₂, h'', tk'', rfl, z, q'⟩ := h₂
    refine codeAny_mono (q' _ z) fun r s₃ h₃ => ?_
    cases r with
    | ok f => obtain ⟨σ₃, h₃', tk₃, rfl, z3, q3⟩ := h₃; exact ⟨σ₃, h₃', tk₃, rfl, z3, q3⟩
    | error e =>
      refine wpAny_mono h₃ (fun _ s₄ h₄ => ?_) (fun _ s₄ h₄ => ?_)
      · obtain ⟨h₄', tk₄, rfl, q4⟩ := h₄; exact ⟨h₄', tk₄, rfl, q4⟩
      · obtain ⟨h₄', tk₄, rfl, q4⟩ := h₄; exact ⟨h₄', tk₄, rfl, q4⟩
  · obtain ⟨h'', tk'', rfl, q'⟩ := h₂; exact ⟨h'', tk'', rfl, q'⟩

theorem St.allocB {h : Heap} {o : Obj} {P : Obj → Prop} (x : St S σ h) (hf : o.isFreed = false) (hp : P o) : St S { σ with blk := (h.objs.size, .inr P) :: σ.blk } (h.push o) := (x.alloc hf).toBlk hp

theorem W.iterL {l : Addr} {vs : List Value} {k : Nat} {Q : Value → Sg → Prop} (hl : (l, lstObj vs k) ∈ σ.led) (h : ∀ I, Q (.ref I) { σ with blk := (I, .inr (LIt l 0)) :: σ.blk }) : W S σ (pyIter (.ref l)) Q E := fun s x =>
  wpAny_pyIter_list (x.isList hl) ⟨_, _, s.toks, rfl, x.allocB rfl ⟨rfl, rfl⟩, h _⟩
theorem W.iterT {l : Addr} {vs : List Value} {Q : Value → Sg → Prop} (hl : (l, tupObj vs) ∈ σ.led) (h : ∀ I, Q (.ref I) { σ with blk := (I, .inr (TIt l 0)) :: σ.blk }) : W S σ (pyIter (.ref l)) Q E := fun s x =>
  iter_tuple (x.isTup hl) ⟨_, _, s.toks, rfl, x.allocB rfl ⟨rfl, rfl⟩, h _⟩

/-- what a walk says of the whole: no raise -/
theorem W.noRaise {t : Sem α} {Q : α → Sg → Prop} (h : W S σ t Q (fun _ _ => False)) {s : Shared} (x : St S σ s.heap) {Q' : α → Shared → Prop} {E' : Value → Shared → Prop} (hq : ∀ v σ' h' tk', St S σ' h' → Q v σ' → Q' v { s with heap := h', toks := tk' }) : wpAny (model PG w) S.A t Q' E' s :=
  wpAny_mono (h s x) (fun _ _ ⟨σ', h', tk', e, y, q⟩ => e ▸ hq _ σ' h' tk' y q) fun _ _ ⟨_, _, _, f⟩ => f.elim
theorem W.weakE {t : Sem α} {Q : α → Sg → Prop} (h : W S σ t Q (fun _ _ => False)) : W S σ t Q E := fun s x => h.noRaise x fun _ σ' h' tk' y q => ⟨σ', h', tk', rfl, y, q⟩

theorem FLoop.itr {n : Nat} {item : Nat → Value → Prop} {P : Nat → Obj → Prop} {ok : Led → Prop} (K : Itr S n item P ok) {I : Addr} {r : List (Addr × BlkE)} {target : Expr} {body : List Stmt} {env : Env} {Q : Flow → Sg → Prop} (Inv : Nat → Loc → Led → Prop)
    (hb : σ.blk = (I, .inr (P 0)) :: r) (hok : ∀ i m led, Inv i m led → ok led)
    (turn : ∀ i v m led, i < n → item i v → Inv i m led → W S ⟨m, (I, .inr (P (i+1))) :: r, led⟩ (assign target env v) (fun _ σ₁ => W S σ₁ (execs body env) (fun f σ₂ => σ₂.blk = (I, .inr (P (i+1))) :: r ∧ match f with
      | .next => Inv (i+1) σ₂.m σ₂.led
      | .cont => Inv (i+1) σ₂.m σ₂.led
      | .brk => Q .next ⟨σ₂.m, r, σ₂.led⟩
      | .ret u => Q (.ret u) ⟨σ₂.m, r, σ₂.led⟩) (fun _ _ => False)) (fun _ _ => False))
    (stop : ∀ m led, Inv n m led → Q .next ⟨m, r, led⟩) (h0 : Inv 0 σ.m σ.led) : FLoop S σ (.ref I) target body env Q E := fun s x => by
  refine codeAny_forLoop_any (fun k s' => ∃ i m led h' tk', k = n - i ∧ i ≤ n ∧ s' = { s with heap := h', toks := tk' } ∧ Inv i m led ∧ St S ⟨m, (I, .inr (P i)) :: r, led⟩ h') ?_ n ?_
  · rintro k s' ⟨i, m, led, h', tk', rfl, hi, rfl, inv, y⟩
    by_cases hlt : i < n
    · refine K.next _ m led I r i _ _ hlt (hok _ _ _ inv) y fun v h₁ tk₁ hv y₁ => ?_
      dsimp only
      obtain ⟨o, ho, hp⟩ := y₁.blk _ (.head _)
      obtain ⟨c, hc, hn⟩ := K.cls _ _ hp
      refine letGo_any (s := { s with heap := h₁, toks := tk₁ }) ho hc hn ?_
      refine (turn i v m led hlt hv inv).noRaise (s := { s with heap := h₁, toks := tk₁ }) y₁ fun _ σ₁ h₂ tk₂ y₂ q₂ => ?_
      refine q₂.noRaise (s := { s with heap := h₂, toks := tk₂ }) y₂ fun f σ₂ h₃ tk₃ y₃ q₃ => ?_
      obtain ⟨m₂, b₂, led₂⟩ := σ₂
      obtain ⟨rfl, q₃⟩ := q₃
      cases f with
      | next => exact ⟨n - (i+1), by omega, i+1, m₂, led₂, h₃, tk₃, rfl, by omega, rfl, q₃, y₃⟩
      | cont => exact ⟨n - (i+1), by omega, i+1, m₂, led₂, h₃, tk₃, rfl, by omega, rfl, q₃, y₃⟩
      | brk => exact ⟨_, h₃, tk₃, rfl, y₃.drop fun _ _ _ e => e, q₃⟩
      | ret u => exact ⟨_, h₃, tk₃, rfl, y₃.drop fun _ _ _ e => e, q₃⟩
    · obtain rfl : i = n := by omega
      refine K.stop _ m led I r _ _ (hok _ _ _ inv) y fun h₁ tk₁ y₁ => ?_
      exact wpAny_execs_nil ⟨_, h₁, tk₁, rfl, y₁, stop _ _ inv⟩
  · obtain ⟨m, b, led⟩ := σ
    obtain rfl : b = (I, .inr (P 0)) :: r := hb
    exact ⟨0, m, led, s.heap, s.toks, by omega, by omega, rfl, h0, x⟩
end
end Mine
namespace Mine
noncomputable section
variable {w : World} {fn : Fn} {S : Sit w fn} {σ : Sg} {α β : Type} {E : Value → Heap → Prop}

/-- a new block of names -/
theorem St.newBlk {h h' : Heap} {o : Obj} {f : Str → Option Value} (x : St S σ h) (hf : o.isFreed = false) (hs : Heap.SameBut h.objs.size (h.push o) h') (hn : h'.Ns h.objs.size f) : St S { σ with blk := (h.objs.size, .inl []) :: σ.blk } h' := by
  have y := x.allocB (P := fun _ => True) hf trivial
  exact St.step (m := σ.m) (led := σ.led) y hs ⟨f, hn, fun _ _ e => by cases e⟩

/-- the loop of a list's comprehension; D gathers -/
def CLoop (S : Sit w fn) (σ : Sg) (it : Value) (elt target iter : Expr) (ifs : List Expr) (scope : Scope) (pos : Pos) (env : Env) (cl : List (Str × Addr)) (Q : Value → Sg → Prop) : Prop :=
  ∀ (s : Shared) (D C : Addr), (D == sysModules) = false → St S { σ with blk := (D, .inr fun o => o = lstObj [] 0) :: (C, .inl []) :: σ.blk } s.heap →
    codeAny (model PG w) S.A (.compLoop (.ListComp elt [⟨target, iter, ifs, 0⟩] scope pos) 0 it (.ref D) (compEnvC scope cl C env)) (fun (r : Result) (s' : Shared) => match r with
      | .ok _ => ∃ (vs : List Value) (k : Nat) (mb : Loc) (σ' : Sg) (h' : Heap) (tk' : Nat), s' = { s with heap := h', toks := tk' } ∧ St S { σ' with blk := (C, .inl mb) :: σ'.blk, led := (D, lstObj vs k) :: σ'.led } h' ∧ Q (.ref D) { σ' with led := (D, lstObj vs k) :: σ'.led }
      | .error _ => False) s

theorem comp_core {elt target iter : Expr} {ifs : List Expr} {scope : Scope} {pos : Pos} {env : Env} {cl : List (Str × Addr)} {Q : Value → Sg → Prop} {I : Addr} {r : List (Addr × BlkE)} {P : Obj → Prop} {m : Loc} {led : Led} (hI : σ = ⟨m, (I, .inr P) :: r, led⟩)
    (hself : ∀ (s : Shared) (m : Loc) (led : Led) (I : Addr) r (Q : Value → Shared → Prop) (E : Value → Shared → Prop), St S ⟨m, (I, .inr P) :: r, led⟩ s.heap → Q (.ref I) s → wpAny (model PG w) S.A (pyIter (.ref I)) Q E s)
    (hcell : ∀ y ∈ scope.names, y.2 ≠ .cell) (hkind : scope.kind = .function) (q : CLoop S σ (.ref I) elt target iter ifs scope pos env cl Q) {s : Shared} (x : St S σ s.heap) {RR : Value → Addr → Result → Shared → Prop} {E' : Value → Shared → Prop}
    (hRR : ∀ (D C : Addr) (vs : List Value) (k : Nat) (mb : Loc) (σ' : Sg) (h' : Heap) (tk' : Nat), St S { σ' with blk := (C, .inl mb) :: σ'.blk, led := (D, lstObj vs k) :: σ'.led } h' → Q (.ref D) { σ' with led := (D, lstObj vs k) :: σ'.led } → RR (.ref D) C (.ok .next) { s with heap := h', toks := tk' })
    (hRf : ∀ v C f s, RR v C (.ok .next) s → RR v C (.ok f) s) :
    wpAny (model PG w) S.A (newList []) (fun acc s₃ => wpAny (model PG w) S.A (newFunctionEnv scope env.globals cl [] env.qual none .none (some env)) (fun cenv s₄ =>
      codeAny (model PG w) S.A (.compStart (.ListComp elt [⟨target, iter, ifs, 0⟩] scope pos) 0 (.ref I) acc { cenv with scope := relabel scope env }) (RR acc cenv.locals) s₄) E' s₃) E' s := by
  subst hI
  refine wpAny_newObj_type (wpAny_newFunctionEnv hcell (by intro y hy; simp at hy) (fun h₁ hns₁ hsb₁ => ?_) hkind)
  dsimp only at hns₁ hsb₁ ⊢
  generalize hH2 : s.heap.push { cls := .type "list", dict := none, data := .seq ([] : List Value).toArray } = H2 at hns₁ hsb₁ ⊢
  have x1 : St S ⟨m, (I, .inr P) :: r, (s.heap.objs.size, lstObj [] 0) :: led⟩ H2 := hH2 ▸ x.alloc (o := lstObj [] 0) rfl
  have hD : (s.heap.objs.size == sysModules) = false := x1.low _ (.head _)
  have x2 := x1.newBlk rfl hsb₁ hns₁
  have x3 := St.toBlk (σ := ⟨m, (H2.objs.size, .inl []) :: (I, .inr P) :: r, led⟩) (P := fun o => o = lstObj [] 0) x2 rfl
  have go : ∀ s₃ : Shared, s₃ = { s with heap := h₁, toks := s.toks + ([] : List (Str × Value)).length } →
      codeAny (model PG w) S.A (.compLoop (.ListComp elt [⟨target, iter, ifs, 0⟩] scope pos) 0 (.ref I) (.ref s.heap.objs.size) (compEnvC scope cl H2.objs.size env)) (RR (.ref s.heap.objs.size) H2.objs.size) s₃ := by
    rintro s₃ rfl
    refine codeAny_mono (q { s with heap := h₁, toks := s.toks + ([] : List (Str × Value)).length } _ _ hD x3) fun rr s' z => ?_
    cases rr with
    | ok f =>
      obtain ⟨vs, k, mb, σ', h', tk', rfl, y, qq⟩ := z
      exact hRf _ _ _ _ (hRR _ _ vs k mb σ' h' tk' y qq)
    | error _ => exact z.elim
  have xs : St S ⟨m, (I, .inr P) :: r, (s.heap.objs.size, lstObj [] 0) :: led⟩ h₁ := St.drop (r := (I, .inr P) :: r) x2 fun _ _ _ e => e
  refine codeAny_compStart_list (go _ rfl) (hself _ _ _ _ _ _ _ xs (go _ rfl))

/-- a comprehension's loop, its iterator made -/
def CStart (S : Sit w fn) (σ : Sg) (it : Value) (elt target iter : Expr) (ifs : List Expr) (scope : Scope) (pos : Pos) (env : Env) (cl : List (Str × Addr)) (Q : Value → Sg → Prop) : Prop :=
  ∃ I P r, it = .ref I ∧ σ.blk = (I, .inr P) :: r ∧ (∀ (s : Shared) (m : Loc) (led : Led) (I : Addr) r (Q : Value → Shared → Prop) (E : Value → Shared → Prop), St S ⟨m, (I, .inr P) :: r, led⟩ s.heap → Q (.ref I) s → wpAny (model PG w) S.A (pyIter (.ref I)) Q E s) ∧ CLoop S σ it elt target iter ifs scope pos env cl Q

theorem W.ListComp {elt target iter : Expr} {ifs : List Expr} {scope : Scope} {pos : Pos} {env : Env} {cl : List (Str × Addr)} {Q : Value → Sg → Prop}
    (hclos : closureFor scope env = Pure.pure cl) (hcell : ∀ y ∈ scope.names, y.2 ≠ .cell) (hkind : scope.kind = .function) (hnames : ∀ y ∈ scope.names, y.2 = .local → scope.names.lookup y.1 = some .local)
    (h : W S σ (eval iter env) (fun x σ₁ => W S σ₁ (pyIter x) (fun it σ₂ => CStart S σ₂ it elt target iter ifs scope pos env cl Q) E) E)
    (hs : ∀ x, foldedSetIterable iter env x = Pure.pure x := by intro _; rfl) : W S σ (eval (.ListComp elt [⟨target, iter, ifs, 0⟩] scope pos) env) Q E := fun s x => by
  rw [eval_ListComp]
  refine wpAny_comprehension_free (use := none) rfl hs hclos hkind hnames (wpAny_mono (h s x) (fun v s₁ h₁ => ?_) fun _ _ e => e)
  obtain ⟨σ', h', tk', rfl, y, q⟩ := h₁
  refine wpAny_mono (q _ y) (fun it s₂ h₂ => ?_) (fun e s₂ h₂ => ?_)
  · obtain ⟨σ₂, h'', tk'', rfl, z, I, P, r, rfl, hb, hself, q'⟩ := h₂
    refine comp_core (σ := σ₂) (m := σ₂.m) (led := σ₂.led) (I := I) (P := P) (r := r) (by rw [← hb]) hself hcell hkind q' z (RR := fun acc C => compPost (model PG w) S.A _ none _ acc C) (fun D C vs k mb σ₃ h₃ tk₃ y₃ q₃ => ?_) (fun v C f s z => z)
    obtain ⟨f, hn, _⟩ := y₃.blk _ (.head _)
    exact ⟨f, hn, fun h₄ hs₄ => ⟨_, h₄, tk₃, rfl, St.drop (led := (D, lstObj vs k) :: σ₃.led) (r := σ₃.blk) y₃ fun a o ha e => hs₄.extBut a o ha e, q₃⟩⟩
  · obtain ⟨h'', tk'', rfl, q'⟩ := h₂; exact ⟨h'', tk'', rfl, q'⟩

theorem W.AssignComp {elt target iter : Expr} {ifs : List Expr} {scope : Scope} {pos spos py : Pos} {y : Str} {env : Env} {cl : List (Str × Addr)} {Q : Flow → Sg → Prop}
    (hsw : swapsWith (.ListComp elt [⟨target, iter, ifs, 0⟩] scope pos) (some (.Name y py)) spos.line env = Pure.pure true)
    (hclos : closureFor scope env = Pure.pure cl) (hcell : ∀ y ∈ scope.names, y.2 ≠ .cell) (hkind : scope.kind = .function) (hnames : ∀ y ∈ scope.names, y.2 = .local → scope.names.lookup y.1 = some .local)
    (h : W S σ (eval iter env) (fun x σ₁ => W S σ₁ (pyIter x) (fun it σ₂ => CStart S σ₂ it elt target iter ifs scope pos env cl (fun v σ₃ => ∀ C mb, W S { σ₃ with blk := (C, .inl mb) :: σ₃.blk } (storeName env y v) (fun _ σ₄ => ∃ mb', σ₄.blk = (C, .inl mb') :: σ₃.blk ∧ Q .next ⟨σ₄.m, σ₃.blk, σ₄.led⟩) E)) E) E)
    (hs : ∀ x, foldedSetIterable iter env x = Pure.pure x := by intro _; rfl) : W S σ (exec (.Assign [.Name y py] (.ListComp elt [⟨target, iter, ifs, 0⟩] scope pos) spos) env) Q E := fun s x => by
  rw [exec_Assign_Name_used _ _ _ _ hsw]
  refine wpAny_bind (wpAny_standAt (wpAny_bind ?_))
  show wpAny _ S.A (do let _ ← comprehension (.ListComp elt [⟨target, iter, ifs, 0⟩] scope pos) scope env _ (newList []) false (eval iter env) (some (assign (.Name y py) env))) _ _ s
  refine wpAny_bind (wpAny_mono (wpAny_comprehension_free (use := some (assign (.Name y py) env)) (Q := fun _ s' => ∃ σ' h' tk', s' = { s with heap := h', toks := tk' } ∧ St S σ' h' ∧ Q .next σ') rfl hs hclos hkind hnames
    (wpAny_mono (h s x) (fun v s₁ h₁ => ?_) fun _ _ e => e)) (fun _ s' hq => wpAny_pure (wpAny_pure hq)) fun _ _ e => e)
  obtain ⟨σ', h', tk', rfl, z0, q⟩ := h₁
  refine wpAny_mono (q _ z0) (fun it s₂ h₂ => ?_) (fun e s₂ h₂ => ?_)
  · obtain ⟨σ₂, h'', tk'', rfl, z, I, P, r, rfl, hb, hself, q'⟩ := h₂
    refine comp_core (σ := σ₂) (m := σ₂.m) (led := σ₂.led) (I := I) (P := P) (r := r) (by rw [← hb]) hself hcell hkind q' z (RR := fun acc C => compPost (model PG w) S.A _ (some (assign (.Name y py) env)) _ acc C) (fun D C vs k mb σ₃ h₃ tk₃ y₃ q₃ => ?_) (fun v C f s z => z)
    show wpAny _ S.A (assign (.Name y py) env (.ref D)) _ _ _
    refine wpAny_mono (W.assignName (q₃ C mb) _ y₃) (fun _ s₅ h₅ => ?_) (fun _ s₅ h₅ => ?_)
    · obtain ⟨σ₅, h₅', tk₅, rfl, y₅, mb', hb', q₅⟩ := h₅
      obtain ⟨m₅, b₅, led₅⟩ := σ₅
      obtain rfl : b₅ = _ := hb'
      obtain ⟨f, hn, _⟩ := y₅.blk _ (.head _)
      exact ⟨f, hn, fun h₆ hs₆ => ⟨_, h₆, tk₅, rfl, St.drop y₅ fun a o ha e => hs₆.extBut a o ha e, q₅⟩⟩
    · obtain ⟨h₅', tk₅, rfl, q₅⟩ := h₅; exact ⟨h₅', tk₅, rfl, q₅⟩
  · obtain ⟨h'', tk'', rfl, q'⟩ := h₂; exact ⟨h'', tk'', rfl, q'⟩

/-- the tests of a comprehension, one after the other -/
def Ifs (S : Sit w fn) (env : Env) : List Expr → Sg → (Bool → Sg → Prop) → Prop
  | [], σ, Q => Q true σ
  | c :: r, σ, Q => W S σ (isTrue c env (eval c env)) (fun b σ₁ => if b = true then Ifs S env r σ₁ Q else Q false σ₁) (fun _ _ => False)
theorem ifs_false {env : Env} {Q : Bool → Sg → Prop} {E : Value → Heap → Prop} : ∀ {ifs : List Expr} {σ : Sg}, Q false σ → W S σ (forIn ifs false fun c r => if r = true then do let ok ← isTrue c env (eval c env); Pure.pure (ForInStep.yield ok) else Pure.pure (ForInStep.yield r)) Q E
  | [], _, q => W.pure q
  | c :: r, σ, q => by
    rw [List.forIn_cons]
    refine W.bind ?_
    rw [if_neg (by decide)]
    exact W.pure (ifs_false (ifs := r) q)
theorem ifs_run {env : Env} {Q : Bool → Sg → Prop} : ∀ {ifs : List Expr} {σ : Sg}, Ifs S env ifs σ Q → W S σ (forIn ifs true fun c r => if r = true then do let ok ← isTrue c env (eval c env); Pure.pure (ForInStep.yield ok) else Pure.pure (ForInStep.yield r)) Q (fun _ _ => False)
  | [], _, q => W.pure q
  | c :: r, σ, q => by
    rw [List.forIn_cons]
    refine W.bind ?_
    rw [if_pos rfl]
    refine W.bind (W.mono q fun b σ₁ h₁ => W.pure ?_)
    cases b with
    | true => exact ifs_run (ifs := r) h₁
    | false => exact ifs_false h₁
theorem St.permB {h : Heap} {b' : List (Addr × BlkE)} (x : St S σ h) (hp : σ.blk.Perm b') : St S { σ with blk := b' } h := by
  have hown : (own S σ).Perm (own S { σ with blk := b' }) := by
    unfold own
    exact ((((hp.map _).append_right _)).append_left _).cons _
  exact ⟨x.fr, x.cel, x.cex, fun p q => x.blk p (hp.mem_iff.mpr q), x.led, x.keep, hown.nodup_iff.mp x.nodup, fun a ha => x.fresh a (hown.mem_iff.mpr ha), x.low⟩
theorem perm3 {γ : Type} {a b c : γ} {r : List γ} : (a :: b :: c :: r).Perm (c :: a :: b :: r) := ((List.Perm.swap c b r).cons a).trans (List.Perm.swap _ _ _)
theorem St.forgetB {h : Heap} {m : Loc} {led : Led} {D C : Addr} {d : BlkE} {mb : Loc} {r : List (Addr × BlkE)} (x : St S ⟨m, (D, d) :: (C, .inl mb) :: r, led⟩ h) : St S ⟨m, (D, d) :: (C, .inl []) :: r, led⟩ h := by
  refine ⟨x.fr, x.cel, x.cex, fun p q => ?_, x.led, x.keep, x.nodup, x.fresh, x.low⟩
  rcases List.mem_cons.mp q with rfl | q
  · exact x.blk _ (.head _)
  · rcases List.mem_cons.mp q with rfl | q
    · obtain ⟨f, hn, _⟩ := x.blk _ (.tail _ (.head _))
      exact ⟨f, hn, fun _ _ e => by cases e⟩
    · exact x.blk _ (.tail _ (.tail _ q))

theorem compLoop_testsT {A : Around} {R : Result → Shared → Prop} {s : Shared} {elt target iter : Expr} {ifs : List Expr} {scope : Scope} {pos : Pos} {it acc : Value} {env : Env} (I : Nat → Shared → Prop)
    (turn : ∀ n s, I n s → wpAny (model PG w) A (pyNext it) (fun r s₁ => match r with
      | none => R (.ok .next) s₁
      | some v => wpAny (model PG w) A (letOwnedTupleGo target it v) (fun _ s₁' => wpAny (model PG w) A (assign target env v) (fun _ s₂ =>
          wpAny (model PG w) A (forIn ifs true fun c r => if r = true then do let ok ← isTrue c env (eval c env); Pure.pure (ForInStep.yield ok) else Pure.pure (ForInStep.yield r)) (fun ok s₃ =>
            if ok = true then wpAny (model PG w) A (eval elt env) (fun x s₄ =>
              wpAny (model PG w) A (call (.builtin "list.append") [acc, x]) (fun _ s₅ => ∃ m, m < n ∧ I m s₅) (notedBy (model PG w) A env fun e s' => R (.error e) s') s₄) (notedBy (model PG w) A env fun e s' => R (.error e) s') s₃
            else ∃ m, m < n ∧ I m s₃) (notedBy (model PG w) A env fun e s' => R (.error e) s') s₂) (notedBy (model PG w) A env fun e s' => R (.error e) s') s₁') (notedBy (model PG w) A env fun e s' => R (.error e) s') s₁) (notedBy (model PG w) A env fun e s' => R (.error e) s') s)
    (n : Nat) (h : I n s) :
    codeAny (model PG w) A (.compLoop (.ListComp elt [⟨target, iter, ifs, 0⟩] scope pos) 0 it acc env) R s := by
  refine codeAny_loop rfl I (fun n s hI => ?_) n h
  show wpAny _ A ((compTurn (.ListComp elt [⟨target, iter, ifs, 0⟩] scope pos) 0 it acc env).onRaise (fun x => do noteFrame x env; theTreesLotGoes x)) _ _ s
  refine wpAny_noted ?_
  rw [compTurn_list]
  refine wpAny_bind (wpAny_standAt (wpAny_bind (wpAny_mono (turn n s hI) (fun r s₁ h₁ => ?_) fun _ _ h' => h')))
  cases r with
  | none => exact wpAny_pure h₁
  | some v =>
    refine wpAny_bind (wpAny_mono h₁ (fun _ s₁' h₁' => ?_) fun _ _ h' => h')
    refine wpAny_bind (wpAny_mono h₁' (fun _ s₂ h₂ => wpAny_bind (wpAny_mono h₂ (fun ok s₃ h₃ => ?_) fun _ _ h' => h')) fun _ _ h' => h')
    cases ok with
    | false => exact wpAny_pure ⟨rfl, h₃⟩
    | true =>
      exact wpAny_bind (wpAny_bind (wpAny_mono h₃ (fun x s₄ h₄ => wpAny_bind (wpAny_mono h₄ (fun _ s₅ h₅ => wpAny_pure (wpAny_pure ⟨rfl, h₅⟩)) fun _ _ h' => h')) fun _ _ h' => h'))
theorem Ifs.nil {env : Env} {Q : Bool → Sg → Prop} (h : Q true σ) : Ifs S env [] σ Q := h
theorem Ifs.cons {env : Env} {c : Expr} {r : List Expr} {Q : Bool → Sg → Prop} (h : W S σ (isTrue c env (eval c env)) (fun b σ₁ => if b = true then Ifs S env r σ₁ Q else Q false σ₁) (fun _ _ => False)) : Ifs S env (c :: r) σ Q := h

theorem CLoop.itr {n : Nat} {item : Nat → Value → Prop} {P : Nat → Obj → Prop} {ok : Led → Prop} (K : Itr S n item P ok) {I : Addr} {r : List (Addr × BlkE)} {elt target iter : Expr} {ifs : List Expr} {scope : Scope} {pos : Pos} {env : Env} {cl : List (Str × Addr)} {Q : Value → Sg → Prop}
    (Inv : Nat → List Value → Led → Prop) (hz : n ≤ sizeLine)
    (hb : σ.blk = (I, .inr (P 0)) :: r) (hok : ∀ i vs led, Inv i vs led → ok led)
    (turn : ∀ i v vs led D C k, i < n → item i v → Inv i vs led → vs.length ≤ i → W S ⟨σ.m, (D, .inr fun o => o = lstObj vs k) :: (C, .inl []) :: (I, .inr (P (i+1))) :: r, led⟩ (assign target (compEnvC scope cl C env) v) (fun _ σ₁ => Ifs S (compEnvC scope cl C env) ifs σ₁ (fun ok σ₂ =>
      if ok = true then W S σ₂ (eval elt (compEnvC scope cl C env)) (fun y σ₃ => (∃ mb, σ₃.blk = (D, .inr fun o => o = lstObj vs k) :: (C, .inl mb) :: (I, .inr (P (i+1))) :: r) ∧ σ₃.m = σ.m ∧ Inv (i+1) (vs ++ [y]) σ₃.led) (fun _ _ => False)
      else (∃ mb, σ₂.blk = (D, .inr fun o => o = lstObj vs k) :: (C, .inl mb) :: (I, .inr (P (i+1))) :: r) ∧ σ₂.m = σ.m ∧ Inv (i+1) vs σ₂.led)) (fun _ _ => False))
    (stop : ∀ D vs k led, Inv n vs led → Q (.ref D) ⟨σ.m, r, (D, lstObj vs k) :: led⟩) (h0 : Inv 0 [] σ.led) : CLoop S σ (.ref I) elt target iter ifs scope pos env cl Q := fun s D C hD x => by
  refine compLoop_testsT (fun c s' => ∃ i vs kk mb led h' tk', c = n - i ∧ i ≤ n ∧ vs.length ≤ i ∧ s' = { s with heap := h', toks := tk' } ∧ Inv i vs led ∧ St S ⟨σ.m, (D, .inr fun o => o = lstObj vs kk) :: (C, .inl mb) :: (I, .inr (P i)) :: r, led⟩ h') ?_ n ?_
  · rintro c s' ⟨i, vs, kk, mb, led, h', tk', rfl, hi, hvl, rfl, inv, y⟩
    have y' : St S ⟨σ.m, (I, .inr (P i)) :: (D, .inr fun o => o = lstObj vs kk) :: (C, .inl mb) :: r, led⟩ h' := y.permB perm3
    by_cases hlt : i < n
    · refine K.next _ σ.m led I _ i _ _ hlt (hok _ _ _ inv) y' fun v h₁ tk₁ hv y₁ => ?_
      dsimp only
      obtain ⟨oi, hoi, hpi⟩ := y₁.blk _ (.head _)
      obtain ⟨ci, hci, hni⟩ := K.cls _ _ hpi
      refine letGo_any (s := { s with heap := h₁, toks := tk₁ }) hoi hci hni ?_
      have y₁' := (St.permB y₁ (perm3.symm)).forgetB
      refine (turn i v vs led D C kk hlt hv inv hvl).noRaise (s := { s with heap := h₁, toks := tk₁ }) y₁' fun _ σ₁ h₂ tk₂ y₂ q₂ => ?_
      refine (ifs_run q₂).noRaise (s := { s with heap := h₂, toks := tk₂ }) y₂ fun ok σ₂ h₃ tk₃ y₃ q₃ => ?_
      cases ok with
      | true =>
        rw [if_pos rfl] at q₃ ⊢
        refine q₃.noRaise (s := { s with heap := h₃, toks := tk₃ }) y₃ fun z σ₃ h₄ tk₄ y₄ q₄ => ?_
        obtain ⟨m₃, b₃, led₃⟩ := σ₃
        obtain ⟨⟨mb', rfl⟩, rfl, inv'⟩ := q₄
        obtain ⟨o, rfl, y₅⟩ := St.toLed (σ := ⟨σ.m, (C, .inl mb') :: (I, .inr (P (i+1))) :: r, led₃⟩) y₄ hD
        have ap := W.appendL (S := S) (σ := ⟨σ.m, (C, .inl mb') :: (I, .inr (P (i+1))) :: r, (D, lstObj vs kk) :: led₃⟩) (l := D) (y := z) (Q := fun _ σ' => σ' = ⟨σ.m, (C, .inl mb') :: (I, .inr (P (i+1))) :: r, (D, lstObj (vs ++ [z]) (kk + 1)) :: led₃⟩) (E := fun _ _ => False) Hole.head (by omega) rfl
        refine ap.noRaise (s := { s with heap := h₄, toks := tk₄ }) y₅ fun _ σ₆ h₆ tk₆ y₆ q₆ => ?_
        subst q₆
        exact ⟨n - (i+1), by omega, i+1, vs ++ [z], kk+1, mb', led₃, h₆, tk₆, rfl, by omega, by simp; omega, rfl, inv', St.toBlk (σ := ⟨σ.m, (C, .inl mb') :: (I, .inr (P (i+1))) :: r, led₃⟩) y₆ rfl⟩
      | false =>
        rw [if_neg (by decide)] at q₃ ⊢
        obtain ⟨m₃, b₃, led₃⟩ := σ₂
        obtain ⟨⟨mb', rfl⟩, rfl, inv'⟩ := q₃
        exact ⟨n - (i+1), by omega, i+1, vs, kk, mb', led₃, h₃, tk₃, rfl, by omega, by omega, rfl, inv', y₃⟩
    · obtain rfl : i = n := by omega
      refine K.stop _ σ.m led I _ _ _ (hok _ _ _ inv) y' fun h₁ tk₁ y₁ => ?_
      obtain ⟨o, rfl, y₅⟩ := St.toLed (σ := ⟨σ.m, (C, .inl mb) :: r, led⟩) y₁ hD
      exact ⟨vs, kk, mb, ⟨σ.m, r, led⟩, h₁, tk₁, rfl, y₅, stop D vs kk led inv⟩
  · obtain ⟨m, b, led⟩ := σ
    obtain rfl : b = (I, .inr (P 0)) :: r := hb
    exact ⟨0, [], 0, [], led, s.heap, s.toks, by omega, by omega, by simp, rfl, h0, x⟩
theorem CStart.itr {n : Nat} {item : Nat → Value → Prop} {P : Nat → Obj → Prop} {ok : Led → Prop} (K : Itr S n item P ok) {I : Addr} {r : List (Addr × BlkE)} {elt target iter : Expr} {ifs : List Expr} {scope : Scope} {pos : Pos} {env : Env} {cl : List (Str × Addr)} {Q : Value → Sg → Prop}
    (Inv : Nat → List Value → Led → Prop) (hz : n ≤ sizeLine)
    (hb : σ.blk = (I, .inr (P 0)) :: r) (hok : ∀ i vs led, Inv i vs led → ok led)
    (turn : ∀ i v vs led D C k, i < n → item i v → Inv i vs led → vs.length ≤ i → W S ⟨σ.m, (D, .inr fun o => o = lstObj vs k) :: (C, .inl []) :: (I, .inr (P (i+1))) :: r, led⟩ (assign target (compEnvC scope cl C env) v) (fun _ σ₁ => Ifs S (compEnvC scope cl C env) ifs σ₁ (fun ok σ₂ =>
      if ok = true then W S σ₂ (eval elt (compEnvC scope cl C env)) (fun y σ₃ => (∃ mb, σ₃.blk = (D, .inr fun o => o = lstObj vs k) :: (C, .inl mb) :: (I, .inr (P (i+1))) :: r) ∧ σ₃.m = σ.m ∧ Inv (i+1) (vs ++ [y]) σ₃.led) (fun _ _ => False)
      else (∃ mb, σ₂.blk = (D, .inr fun o => o = lstObj vs k) :: (C, .inl mb) :: (I, .inr (P (i+1))) :: r) ∧ σ₂.m = σ.m ∧ Inv (i+1) vs σ₂.led)) (fun _ _ => False))
    (stop : ∀ D vs k led, Inv n vs led → Q (.ref D) ⟨σ.m, r, (D, lstObj vs k) :: led⟩) (h0 : Inv 0 [] σ.led) : CStart S σ (.ref I) elt target iter ifs scope pos env cl Q :=
  ⟨I, P 0, r, rfl, hb, fun s m led I r Q E x q => K.self s m led I r 0 Q E x q, CLoop.itr K Inv hz hb hok turn stop h0⟩
end
end Mine
namespace Mine
noncomputable section
variable {w : World} {fn : Fn} {S : Sit w fn} {σ : Sg} {α β : Type} {E : Value → Heap → Prop}

theorem Nat_three {a b : Nat} (h : a < b) (h0 : a ≠ 0) (h1 : a ≠ 1) (e : b = 1) : False := by omega
/-- a new object, as the library's rules hand it -/
theorem St.bridge1 {h : Heap} (x : St S σ h) {p : Addr × Obj} (hp : p ∈ σ.led) : ∃ f hid, Fr S.h₀ S.L h f ∧ News S.h₀ S.L h (hid ++ σ.led) ∧
    ∀ D o h', Fr S.h₀ S.L h' f → News S.h₀ S.L h' ((D, o) :: (hid ++ σ.led)) → (∀ q ∈ hid ++ σ.led, q.1 < D) → St S { σ with led := (D, o) :: σ.led } h' := by
  obtain ⟨f, hid, F, N, ap, back⟩ := x.bridge
  have hp1 : (p.1 == sysModules) = false := x.low p hp
  refine ⟨f, hid, F, N, fun D o h' F' N' hlt => back h' _ F' ?_ ?_ ?_ ?_⟩
  · intro q hq
    refine N' q ?_
    rcases List.mem_append.mp hq with hq | hq
    · exact .tail _ (List.mem_append_left _ hq)
    · rcases List.mem_cons.mp hq with rfl | hq
      · exact .head _
      · exact .tail _ (List.mem_append_right _ hq)
  · refine List.nodup_cons.mpr ⟨fun q => ?_, x.ledNodup⟩
    obtain ⟨q', hq', e⟩ := List.mem_map.mp q
    have := hlt q' (List.mem_append_right _ hq')
    rw [e] at this
    exact Nat.lt_irrefl _ this
  · intro q hq q' hq' e
    rcases List.mem_cons.mp hq' with rfl | hq'
    · have := hlt q (List.mem_append_left _ hq)
      rw [e] at this
      exact Nat.lt_irrefl _ this
    · exact ap q hq q' hq' e
  · intro q hq
    rcases List.mem_cons.mp hq with rfl | hq
    · have h2 := hlt p (List.mem_append_right _ hp)
      have h0 : p.1 ≠ 0 := fun e => by
        have := x.fresh p.1 (by unfold own; exact .tail _ (List.mem_append_right _ (List.mem_append_right _ (List.mem_map_of_mem hp))))
        rw [e] at this
        obtain ⟨o, es, ep, ho, _⟩ := S.T.b
        have ho' : S.h₀.get? 0 = some o := ho
        rw [this] at ho'; cases ho'
      have h1 : p.1 ≠ 1 := fun e => by
        rw [show sysModules = 1 from rfl, e] at hp1
        cases hp1
      exact beq_eq_false_iff_ne.mpr fun e => Nat_three h2 h0 h1 e
    · exact x.low q hq

-- displays
section
variable {env : Env} {pos : Pos} {Q : Value → Sg → Prop}
/-- a display's items are few -/
def TDone (vs : List Value) (P : Prop) : Prop := vs.length ≤ sizeLine ∧ P
theorem TDone.mk {vs : List Value} {P : Prop} (h1 : vs.length ≤ sizeLine) (h2 : P) : TDone vs P := ⟨h1, h2⟩
theorem W.TupleE {elts : List Expr} {k : Nat} (h : W S σ (spliced (backTo pos (starEach elts env))) (fun vs σ₁ => TDone vs (∀ D, Q (.ref D) { σ₁ with led := (D, tupObj vs) :: σ₁.led })) E) : W S σ (eval (.Tuple elts k pos) env) Q E := fun s x => by
  refine Tuple_ (wpAny_mono (h s x) (fun vs s₁ h₁ => ?_) fun _ _ e => e)
  obtain ⟨σ', h', tk', rfl, y, hz, q⟩ := h₁
  exact wpAny_newObj_type ⟨_, _, tk', rfl, y.alloc rfl, q _⟩ (by show vs.toArray.size ≤ sizeLine; simpa using hz)
theorem W.ListE {elts : List Expr} (h : W S σ (spliced (backTo pos (starEach elts env))) (fun vs σ₁ => TDone vs (∀ D, Q (.ref D) { σ₁ with led := (D, lstObj vs 0) :: σ₁.led })) E) : W S σ (eval (.List elts pos) env) Q E := fun s x => by
  refine List_ (wpAny_mono (h s x) (fun vs s₁ h₁ => ?_) fun _ _ e => e)
  obtain ⟨σ', h', tk', rfl, y, hz, q⟩ := h₁
  exact wpAny_newObj_type ⟨_, _, tk', rfl, y.alloc rfl, q _⟩ (by show vs.toArray.size ≤ sizeLine; simpa using hz)
/-- the end of a dict's display -/
def DDone {K : Type} [DecidableEq K] (knd : KeyKind PG w K) (D : Addr) (b : List (Addr × BlkE)) (Q : Value → Sg → Prop) (vs : List (Value × Value)) (σ₁ : Sg) : Prop :=
  ∃ kvs, Carries knd vs kvs ∧ (kvs.map (·.1)).Nodup ∧ σ₁.blk = (D, .inr fun o => o.IsDictOf knd []) :: b ∧ ∀ o, o.IsDictOf knd kvs → Q (.ref D) { σ₁ with blk := b, led := (D, o) :: σ₁.led }
theorem W.DictE {K : Type} [DecidableEq K] (knd : KeyKind PG w K) {keys : List (Option Expr)} {values : List Expr}
    (h : ∀ D, W S { σ with blk := (D, .inr fun o => o.IsDictOf knd []) :: σ.blk } (evalPairs (pairTrees keys values env pos)) (DDone knd D σ.blk Q) E)
    (hall : keys.all (·.isSome) = true := by rfl) (hl : keys.length = values.length := by rfl) (h0 : keys ≠ [] := by simp) (hlen : keys.length ≤ 15 := by decide) : W S σ (eval (.Dict keys values pos) env) Q E := fun s x => by
  obtain ⟨o, ho, hd⟩ := Heap.dictOf_iff.mp (Heap.DictOf.new (knd := knd) s.heap)
  have ho' : (s.heap.push { cls := .type "dict", data := .dict #[] }).get? s.heap.objs.size = some { cls := .type "dict", data := .dict #[] } := Heap.get?_push_size _ rfl
  have e : o = { cls := .type "dict", data := .dict #[] } := by rw [ho'] at ho; exact (Option.some.inj ho).symm
  subst e
  have low : (s.heap.objs.size == sysModules) = false := (x.alloc (o := { cls := .type "dict", data := .dict #[] }) rfl).low _ (.head _)
  refine wpAny_Dict_walk (knd := knd) hall hl h0 hlen (wpAny_mono (h s.heap.objs.size _ (x.allocB rfl hd)) (fun vs s₁ h₁ => ?_) fun _ _ e => e)
  obtain ⟨σ', h', tk', rfl, y, kvs, hc, hn, hb, q⟩ := h₁
  obtain ⟨m, b, led⟩ := σ'
  obtain rfl : b = _ := hb
  have hD := y.blk _ (.head _)
  refine ⟨kvs, hc, Heap.dictOf_iff.mpr hD, fun h'' hm hs => ?_⟩
  rw [merged_nil_of_nodup _ hn] at hm
  obtain ⟨o', ho', hd'⟩ := Heap.dictOf_iff.mp hm
  have y' : St S ⟨m, (s.heap.objs.size, .inr fun o => o = o') :: σ.blk, led⟩ h'' := y.step hs ⟨o', ho', rfl⟩
  obtain ⟨o'', rfl, z⟩ := St.toLed (σ := ⟨m, σ.blk, led⟩) y' low
  exact ⟨_, h'', _, rfl, z, q _ hd'⟩
theorem isDict_empty {K : Type} [DecidableEq K] (knd : KeyKind PG w K) : ({ cls := .type "dict", data := .dict #[] } : Obj).IsDictOf knd [] := by
  obtain ⟨o, ho, hd⟩ := Heap.dictOf_iff.mp (Heap.DictOf.new (knd := knd) ({} : Heap))
  have ho' : (({} : Heap).push { cls := .type "dict", data := .dict #[] }).get? ({} : Heap).objs.size = some { cls := .type "dict", data := .dict #[] } := Heap.get?_push_size _ rfl
  rw [ho'] at ho
  rw [Option.some.inj ho]; exact hd
theorem W.DictS {keys : List (Option Expr)} {values : List Expr} (_ : strLits keys = true)
    (h : ∀ D, W S { σ with blk := (D, .inr fun o => o.IsDictOf (strKind PG w) []) :: σ.blk } (evalPairs (pairTrees keys values env pos)) (DDone (strKind PG w) D σ.blk Q) E)
    (hall : keys.all (·.isSome) = true) (hl : keys.length = values.length) (h0 : keys ≠ []) (hlen : keys.length ≤ 15) : W S σ (eval (.Dict keys values pos) env) Q E := W.DictE _ h hall hl h0 hlen
theorem W.DictI {keys : List (Option Expr)} {values : List Expr} (_ : intLits keys = true)
    (h : ∀ D, W S { σ with blk := (D, .inr fun o => o.IsDictOf (intKind PG w) []) :: σ.blk } (evalPairs (pairTrees keys values env pos)) (DDone (intKind PG w) D σ.blk Q) E)
    (hall : keys.all (·.isSome) = true) (hl : keys.length = values.length) (h0 : keys ≠ []) (hlen : keys.length ≤ 15) : W S σ (eval (.Dict keys values pos) env) Q E := W.DictE _ h hall hl h0 hlen
theorem W.DictNil (h : ∀ D o, o.IsDictOf (strKind PG w) [] → o.IsDictOf (intKind PG w) [] → Q (.ref D) { σ with led := (D, o) :: σ.led }) : W S σ (eval (.Dict [] [] pos) env) Q E := fun s x => by
  rw [eval_Dict_empty]
  refine wpAny_bind (wpAny_standAt (wpAny_newObj_type ⟨_, _, s.toks, rfl, x.alloc rfl, h _ _ (isDict_empty _) (isDict_empty _)⟩))
theorem W.prNil {Q : List (Value × Value) → Sg → Prop} (h : Q [] σ) : W S σ (evalPairs (pairTrees [] [] env pos)) Q E := W.pure h
theorem W.prCons {k v : Expr} {ks : List (Option Expr)} {vs : List Expr} {Q : List (Value × Value) → Sg → Prop} (h : W S σ (eval k env) (fun kv σ₁ => W S σ₁ (eval v env) (fun vv σ₂ => W S σ₂ (evalPairs (pairTrees ks vs env pos)) (fun l σ₃ => Q ((kv, vv) :: l) σ₃) E) E) E) :
    W S σ (evalPairs (pairTrees (some k :: ks) (v :: vs) env pos)) Q E := by
  show W S σ (do
    let kv ← eval k env
    let vv ← PySem.holding [kv] (do let x ← eval v env; PySem.standAt pos; Pure.pure x)
    return (kv, vv) :: (← PySem.holding [kv, vv] (evalPairs (pairTrees ks vs env pos)))) Q E
  exact W.bind (W.mono h fun _ _ h₁ => W.bind (W.holding (W.bind (W.mono h₁ fun _ _ h₂ => W.bind (W.standAt (W.pure (W.bind (W.holding (W.mono h₂ fun _ _ h₃ => W.pure h₃)))))))))
theorem DDone.str {D : Addr} {b : List (Addr × BlkE)} {vs : List (Value × Value)} (hk : allStrKeys vs = true) (hn : ((strPairs vs).map (·.1)).Nodup) (hb : σ.blk = (D, .inr fun o => o.IsDictOf (strKind PG w) []) :: b)
    (h : ∀ o, o.IsDictOf (strKind PG w) (strPairs vs) → Q (.ref D) { σ with blk := b, led := (D, o) :: σ.led }) : DDone (strKind PG w) D b Q vs σ := ⟨_, carries_strPairs PG w vs hk, hn, hb, h⟩
theorem DDone.int {D : Addr} {b : List (Addr × BlkE)} {vs : List (Value × Value)} (hk : allIntKeys vs = true) (hn : ((intKeyPairs vs).map (·.1)).Nodup) (hb : σ.blk = (D, .inr fun o => o.IsDictOf (intKind PG w) []) :: b)
    (h : ∀ o, o.IsDictOf (intKind PG w) (intKeyPairs vs) → Q (.ref D) { σ with blk := b, led := (D, o) :: σ.led }) : DDone (intKind PG w) D b Q vs σ := ⟨_, carries_intKeyPairs PG w vs hk, hn, hb, h⟩
end

-- dicts
section
variable {K : Type} [DecidableEq K] {knd : KeyKind PG w K} {d : Addr} {o : Obj} {kvs : List (K × Value)} {k : K} {key v : Value} {g : Obj → Led}
theorem W.dItem {value slice : Expr} {Q : Value → Sg → Prop} (hm : (d, o) ∈ σ.led) (hd : o.IsDictOf knd kvs) (hkey : knd.is k key = true) (hl : valueAt kvs k = some v) (h : Q v σ)
    (hs : subscripted slice false (.ref d) key = PySem.operate [.ref d, key] (getItem (.ref d) key) := by with_unfolding_all rfl) (hg : ∀ r, letTemporaryGo value (.ref d) r = Pure.pure () := by intro _; with_unfolding_all rfl) : W S σ (subscriptTail value slice (.ref d) key) Q E := fun s x => by
  exact kda_item x.news hm hd hkey hl ⟨σ, s.heap, _, rfl, x, h⟩ hs hg
theorem W.dIn {Q : Value → Sg → Prop} (hm : (d, o) ∈ σ.led) (hd : o.IsDictOf knd kvs) (hkey : knd.is k key = true) (h : Q (.bool (valueAt kvs k).isSome) σ) : W S σ (compareOp .In key (.ref d)) Q E := fun s x =>
  kda_in x.news hm hd (x.low _ hm) hkey _ rfl ⟨σ, s.heap, _, rfl, x, h⟩
theorem W.dNotIn {Q : Value → Sg → Prop} (hm : (d, o) ∈ σ.led) (hd : o.IsDictOf knd kvs) (hkey : knd.is k key = true) (h : Q (.bool (!(valueAt kvs k).isSome)) σ) : W S σ (compareOp .NotIn key (.ref d)) Q E := fun s x =>
  kdg_notin x.news hm hd (x.low _ hm) hkey _ rfl ⟨σ, s.heap, _, rfl, x, h⟩
theorem W.dMeth {name : Str} {id : String} {pl : Sem Bool} {Q : Value × List Value → Sg → Prop} (hm : (d, o) ∈ σ.led) (hd : o.IsDictOf knd kvs) (slot : Slot "dict" name id) (hty : typeOf (.builtin id) = Pure.pure (.type "method_descriptor")) (h : Q (.builtin id, [.ref d]) σ) :
    W S σ (getMethod (.ref d) name pl) Q E := fun s x => by
  have hD := kda_dict x.news hm hd
  exact getMethod_builtin hD.typeIs PySem.F.plainAttrs_dict slot hty hD.mapOf.noDict ⟨σ, s.heap, s.toks, rfl, x, h⟩
theorem W.dGet1 {Q : Value → Sg → Prop} (hm : (d, o) ∈ σ.led) (hd : o.IsDictOf knd kvs) (hkey : knd.is k key = true) (h : Q ((valueAt kvs k).getD .none) σ) : W S σ (call (.builtin "dict.get") [.ref d, key]) Q E := fun s x =>
  kdg_get1 x.news hm hd (x.low _ hm) hkey _ rfl ⟨σ, s.heap, _, rfl, x, h⟩
theorem W.dGet2 {dflt : Value} {Q : Value → Sg → Prop} (hm : (d, o) ∈ σ.led) (hd : o.IsDictOf knd kvs) (hkey : knd.is k key = true) (h : Q ((valueAt kvs k).getD dflt) σ) : W S σ (call (.builtin "dict.get") [.ref d, key, dflt]) Q E := fun s x =>
  kdg_get2 x.news hm hd (x.low _ hm) hkey _ rfl ⟨σ, s.heap, _, rfl, x, h⟩
theorem W.dSet {Q : Unit → Sg → Prop} (H : Hole d o σ.led g) (hd : o.IsDictOf knd kvs) (hkey : knd.is k key = true) (hsz : kvs.length ≤ sizeLine) (h : ∀ o', o'.IsDictOf knd (stored kvs k v) → Q () { σ with led := g o' }) : W S σ (setItem (.ref d) key v) Q E := fun s x => by
  obtain ⟨f, hid, F, N, U, _, back⟩ := x.hole H
  exact kda_set F N U hd hkey hsz fun h' o' F' N' hd' => ⟨_, h', _, rfl, back h' o' F' N', h o' hd'⟩
theorem W.dPop {Q : Value → Sg → Prop} (H : Hole d o σ.led g) (hd : o.IsDictOf knd kvs) (hkey : knd.is k key = true) (hpart : (keyPart key).isSome = true) (hl : valueAt kvs k = some v) (hsz : kvs.length ≤ sizeLine) (h : ∀ o', o'.IsDictOf knd (without kvs k) → Q v { σ with led := g o' })
    (hargs : argsOk "dict.pop" ⟨.ref d :: key :: [], []⟩ := by unfold argsOk; kernel_rfl) : W S σ (call (.builtin "dict.pop") [.ref d, key]) Q E := fun s x => by
  obtain ⟨f, hid, F, N, U, _, back⟩ := x.hole H
  exact kob_pop F N U hd hkey (.inl rfl) hpart hargs hl hsz fun h' o' F' N' hd' => ⟨_, h', _, rfl, back h' o' F' N', h o' hd'⟩
theorem W.dCopy {Q : Value → Sg → Prop} (hm : (d, o) ∈ σ.led) (hd : o.IsDictOf knd kvs) (hsz : kvs.length ≤ sizeLine) (h : ∀ D o', o'.IsDictOf knd kvs → Q (.ref D) { σ with led := (D, o') :: σ.led }) : W S σ (call (.type "dict") [.ref d]) Q E := fun s x => by
  refine kt_call_dict (x.low _ hm) (kda_dict x.news hm hd) hsz fun h' hD hs => ?_
  obtain ⟨o', ho', hd'⟩ := Heap.dictOf_iff.mp hD
  have y : St S _ _ := x.alloc (o := { cls := .type "dict", data := .dict #[] }) rfl
  exact ⟨_, h', s.toks, rfl, y.put Hole.head hs ho', h _ _ hd'⟩
end
theorem is_str {P : Program} {w : World} {u : Str} {t : Tok} : (strKind P w).is u (.str u t) = true := strKind_is _ _ _ _
theorem is_int {P : Program} {w : World} {i : Int} {t : Tok} : (intKind P w).is i (.int i t) = true := intKind_is _ _ _ _

section
variable {d : Addr} {o : Obj} {kvs : List (Str × Value)} {k : Str} {tk : Tok} {v : Value} {g : Obj → Led}
theorem W.dItemS {value slice : Expr} {Q : Value → Sg → Prop} (hm : (d, o) ∈ σ.led) (hd : o.IsDictOf (strKind PG w) kvs) (hl : valueAt kvs k = some v) (h : Q v σ)
    (hs : subscripted slice false (.ref d) (.str k tk) = PySem.operate [.ref d, .str k tk] (getItem (.ref d) (.str k tk))) (hg : ∀ r, letTemporaryGo value (.ref d) r = Pure.pure ()) : W S σ (subscriptTail value slice (.ref d) (.str k tk)) Q E := W.dItem hm hd is_str hl h hs hg
theorem W.dInS {x : Option Value} {Q : Value → Sg → Prop} (hm : (d, o) ∈ σ.led) (hd : o.IsDictOf (strKind PG w) kvs) (hl : valueAt kvs k = x) (h : Q (.bool x.isSome) σ) : W S σ (compareOp .In (.str k tk) (.ref d)) Q E := W.dIn hm hd is_str (hl ▸ h)
theorem W.dNotInS {x : Option Value} {Q : Value → Sg → Prop} (hm : (d, o) ∈ σ.led) (hd : o.IsDictOf (strKind PG w) kvs) (hl : valueAt kvs k = x) (h : Q (.bool (!x.isSome)) σ) : W S σ (compareOp .NotIn (.str k tk) (.ref d)) Q E := W.dNotIn hm hd is_str (hl ▸ h)
theorem W.dMethS {name : Str} {id : String} {pl : Sem Bool} {Q : Value × List Value → Sg → Prop} (hm : (d, o) ∈ σ.led) (hd : o.IsDictOf (strKind PG w) kvs) (slot : Slot "dict" name id) (hty : typeOf (.builtin id) = Pure.pure (.type "method_descriptor")) (h : Q (.builtin id, [.ref d]) σ) : W S σ (getMethod (.ref d) name pl) Q E := W.dMeth hm hd slot hty h
theorem W.dGet1S {x : Option Value} {Q : Value → Sg → Prop} (hm : (d, o) ∈ σ.led) (hd : o.IsDictOf (strKind PG w) kvs) (hl : valueAt kvs k = x) (h : Q (x.getD .none) σ) : W S σ (call (.builtin "dict.get") [.ref d, .str k tk]) Q E := W.dGet1 hm hd is_str (hl ▸ h)
theorem W.dGet2S {x : Option Value} {dflt : Value} {Q : Value → Sg → Prop} (hm : (d, o) ∈ σ.led) (hd : o.IsDictOf (strKind PG w) kvs) (hl : valueAt kvs k = x) (h : Q (x.getD dflt) σ) : W S σ (call (.builtin "dict.get") [.ref d, .str k tk, dflt]) Q E := W.dGet2 hm hd is_str (hl ▸ h)
theorem W.dSetS {Q : Unit → Sg → Prop} (H : Hole d o σ.led g) (hd : o.IsDictOf (strKind PG w) kvs) (hsz : kvs.length ≤ sizeLine) (h : ∀ o', o'.IsDictOf (strKind PG w) (stored kvs k v) → Q () { σ with led := g o' }) : W S σ (setItem (.ref d) (.str k tk) v) Q E := W.dSet H hd is_str hsz h
theorem W.dPopS {Q : Value → Sg → Prop} (H : Hole d o σ.led g) (hd : o.IsDictOf (strKind PG w) kvs) (hl : valueAt kvs k = some v) (hsz : kvs.length ≤ sizeLine) (h : ∀ o', o'.IsDictOf (strKind PG w) (without kvs k) → Q v { σ with led := g o' }) : W S σ (call (.builtin "dict.pop") [.ref d, .str k tk]) Q E := W.dPop H hd is_str rfl hl hsz h
theorem W.dCopyS {Q : Value → Sg → Prop} (hm : (d, o) ∈ σ.led) (hd : o.IsDictOf (strKind PG w) kvs) (hsz : kvs.length ≤ sizeLine) (h : ∀ D o', o'.IsDictOf (strKind PG w) kvs → Q (.ref D) { σ with led := (D, o') :: σ.led }) : W S σ (call (.type "dict") [.ref d]) Q E := W.dCopy hm hd hsz h
end
section
variable {d : Addr} {o : Obj} {kvs : List (Int × Value)} {k : Int} {tk : Tok} {v : Value} {g : Obj → Led}
theorem W.dItemI {value slice : Expr} {Q : Value → Sg → Prop} (hm : (d, o) ∈ σ.led) (hd : o.IsDictOf (intKind PG w) kvs) (hl : valueAt kvs k = some v) (h : Q v σ)
    (hs : subscripted slice false (.ref d) (.int k tk) = PySem.operate [.ref d, .int k tk] (getItem (.ref d) (.int k tk))) (hg : ∀ r, letTemporaryGo value (.ref d) r = Pure.pure ()) : W S σ (subscriptTail value slice (.ref d) (.int k tk)) Q E := W.dItem hm hd is_int hl h hs hg
theorem W.dInI {x : Option Value} {Q : Value → Sg → Prop} (hm : (d, o) ∈ σ.led) (hd : o.IsDictOf (intKind PG w) kvs) (hl : valueAt kvs k = x) (h : Q (.bool x.isSome) σ) : W S σ (compareOp .In (.int k tk) (.ref d)) Q E := W.dIn hm hd is_int (hl ▸ h)
theorem W.dNotInI {x : Option Value} {Q : Value → Sg → Prop} (hm : (d, o) ∈ σ.led) (hd : o.IsDictOf (intKind PG w) kvs) (hl : valueAt kvs k = x) (h : Q (.bool (!x.isSome)) σ) : W S σ (compareOp .NotIn (.int k tk) (.ref d)) Q E := W.dNotIn hm hd is_int (hl ▸ h)
theorem W.dMethI {name : Str} {id : String} {pl : Sem Bool} {Q : Value × List Value → Sg → Prop} (hm : (d, o) ∈ σ.led) (hd : o.IsDictOf (intKind PG w) kvs) (slot : Slot "dict" name id) (hty : typeOf (.builtin id) = Pure.pure (.type "method_descriptor")) (h : Q (.builtin id, [.ref d]) σ) : W S σ (getMethod (.ref d) name pl) Q E := W.dMeth hm hd slot hty h
theorem W.dGet1I {x : Option Value} {Q : Value → Sg → Prop} (hm : (d, o) ∈ σ.led) (hd : o.IsDictOf (intKind PG w) kvs) (hl : valueAt kvs k = x) (h : Q (x.getD .none) σ) : W S σ (call (.builtin "dict.get") [.ref d, .int k tk]) Q E := W.dGet1 hm hd is_int (hl ▸ h)
theorem W.dGet2I {x : Option Value} {dflt : Value} {Q : Value → Sg → Prop} (hm : (d, o) ∈ σ.led) (hd : o.IsDictOf (intKind PG w) kvs) (hl : valueAt kvs k = x) (h : Q (x.getD dflt) σ) : W S σ (call (.builtin "dict.get") [.ref d, .int k tk, dflt]) Q E := W.dGet2 hm hd is_int (hl ▸ h)
theorem W.dSetI {Q : Unit → Sg → Prop} (H : Hole d o σ.led g) (hd : o.IsDictOf (intKind PG w) kvs) (hsz : kvs.length ≤ sizeLine) (h : ∀ o', o'.IsDictOf (intKind PG w) (stored kvs k v) → Q () { σ with led := g o' }) : W S σ (setItem (.ref d) (.int k tk) v) Q E := W.dSet H hd is_int hsz h
theorem W.dPopI {Q : Value → Sg → Prop} (H : Hole d o σ.led g) (hd : o.IsDictOf (intKind PG w) kvs) (hl : valueAt kvs k = some v) (hsz : kvs.length ≤ sizeLine) (h : ∀ o', o'.IsDictOf (intKind PG w) (without kvs k) → Q v { σ with led := g o' }) : W S σ (call (.builtin "dict.pop") [.ref d, .int k tk]) Q E := W.dPop H hd is_int rfl hl hsz h
theorem W.dCopyI {Q : Value → Sg → Prop} (hm : (d, o) ∈ σ.led) (hd : o.IsDictOf (intKind PG w) kvs) (hsz : kvs.length ≤ sizeLine) (h : ∀ D o', o'.IsDictOf (intKind PG w) kvs → Q (.ref D) { σ with led := (D, o') :: σ.led }) : W S σ (call (.type "dict") [.ref d]) Q E := W.dCopy hm hd hsz h
end

-- isinstance
section
variable {b : Bool} {c : Value} {Q : Value → Sg → Prop}
theorem W.isiOf {X t : Value} {H : Heap → Prop} (Z : KitX (hd.heap_39 w.params) X t H) (p : ∀ h, St S σ h → H h) (e : kitOne (hd.heap_39 w.params) t c = some b) (hx : X ≠ .builtin "__main__.__loader__#opaque") (h : Q (.bool b) σ) : W S σ (call (.builtin "isinstance") [X, c]) Q E := fun s x =>
  kia_one Z x.KIn (p _ x) e hx fun tk => ⟨σ, s.heap, tk, rfl, x, h⟩
theorem W.isiInt {n : Int} {u : Tok} (e : kitOne (hd.heap_39 w.params) (.type "int") c = some b) (h : Q (.bool b) σ) : W S σ (call (.builtin "isinstance") [.int n u, c]) Q E := W.isiOf kitx_int (fun _ _ => trivial) e (by intro q; cases q) h
theorem W.isiStr {n : Str} {u : Tok} (e : kitOne (hd.heap_39 w.params) (.type "str") c = some b) (h : Q (.bool b) σ) : W S σ (call (.builtin "isinstance") [.str n u, c]) Q E := W.isiOf kitx_str (fun _ _ => trivial) e (by intro q; cases q) h
theorem W.isiNone (e : kitOne (hd.heap_39 w.params) (.type "NoneType") c = some b) (h : Q (.bool b) σ) : W S σ (call (.builtin "isinstance") [.none, c]) Q E := W.isiOf kitx_none (fun _ _ => trivial) e (by intro q; cases q) h
theorem W.isiList {a : Addr} {vs : List Value} {n : Nat} (hm : (a, lstObj vs n) ∈ σ.led) (e : kitOne (hd.heap_39 w.params) (.type "list") c = some b) (h : Q (.bool b) σ) : W S σ (call (.builtin "isinstance") [.ref a, c]) Q E := W.isiOf kitx_list (fun _ x => ⟨_, x.led _ hm, rfl⟩) e (by intro q; cases q) h
theorem W.isiDict {K : Type} [DecidableEq K] {knd : KeyKind PG w K} {kvs : List (K × Value)} {a : Addr} {o : Obj} (hm : (a, o) ∈ σ.led) (hD : o.IsDictOf knd kvs) (e : kitOne (hd.heap_39 w.params) (.type "dict") c = some b) (h : Q (.bool b) σ) : W S σ (call (.builtin "isinstance") [.ref a, c]) Q E :=
  W.isiOf kitx_dict (fun _ x => by obtain ⟨es, ep, hc, _⟩ := hD; exact ⟨o, x.led _ hm, hc.1⟩) e (by intro q; cases q) h
theorem W.isiDictS {kvs : List (Str × Value)} {a : Addr} {o : Obj} (hm : (a, o) ∈ σ.led) (hD : o.IsDictOf (strKind PG w) kvs) (e : kitOne (hd.heap_39 w.params) (.type "dict") c = some b) (h : Q (.bool b) σ) : W S σ (call (.builtin "isinstance") [.ref a, c]) Q E := W.isiDict hm hD e h
theorem W.isiOwn {x D dx : Addr} {od : Obj} (hx : (x, instObj D dx) ∈ σ.led) (hdx : (dx, od) ∈ σ.led) (hg : plainGet (hd.heap_39 w.params) D "__class__" = true) (hdct : hasDictIn (hd.heap_39 w.params) D = true) (ha : findIn (hd.heap_39 w.params) (.ref D) "__class__" = some (some (.builtin "object.__class__")))
    (hn : specialIn (hd.heap_39 w.params) (.builtin "object.__class__") "__get__" = some (some (.builtin "getset_descriptor.__get__"))) (htk : takesIn (hd.heap_39 w.params) (.builtin "object.__class__") = some true) (hm : mroIn (hd.heap_39 w.params) D (.type "object") = some true)
    (e : kitOne (hd.heap_39 w.params) (.ref D) c = some b) (h : Q (.bool b) σ) : W S σ (call (.builtin "isinstance") [.ref x, c]) Q E :=
  W.isiOf (kitx_own hg hdct ha hn htk hm) (fun _ y => InstAt.of_news (N := y.news) hx hdx) e (by intro q; cases q) h
end
end
end Mine
namespace Mine
noncomputable section
variable {w : World} {fn : Fn} {S : Sit w fn} {σ : Sg} {α β : Type} {E : Value → Heap → Prop}
theorem W.cwKn {env : Env} {pos : Pos} {Q : Value → Sg → Prop} {f : Value} {e : Expr} {rest : List Expr} (hk : keepIn (hd.heap_39 w.params) f = true) (h : W S σ (spliced (backTo pos (starEach (e :: rest) env))) (fun vs σ₁ => W S σ₁ (call f vs) Q E) E)
    (he : starEach (e :: rest) env = (false, eval e env) :: starEach rest env := by rfl) (hplain : (backTo pos (starEach rest env)).any (·.1) = false := by rfl) : W S σ (callWith pos f [] (backTo pos (starEach (e :: rest) env)) []) Q E := W.cwK hk h he hplain
theorem W.cwK1 {env : Env} {pos : Pos} {Q : Value → Sg → Prop} {f x : Value} {e : Expr} {rest : List Expr} (hk : keepIn (hd.heap_39 w.params) f = true) (h : W S σ (spliced (backTo pos (starEach (e :: rest) env))) (fun vs σ₁ => W S σ₁ (call f (x :: vs)) Q E) E)
    (he : starEach (e :: rest) env = (false, eval e env) :: starEach rest env := by rfl) (hplain : (backTo pos (starEach rest env)).any (·.1) = false := by rfl) : W S σ (callWith pos f [x] (backTo pos (starEach (e :: rest) env)) []) Q E := W.cwK hk h he hplain
theorem W.cwK0n {env : Env} {pos : Pos} {Q : Value → Sg → Prop} {f : Value} (hk : keepIn (hd.heap_39 w.params) f = true) (h : W S σ (call f []) Q E) : W S σ (callWith pos f [] (backTo pos (starEach [] env)) []) Q E := W.cwK0 hk h
theorem W.cwK01 {env : Env} {pos : Pos} {Q : Value → Sg → Prop} {f x : Value} (hk : keepIn (hd.heap_39 w.params) f = true) (h : W S σ (call f [x]) Q E) : W S σ (callWith pos f [x] (backTo pos (starEach [] env)) []) Q E := W.cwK0 hk h
theorem W.cwBn {env : Env} {pos : Pos} {Q : Value → Sg → Prop} {id : String} {e : Expr} {rest : List Expr} (h : W S σ (spliced (backTo pos (starEach (e :: rest) env))) (fun vs σ₁ => W S σ₁ (call (.builtin id) vs) Q E) E)
    (he : starEach (e :: rest) env = (false, eval e env) :: starEach rest env := by rfl) (hplain : (backTo pos (starEach rest env)).any (·.1) = false := by rfl) : W S σ (callWith pos (.builtin id) [] (backTo pos (starEach (e :: rest) env)) []) Q E := W.cwB h he hplain
theorem W.cwB1 {env : Env} {pos : Pos} {Q : Value → Sg → Prop} {id : String} {x : Value} {e : Expr} {rest : List Expr} (h : W S σ (spliced (backTo pos (starEach (e :: rest) env))) (fun vs σ₁ => W S σ₁ (call (.builtin id) (x :: vs)) Q E) E)
    (he : starEach (e :: rest) env = (false, eval e env) :: starEach rest env := by rfl) (hplain : (backTo pos (starEach rest env)).any (·.1) = false := by rfl) : W S σ (callWith pos (.builtin id) [x] (backTo pos (starEach (e :: rest) env)) []) Q E := W.cwB h he hplain
theorem sufmem {l l' : Led} {p : Addr × Obj} (h : l <:+ l') (m : p ∈ l) : p ∈ l' := h.subset m

/-- an instance of a class of the text's, its fields in order -/
def Inst (P : Params) (C : Addr) (fs : List (Str × Value)) (x : Addr) (led : Led) : Prop :=
  ∃ dx n ts, (x, instObj C dx) ∈ led ∧ (dx, dictOf (List.zipWith (fun (f : Str × Value) t => ent P f.1 t f.2) fs ts) n) ∈ led ∧ ts.length = fs.length
def Inst1 (P : Params) (C : Addr) (a : Str) (v : Value) (x : Addr) (led : Led) : Prop :=
  ∃ dx n t, (x, instObj C dx) ∈ led ∧ (dx, dictOf [ent P a t v] n) ∈ led
def Inst2 (P : Params) (C : Addr) (a : Str) (v : Value) (b : Str) (u : Value) (x : Addr) (led : Led) : Prop :=
  ∃ dx n t1 t2, (x, instObj C dx) ∈ led ∧ (dx, dictOf [ent P a t1 v, ent P b t2 u] n) ∈ led
def Inst4 (P : Params) (C : Addr) (a : Str) (v : Value) (b : Str) (u : Value) (c : Str) (r : Value) (d : Str) (q : Value) (x : Addr) (led : Led) : Prop :=
  ∃ dx n t1 t2 t3 t4, (x, instObj C dx) ∈ led ∧ (dx, dictOf [ent P a t1 v, ent P b t2 u, ent P c t3 r, ent P d t4 q] n) ∈ led
def Inst5 (P : Params) (C : Addr) (a : Str) (v : Value) (b : Str) (u : Value) (c : Str) (r : Value) (d : Str) (q : Value) (e : Str) (p : Value) (x : Addr) (led : Led) : Prop :=
  ∃ dx n t1 t2 t3 t4 t5, (x, instObj C dx) ∈ led ∧ (dx, dictOf [ent P a t1 v, ent P b t2 u, ent P c t3 r, ent P d t4 q, ent P e t5 p] n) ∈ led
theorem Inst1.grow {P : Params} {C : Addr} {a : Str} {v : Value} {x : Addr} {l l' : Led} (h : Inst1 P C a v x l) (s : l <:+ l') : Inst1 P C a v x l' := let ⟨dx, n, t, h1, h2⟩ := h; ⟨dx, n, t, s.subset h1, s.subset h2⟩
theorem Inst2.grow {P : Params} {C : Addr} {a b : Str} {v u : Value} {x : Addr} {l l' : Led} (h : Inst2 P C a v b u x l) (s : l <:+ l') : Inst2 P C a v b u x l' := let ⟨dx, n, t, t2, h1, h2⟩ := h; ⟨dx, n, t, t2, s.subset h1, s.subset h2⟩
theorem Inst4.grow {P : Params} {C : Addr} {a b c d : Str} {v u r q : Value} {x : Addr} {l l' : Led} (h : Inst4 P C a v b u c r d q x l) (s : l <:+ l') : Inst4 P C a v b u c r d q x l' := let ⟨dx, n, t, t2, t3, t4, h1, h2⟩ := h; ⟨dx, n, t, t2, t3, t4, s.subset h1, s.subset h2⟩
theorem Inst5.grow {P : Params} {C : Addr} {a b c d e : Str} {v u r q p : Value} {x : Addr} {l l' : Led} (h : Inst5 P C a v b u c r d q e p x l) (s : l <:+ l') : Inst5 P C a v b u c r d q e p x l' := let ⟨dx, n, t, t2, t3, t4, t5, h1, h2⟩ := h; ⟨dx, n, t, t2, t3, t4, t5, s.subset h1, s.subset h2⟩
theorem sufcons {l r : Led} {x : Addr × Obj} (h : l <:+ r) : l <:+ x :: r := h.trans (List.suffix_cons x r)
theorem sufapp {l r p : Led} (h : l <:+ r) : l <:+ p ++ r := h.trans (List.suffix_append p r)
theorem sufto {l m r : Led} (h : m <:+ r) (k : l <:+ m) : l <:+ r := k.trans h
theorem sufrfl {l : Led} : l <:+ l := List.suffix_rfl
/-- m knows what ml says -/
def Has (ml m : Loc) : Prop := ∀ y v, ml.lookup y = some v → m.lookup y = some v
theorem Has.nil {m : Loc} : Has [] m := fun _ _ e => by cases e
theorem Has.cons {ml m : Loc} {n : Str} {v : Value} (e : m.lookup n = some v) (h : Has ml m) : Has ((n, v) :: ml) m := fun y u q => by
  rcases lookup_set q with ⟨rfl, rfl⟩ | ⟨_, q⟩
  · exact e
  · exact h y u q
theorem ite_t {c : Bool} {P R : Prop} (h : c = true) (p : P) : if c = true then P else R := by subst h; exact p
theorem ite_f {c : Bool} {P R : Prop} (h : c = false) (p : R) : if c = true then P else R := by subst h; exact p
end
end Mine
namespace Mine
noncomputable section
variable {w : World} {fn : Fn} {S : Sit w fn} {σ : Sg} {α β : Type} {E : Value → Heap → Prop}

-- range
abbrev rngObj (a b c : Int) (t u v : Tok) : Obj := { cls := .type "range", data := .fields #[.int a t, .int b u, .int c v] }
theorem W.range1 {n : Int} {t : Tok} {Q : Value → Sg → Prop} (h : ∀ D t1 t2 t3, Q (.ref D) { σ with led := (D, rngObj 0 n 1 t1 t2 t3) :: σ.led }) : W S σ (call (.type "range") [.int n t]) Q E := fun s x =>
  call_range_1 ⟨_, _, _, rfl, x.alloc rfl, h _ _ _ _⟩
theorem W.range3 {a b c : Int} {t u v : Tok} {Q : Value → Sg → Prop} (hc : c ≠ 0) (hp : Builtin.divisionGoesByPylong (b - a) c = false) (h : ∀ D t1 t2 t3, Q (.ref D) { σ with led := (D, rngObj a b c t1 t2 t3) :: σ.led }) : W S σ (call (.type "range") [.int a t, .int b u, .int c v]) Q E := fun s x =>
  call_range_3 hc ⟨_, _, s.toks, rfl, x.alloc rfl, h _ _ _ _⟩ (.inl hp)
abbrev RgIt (a c : Int) (n : Nat) (i : Nat) : Obj → Prop := fun o => o = { cls := .type "range_iterator", data := .fields #[rawInt (a + i * c), rawInt ((n : Int) - i), rawInt c] }
theorem W.iterR {a b c : Int} {t u v : Tok} {r : Addr} {Q : Value → Sg → Prop} (n : Nat) (hm : (r, rngObj a b c t u v) ∈ σ.led) (hs : Builtin.Range.small a b c = true) (hn : Builtin.Range.rangeSize a b c = (n : Int)) (h : ∀ I, Q (.ref I) { σ with blk := (I, .inr (RgIt a c n 0)) :: σ.blk }) : W S σ (pyIter (.ref r)) Q E := fun s x => by
  refine wpAny_pyIter_range (x.led _ hm) hs ⟨_, _, s.toks, rfl, x.allocB rfl ?_, h _⟩
  rw [hn]
  simp
theorem W.iterRev {l : Addr} {vs : List Value} {k : Nat} {Q : Value → Sg → Prop} (hm : (l, lstObj vs k) ∈ σ.led) (h : ∀ I, Q (.ref I) { σ with led := (I, revObj l ((vs.length : Int) - 1)) :: σ.led }) : W S σ (call (.type "reversed") [.ref l]) Q E := fun s x => by
  refine call_reversed_list (x.isList hm) ⟨_, _, s.toks, rfl, x.alloc rfl, ?_⟩
  have := h s.heap.objs.size
  simpa using this
/-- a reversed one is its own iterator; it leaves the ledger -/
theorem W.iterRev2 {l I : Addr} {vs : List Value} {r : Led} {Q : Value → Sg → Prop} (hl : σ.led = (I, revObj l ((vs.length : Int) - 1)) :: r) (h : Q (.ref I) ⟨σ.m, (I, .inr (RIt l ((vs.length : Int) - 1 - (0 : Nat)))) :: σ.blk, r⟩) : W S σ (pyIter (.ref I)) Q E := fun s x => by
  have hit : s.heap.IsRevIter I l ((vs.length : Int) - 1) := ⟨_, x.led _ (by rw [hl]; exact .head _), rfl, rfl⟩
  refine wpAny_pyIter_revIter hit ⟨_, s.heap, s.toks, rfl, ?_, h⟩
  obtain ⟨m, b, led⟩ := σ
  obtain rfl : led = _ := hl
  refine St.toBlk (σ := ⟨m, b, r⟩) x ⟨rfl, ?_⟩
  show Data.fields _ = _
  rw [show (vs.length : Int) - 1 - ((0 : Nat) : Int) = (vs.length : Int) - 1 by simp]
theorem W.iterB {b : Array UInt8} {t : Tok} {Q : Value → Sg → Prop} (h : ∀ I, Q (.ref I) { σ with blk := (I, .inr (BIt b t 0)) :: σ.blk }) : W S σ (pyIter (.bytes b t)) Q E := fun s x =>
  KBw.pyIter_bytes ⟨_, _, s.toks, rfl, x.allocB rfl ⟨rfl, rfl⟩, h _⟩
theorem Itr.bytes {b : Array UInt8} {t : Tok} : Itr S b.size (fun i v => ∃ c u, b[i]? = some c ∧ v = .int (c.toNat : Int) u) (BIt b t) (fun _ => True) where
  next := fun s m led I r i Q E hi _ x hQ => KBw.next_item (x.blk _ (.head _)) (c := b[i]) (by simp [hi]) fun h' hit hs => hQ _ h' _ ⟨_, _, by simp [hi], rfl⟩ (x.step hs hit)
  stop := fun s m led I r Q E _ x hQ => KBw.next_end rfl (x.blk _ (.head _)) (by simp) fun h' he => hQ h' s.toks (x.drop fun a o ha e => he a o ha e)
  self := fun s m led I r i Q E x hQ => KBw.pyIter_self (x.blk _ (.head _)) hQ
  cls := fun i o h => ⟨_, h.1, by decide⟩

-- unpacking
theorem W.aTuple {env : Env} {elts : List Expr} {k : Nat} {pos : Pos} {t : Addr} {vs : List Value} {Q : Unit → Sg → Prop} (ht : (t, tupObj vs) ∈ σ.led) (hn : (assignEach elts env).length = vs.length) (hstar : (assignEach elts env).findIdx? (·.1) = none)
    (h : W S σ (assignInOrder ((assignEach elts env).map (·.2)) vs) Q E) : W S σ (assign (.Tuple elts k pos) env (.ref t)) Q E := fun s x => by
  refine assign_Tuple_tuple rfl (x.isTup ht) (by simpa using hn) hstar fun h' he => ?_
  have y : St S σ h' := x.grow fun b o e => he b o (Nat.ne_of_lt (Heap.lt_size e)) e
  exact h { s with heap := h' } y
theorem W.aoNil {xs : List Value} {Q : Unit → Sg → Prop} (h : Q () σ) : W S σ (assignInOrder [] xs) Q E := W.pure h
theorem W.aoCons {t : Value → Sem Unit} {ts : List (Value → Sem Unit)} {x : Value} {xs : List Value} {Q : Unit → Sg → Prop} (h : W S σ (t x) (fun _ σ₁ => W S σ₁ (assignInOrder ts xs) Q E) E) : W S σ (assignInOrder (t :: ts) (x :: xs)) Q E := by
  show W S σ (do PySem.holding xs (t x); assignInOrder ts xs) Q E
  exact W.bind (W.holding h)

theorem W.aTup2 {env : Env} {a b : Str} {pa pb pos : Pos} {k : Nat} {t : Addr} {x y : Value} {Q : Unit → Sg → Prop} (ht : (t, tupObj [x, y]) ∈ σ.led)
    (h : W S σ (storeName env a x) (fun _ σ₁ => W S σ₁ (storeName env b y) Q E) E) : W S σ (assign (.Tuple [.Name a pa, .Name b pb] k pos) env (.ref t)) Q E :=
  W.aTuple ht rfl rfl (W.aoCons (W.assignName (W.mono h fun _ _ h₁ => W.aoCons (W.assignName (W.mono h₁ fun _ _ h₂ => W.aoNil h₂)))))
theorem W.aTup3 {env : Env} {a b c : Str} {pa pb pc pos : Pos} {k : Nat} {t : Addr} {x y z : Value} {Q : Unit → Sg → Prop} (ht : (t, tupObj [x, y, z]) ∈ σ.led)
    (h : W S σ (storeName env a x) (fun _ σ₁ => W S σ₁ (storeName env b y) (fun _ σ₂ => W S σ₂ (storeName env c z) Q E) E) E) : W S σ (assign (.Tuple [.Name a pa, .Name b pb, .Name c pc] k pos) env (.ref t)) Q E :=
  W.aTuple ht rfl rfl (W.aoCons (W.assignName (W.mono h fun _ _ h₁ => W.aoCons (W.assignName (W.mono h₁ fun _ _ h₂ => W.aoCons (W.assignName (W.mono h₂ fun _ _ h₃ => W.aoNil h₃)))))))

-- sequences
section
variable {l b : Addr} {vs us : List Value} {n k : Nat} {Q : Value → Sg → Prop}
theorem W.lenL (hm : (l, lstObj vs n) ∈ σ.led) (hz : vs.length ≤ sizeLine) (h : ∀ t, Q (.int vs.length t) σ) : W S σ (call (.builtin "len") [.ref l]) Q E := fun s x => by
  have hz' : vs.length ≤ 16777216 := hz
  refine PySem.Calls.call_len_list (x.isList hm) (by simp; omega) ⟨σ, s.heap, _, rfl, x, ?_⟩
  have := h (s.toks + 1)
  simpa using this
theorem W.truL {Q : Bool → Sg → Prop} (hm : (l, lstObj vs n) ∈ σ.led) (hz : vs.length ≤ sizeLine) (h : Q (!vs.isEmpty) σ) : W S σ (truthy (.ref l)) Q E := fun s x => by
  have hz' : vs.length ≤ 16777216 := hz
  exact wpAny_truthy_list (x.isList hm) (by simp; omega) ⟨σ, s.heap, _, rfl, x, by rw [List.isEmpty_toArray]; exact h⟩
theorem W.addL (hl : (l, lstObj vs n) ∈ σ.led) (hb : (b, lstObj us k) ∈ σ.led) (hz : (vs ++ us).length ≤ sizeLine) (h : ∀ D, Q (.ref D) { σ with led := (D, lstObj (vs ++ us) 0) :: σ.led }) : W S σ (binaryOp .Add (.ref l) (.ref b)) Q E := fun s x => by
  obtain ⟨f, hid, F, N, back⟩ := x.bridge1 hl
  refine kmk_add_lit F N (x.isList hl) (x.isList hb) (zs := vs ++ us) (by simp) (fun D h' F' N' hlt => ⟨_, h', s.toks, rfl, back D _ h' F' N' hlt, h D⟩) (by simpa using hz)
theorem W.mulL {x : Int} {u : Tok} (hl : (l, lstObj vs n) ∈ σ.led) (hlo : 0 ≤ x) (hhi : x < 2 ^ 63) (hsz : vs.length * x.toNat ≤ 256) (h : ∀ D, Q (.ref D) { σ with led := (D, lstObj (List.replicate x.toNat vs).flatten 0) :: σ.led }) : W S σ (binaryOp .Mult (.ref l) (.int x u)) Q E := fun s y => by
  obtain ⟨f, hid, F, N, back⟩ := y.bridge1 hl
  exact KMa.mul F N (y.isList hl) (by omega) hhi hsz rfl fun D h' F' N' hlt => ⟨_, h', s.toks, rfl, back D _ h' F' N' hlt, h D⟩
theorem W.tupL (hl : (l, lstObj vs n) ∈ σ.led) (hz : vs.length ≤ sizeLine) (h : ∀ D, Q (.ref D) { σ with led := (D, tupObj vs) :: σ.led }) : W S σ (call (.type "tuple") [.ref l]) Q E := fun s x =>
  call_tuple_list (x.isList hl) (fun h' hk => ⟨_, _, s.toks, rfl, (x.grow hk).alloc rfl, h _⟩) (by simpa using hz)
theorem W.neNil (hl : (l, lstObj vs n) ∈ σ.led) (hb : (b, lstObj [] k) ∈ σ.led) (hu : S.un < cLine) (h : Q (.bool (!vs.isEmpty)) σ) : W S σ (compareOp .NotEq (.ref l) (.ref b)) Q E := fun s x => by
  cases vs with
  | nil => exact SeqAt.RcNeAt.lists (e := fun _ => true) (x.isList hl) (x.isList hb) rfl hu (fun j h1 _ => absurd h1 (Nat.not_lt_zero _)) PG w _ _ ⟨σ, s.heap, s.toks, rfl, x, h⟩
  | cons v vs => exact SeqAt.RcNeAt.lists_lengths (x.isList hl) (x.isList hb) (by simp) hu PG w _ _ ⟨σ, s.heap, s.toks, rfl, x, h⟩
theorem W.eqNil (hl : (l, lstObj vs n) ∈ σ.led) (hb : (b, lstObj [] k) ∈ σ.led) (hu : S.un < cLine) (h : Q (.bool vs.isEmpty) σ) : W S σ (compareOp .Eq (.ref l) (.ref b)) Q E := fun s x => by
  cases vs with
  | nil => exact SeqAt.eq_listAt (e := fun _ => true) (x.isList hl) (x.isList hb) rfl hu (fun j h1 _ => absurd h1 (Nat.not_lt_zero _)) ⟨σ, s.heap, s.toks, rfl, x, h⟩
  | cons v vs => exact SeqAt.eq_list_lengthsAt (x.isList hl) (x.isList hb) (by simp) hu ⟨σ, s.heap, s.toks, rfl, x, h⟩
end

-- what a value reads as
def RV (led : Led) (v : Value) (d : PyData) : Prop := ∀ h : Heap, (∀ p ∈ led, h.get? p.1 = some p.2) → ∃ as, Reads h v d as
def RVs (led : Led) (vs : List Value) (ds : List PyData) : Prop := ∀ h : Heap, (∀ p ∈ led, h.get? p.1 = some p.2) → ∃ as, ReadsAll h vs ds as
section
variable {led led' : Led} {v : Value} {d : PyData} {vs : List Value} {ds : List PyData}
theorem RV.grow (h : RV led v d) (s : led <:+ led') : RV led' v d := fun hp k => h hp fun p q => k p (s.subset q)
theorem RVs.grow (h : RVs led vs ds) (s : led <:+ led') : RVs led' vs ds := fun hp k => h hp fun p q => k p (s.subset q)
theorem RV.none : RV led .none .none := fun _ _ => ⟨[], .none⟩
theorem RV.int {i : Int} {t : Tok} : RV led (.int i t) (.int i) := fun _ _ => ⟨[], .int i t⟩
theorem RV.str {x : Str} {t : Tok} : RV led (.str x t) (.str x) := fun _ _ => ⟨[], .str x t⟩
theorem RV.bool {b : Bool} : RV led (.bool b) (.bool b) := fun _ _ => ⟨[], .bool b⟩
theorem RVs.nil : RVs led [] [] := fun _ _ => ⟨[], .nil⟩
theorem RVs.cons (h1 : RV led v d) (h2 : RVs led vs ds) : RVs led (v :: vs) (d :: ds) := fun h k => let ⟨_, a⟩ := h1 h k; let ⟨_, b⟩ := h2 h k; ⟨_, .cons a b⟩
theorem readsAll_snoc {h : Heap} : ∀ {vs : List Value} {ds : List PyData} {bs as : List Addr} {v : Value} {d : PyData}, ReadsAll h vs ds bs → Reads h v d as → ∃ cs, ReadsAll h (vs ++ [v]) (ds ++ [d]) cs
  | [], _, _, _, _, _, .nil, a => ⟨_, .cons a .nil⟩
  | _ :: _, _, _, _, _, _, .cons c r, a => let ⟨_, e⟩ := readsAll_snoc r a; ⟨_, .cons c e⟩
theorem RVs.snoc (h2 : RVs led vs ds) (h1 : RV led v d) : RVs led (vs ++ [v]) (ds ++ [d]) := fun h k => by
  obtain ⟨as, a⟩ := h1 h k
  obtain ⟨bs, b⟩ := h2 h k
  exact readsAll_snoc b a
theorem RV.list {a : Addr} {n : Nat} (hm : (a, lstObj vs n) ∈ led) (h : RVs led vs ds) : RV led (.ref a) (.list ds) := fun hp k => let ⟨_, b⟩ := h hp k; ⟨_, .list (k _ hm) rfl rfl (by simpa using b)⟩
theorem RV.tuple {a : Addr} (hm : (a, tupObj vs) ∈ led) (h : RVs led vs ds) : RV led (.ref a) (.tuple ds) := fun hp k => let ⟨_, b⟩ := h hp k; ⟨_, .tuple (k _ hm) rfl rfl (by simpa using b)⟩
end
theorem W.neRV {a b : Value} {da db : PyData} {Q : Value → Sg → Prop} (ra : RV σ.led a da) (rb : RV σ.led b db) (ha : SeqAt.shaped da = true) (hb : SeqAt.shaped db = true) (hu : S.un + 64 < cLine) (h : Q (.bool (!PyData.eqv da db)) σ) : W S σ (compareOp .NotEq a b) Q E := fun s x => by
  obtain ⟨_, r1⟩ := ra s.heap x.led
  obtain ⟨_, r2⟩ := rb s.heap x.led
  exact SeqAt.compareNe_shaped r1 r2 ha hb hu ⟨σ, s.heap, s.toks, rfl, x, h⟩

-- strings
theorem W.joinL {D : Addr} {vs : List Value} {n : Nat} {ys : List Str} {x : Str} {t : Tok} {Q : Value → Sg → Prop} (hl : (D, lstObj vs n) ∈ σ.led) (hi : StrsAre vs ys) (hok : (ys.map (·.length)).sum + ys.length * x.length ≤ 16777216) (h : ∀ t', Q (.str (Txt.join x ys) t') σ) : W S σ (call (.builtin "str.join") [.str x t, .ref D]) Q E := fun s y =>
  join_list (y.isList hl) (by simpa using hi) hok fun t' k => ⟨σ, s.heap, k, rfl, y, h t'⟩
theorem W.strItem {value slice : Expr} {x : Str} {t u : Tok} {i : Int} {Q : Value → Sg → Prop} (h0 : 0 ≤ i) (h1 : i < x.length) (hn : x.length ≤ 16777216) (h : ∀ t', (Txt.item x i).length = 1 → Q (.str (Txt.item x i) t') σ)
    (hs : subscripted slice false (.str x t) (.int i u) = PySem.operate [.str x t, .int i u] (getItem (.str x t) (.int i u)) := by with_unfolding_all rfl)
    (ht : ∀ r, letTemporaryGo value (.str x t) r = Pure.pure () := by intro _; with_unfolding_all rfl) : W S σ (subscriptTail value slice (.str x t) (.int i u)) Q E := fun s y =>
  KXi.item rfl (by omega) h1 hn (fun e => ⟨σ, s.heap, _, rfl, y, h _ e⟩) hs ht
theorem W.strMul {x : Str} {t u : Tok} {i : Int} {Q : Value → Sg → Prop} (hx : x.length ≤ 16) (hlo : 0 ≤ i) (hhi : i ≤ 100) (h : ∀ t', Q (.str (Txt.mul x i) t') σ) : W S σ (binaryOp .Mult (.str x t) (.int i u)) Q E := fun s y =>
  KXi.mul rfl hx (by omega) (by simp; omega) fun t' k _ _ => ⟨σ, s.heap, k, rfl, y, h t'⟩
theorem W.chr {i : Int} {t : Tok} {Q : Value → Sg → Prop} (hi : (decide (i < 0) || decide (i > 0x10FFFF)) = false) (h : ∀ t', Q (.str ⟨#[i.toNat]⟩ t') σ) : W S σ (call (.builtin "chr") [.int i t]) Q E := fun s y => P.chr_of_int hi ⟨σ, s.heap, _, rfl, y, h _⟩
theorem W.inTupS {t : Addr} {vs : List Value} {ys : List Str} {x : Str} {u : Tok} {Q : Value → Sg → Prop} (ht : (t, tupObj vs) ∈ σ.led) (hi : StrsAre vs ys) (h : Q (.bool (ys.any (· == x))) σ) : W S σ (compareOp .In (.str x u) (.ref t)) Q E := fun s y =>
  in_tuple_strs (y.isTup ht) (by simpa using hi) ⟨σ, s.heap, s.toks, rfl, y, h⟩
theorem W.inTupI {t : Addr} {vs : List Value} {ns : List Int} {x : Int} {u : Tok} {Q : Value → Sg → Prop} (ht : (t, tupObj vs) ∈ σ.led) (hi : IntsAre vs ns) (h : Q (.bool (ns.any (· == x))) σ) : W S σ (compareOp .In (.int x u) (.ref t)) Q E := fun s y =>
  in_tuple_ints (y.isTup ht) (by simpa using hi) ⟨σ, s.heap, s.toks, rfl, y, h⟩
-- numbers
theorem W.absI {n : Int} {t : Tok} {Q : Value → Sg → Prop} (h : ∀ t', Q (.int (if n < 0 then -n else n) t') σ) : W S σ (call (.builtin "abs") [.int n t]) Q E := fun s y => call_abs_int fun u tk => ⟨σ, s.heap, tk, rfl, y, h u⟩
theorem W.intI {n : Int} {t : Tok} {Q : Value → Sg → Prop} (h : Q (.int n t) σ) : W S σ (call (.type "int") [.int n t]) Q E := fun s y => call_int_int ⟨σ, s.heap, s.toks, rfl, y, h⟩
theorem W.intB {b : Bool} {Q : Value → Sg → Prop} (h : ∀ t, Q (.int (if b then 1 else 0) t) σ) : W S σ (call (.type "int") [.bool b]) Q E := fun s y => call_int_bool ⟨σ, s.heap, _, rfl, y, h _⟩

theorem W.cwT {T : String} {env : Env} {pos : Pos} {e : Expr} {rest : List Expr} {Q : Value → Sg → Prop} (h : W S σ (spliced (backTo pos (starEach (e :: rest) env))) (fun vs σ₁ => W S σ₁ (call (.type T) vs) Q E) E)
    (he : starEach (e :: rest) env = (false, eval e env) :: starEach rest env := by rfl) (hplain : (backTo pos (starEach rest env)).any (·.1) = false := by rfl) : W S σ (callWith pos (.type T) [] (backTo pos (starEach (e :: rest) env)) []) Q E :=
  fun _ x => callWith_type1 (W.nest h x) he hplain

-- while, without a raise
theorem W.While0 {test : Expr} {body : List Stmt} {env : Env} {pos : Pos} {Q : Flow → Sg → Prop} (Inv : Nat → Loc → Led → Prop) (n : Nat) (h0 : Inv n σ.m σ.led)
    (turn : ∀ n m led, Inv n m led → W S ⟨m, σ.blk, led⟩ (isTrue test env (eval test env)) (fun b σ₁ => if b = true then W S σ₁ (execs body env) (fun f σ₂ => σ₂.blk = σ.blk ∧ match f with
      | .next => ∃ k, k < n ∧ Inv k σ₂.m σ₂.led
      | .cont => ∃ k, k < n ∧ Inv k σ₂.m σ₂.led
      | .brk => Q .next σ₂
      | .ret u => Q (.ret u) σ₂) (fun _ _ => False) else Q .next σ₁) (fun _ _ => False)) : W S σ (exec (.While test body [] pos) env) Q E := fun s x => by
  refine wpAny_While (codeAny_whileLoop (fun n s' => ∃ m led h' tk', s' = { s with heap := h', toks := tk' } ∧ Inv n m led ∧ St S ⟨m, σ.blk, led⟩ h') ?_ n ⟨σ.m, σ.led, s.heap, s.toks, rfl, h0, x⟩)
  rintro n s' ⟨m, led, h', tk', rfl, inv, y⟩
  refine (turn n m led inv).noRaise (s := { s with heap := h', toks := tk' }) y fun b σ₁ h₁ tk₁ y₁ q₁ => ?_
  cases b with
  | false =>
    simp only [Bool.false_eq_true, if_false] at q₁ ⊢
    exact wpAny_execs_nil ⟨_, h₁, tk₁, rfl, y₁, q₁⟩
  | true =>
    simp only [if_true] at q₁ ⊢
    refine q₁.noRaise (s := { s with heap := h₁, toks := tk₁ }) y₁ fun f σ₂ h₂ tk₂ y₂ q₂ => ?_
    obtain ⟨m₂, b₂, led₂⟩ := σ₂
    obtain ⟨rfl, q₂⟩ := q₂
    cases f with
    | next => obtain ⟨k, hk, i⟩ := q₂; exact ⟨k, hk, m₂, led₂, h₂, tk₂, rfl, i, y₂⟩
    | cont => obtain ⟨k, hk, i⟩ := q₂; exact ⟨k, hk, m₂, led₂, h₂, tk₂, rfl, i, y₂⟩
    | brk => exact ⟨_, h₂, tk₂, rfl, y₂, q₂⟩
    | ret u => exact ⟨_, h₂, tk₂, rfl, y₂, q₂⟩
end
end Mine
namespace Mine
noncomputable section
variable {w : World} {fn : Fn} {S : Sit w fn} {σ : Sg} {α β : Type} {E : Value → Heap → Prop}

abbrev SDict (w : World) (led : Led) (d : Addr) (kvs : List (Str × Value)) : Prop := ∃ o, (d, o) ∈ led ∧ o.IsDictOf (strKind PG w) kvs
abbrev IDict (w : World) (led : Led) (d : Addr) (kvs : List (Int × Value)) : Prop := ∃ o, (d, o) ∈ led ∧ o.IsDictOf (intKind PG w) kvs
abbrev RefAt (w : World) (led : Led) (a : Addr) (n : Int) : Prop := ∃ t t', Inst2 w.params 254 "number" (.int n t) "generation" (.int 0 t') a led
abbrev NameAt (w : World) (led : Led) (a : Addr) (x : Str) : Prop := ∃ t, Inst1 w.params 183 "text" (.str x t) a led

/-- a plain object of a tree: what kind_of says of it -/
inductive PK (w : World) (led : Led) : Value → Str → Prop
  | none : PK w led .none "null"
  | int {n t} : PK w led (.int n t) "int"
  | name {a v} : Inst1 w.params 183 "text" v a led → PK w led (.ref a) "name"
  | string {a v u} : Inst2 w.params 205 "octets" v "is_hex" u a led → PK w led (.ref a) "string"
  | list {a vs n} : (a, lstObj vs n) ∈ led → PK w led (.ref a) "array"
  | dict {a o kvs} : (a, o) ∈ led → o.IsDictOf (strKind PG w) kvs → PK w led (.ref a) "dict"
theorem PK.grow {led led' : Led} {v : Value} {k : Str} (h : PK w led v k) (s : led <:+ led') : PK w led' v k := by
  cases h with
  | none => exact .none
  | int => exact .int
  | name h => exact .name (h.grow s)
  | string h => exact .string (h.grow s)
  | list h => exact .list (s.subset h)
  | dict h d => exact .dict (s.subset h) d

/-- what fetch makes of a value -/
inductive Res (w : World) (led : Led) (tb : List (Int × Value)) : Value → Value → Prop
  | self {v k} : PK w led v k → Res w led tb v v
  | miss {a n} : RefAt w led a n → valueAt tb n = none → Res w led tb (.ref a) .none
  | hit {a n tp t u k} : RefAt w led a n → valueAt tb n = some (.ref tp) → (tp, tupObj [.int 0 t, u]) ∈ led → PK w led u k → Res w led tb (.ref a) u
theorem Res.grow {led led' : Led} {tb : List (Int × Value)} {v u : Value} (h : Res w led tb v u) (s : led <:+ led') : Res w led' tb v u := by
  cases h with
  | self h => exact .self (h.grow s)
  | miss h e => obtain ⟨t, t', h⟩ := h; exact .miss ⟨t, t', h.grow s⟩ e
  | hit h e m p => obtain ⟨t, t', h⟩ := h; exact .hit ⟨t, t', h.grow s⟩ e (s.subset m) (p.grow s)
theorem Res.kind {led : Led} {tb : List (Int × Value)} {v u : Value} (h : Res w led tb v u) : ∃ k, PK w led u k := by
  cases h with
  | self h => exact ⟨_, h⟩
  | miss => exact ⟨_, .none⟩
  | hit _ _ _ p => exact ⟨_, p⟩

/-- the shelf: its table, its trailer -/
def ShelfAt (w : World) (led : Led) (sh : Addr) (tb : List (Int × Value)) : Prop :=
  ∃ ta tr kvs a, Inst2 w.params 363 "table" (.ref ta) "trailer" (.ref tr) sh led ∧ IDict w led ta tb ∧ SDict w led tr kvs ∧ valueAt kvs "Root" = some (.ref a) ∧ RefAt w led a 1
theorem SDict.grow {led led' : Led} {d : Addr} {kvs : List (Str × Value)} (h : SDict w led d kvs) (s : led <:+ led') : SDict w led' d kvs := let ⟨o, m, d⟩ := h; ⟨o, s.subset m, d⟩
theorem IDict.grow {led led' : Led} {d : Addr} {kvs : List (Int × Value)} (h : IDict w led d kvs) (s : led <:+ led') : IDict w led' d kvs := let ⟨o, m, d⟩ := h; ⟨o, s.subset m, d⟩
theorem RefAt.grow {led led' : Led} {a : Addr} {n : Int} (h : RefAt w led a n) (s : led <:+ led') : RefAt w led' a n := let ⟨t, t', m⟩ := h; ⟨t, t', m.grow s⟩
theorem NameAt.grow {led led' : Led} {a : Addr} {x : Str} (h : NameAt w led a x) (s : led <:+ led') : NameAt w led' a x := let ⟨t, m⟩ := h; ⟨t, m.grow s⟩
theorem ShelfAt.grow {led led' : Led} {sh : Addr} {tb : List (Int × Value)} (h : ShelfAt w led sh tb) (s : led <:+ led') : ShelfAt w led' sh tb :=
  let ⟨ta, tr, kvs, a, h1, h2, h3, h4, h5⟩ := h; ⟨ta, tr, kvs, a, h1.grow s, IDict.grow h2 s, SDict.grow h3 s, h4, RefAt.grow h5 s⟩
end
end Mine
namespace Mine
noncomputable section
variable {w : World} {fn : Fn} {S : Sit w fn} {σ : Sg} {α β : Type} {E : Value → Heap → Prop} {led led' : Led} {tb : List (Int × Value)}

/-- an entry of the table: a dict -/
def Entry (w : World) (led : Led) (tb : List (Int × Value)) (n : Int) (d : Addr) (kvs : List (Str × Value)) : Prop := ∃ tp t, valueAt tb n = some (.ref tp) ∧ (tp, tupObj [.int 0 t, .ref d]) ∈ led ∧ SDict w led d kvs
theorem Entry.grow {n : Int} {d : Addr} {kvs : List (Str × Value)} (h : Entry w led tb n d kvs) (s : led <:+ led') : Entry w led' tb n d kvs := let ⟨tp, t, e, m, q⟩ := h; ⟨tp, t, e, s.subset m, SDict.grow q s⟩
theorem Entry.res {n : Int} {a d : Addr} {kvs : List (Str × Value)} (h : Entry w led tb n d kvs) (r : RefAt w led a n) : Res w led tb (.ref a) (.ref d) := let ⟨_, _, e, m, _, q1, q2⟩ := h; .hit r e m (.dict q1 q2)
/-- what fetch makes of a value that is there -/
inductive Res1 (w : World) (led : Led) (tb : List (Int × Value)) : Value → Value → Prop
  | self {v k} : PK w led v k → Res1 w led tb v v
  | hit {a n tp t u k} : RefAt w led a n → valueAt tb n = some (.ref tp) → (tp, tupObj [.int 0 t, u]) ∈ led → PK w led u k → Res1 w led tb (.ref a) u
theorem Res1.res {v u : Value} (h : Res1 w led tb v u) : Res w led tb v u := by
  cases h with
  | self h => exact .self h
  | hit a b c d => exact .hit a b c d
/-- every entry stays -/
def Tbs (tb tb' : List (Int × Value)) : Prop := ∀ n v, valueAt tb n = some v → valueAt tb' n = some v
theorem Res1.more {tb' : List (Int × Value)} {v u : Value} (h : Res1 w led tb v u) (s : led <:+ led') (q : Tbs tb tb') : Res1 w led' tb' v u := by
  cases h with
  | self h => exact .self (h.grow s)
  | hit a b c d => exact .hit (RefAt.grow a s) (q _ _ b) (s.subset c) (d.grow s)
/-- what items_of finds -/
inductive KSh (w : World) (led : Led) (tb : List (Int × Value)) (kvs : List (Str × Value)) : List Value → Prop
  | none : valueAt kvs "K" = none → KSh w led tb kvs []
  | list {l vs n} : valueAt kvs "K" = some (.ref l) → (l, lstObj vs n) ∈ led → KSh w led tb kvs vs
  | one {v u k} : valueAt kvs "K" = some v → Res1 w led tb v u → PK w led u k → (k == "array") = false → (u == .none) = false → KSh w led tb kvs [v]
theorem KSh.grow {kvs : List (Str × Value)} {vs : List Value} (h : KSh w led tb kvs vs) (s : led <:+ led') : KSh w led' tb kvs vs := by
  cases h with
  | none e => exact .none e
  | list e m => exact .list e (s.subset m)
  | one e r p k q => exact .one e (r.more s fun _ _ e => e) (p.grow s) k q
theorem KSh.more {tb' : List (Int × Value)} {kvs : List (Str × Value)} {vs : List Value} (h : KSh w led tb kvs vs) (s : led <:+ led') (q : Tbs tb tb') : KSh w led' tb' kvs vs := by
  cases h with
  | none e => exact .none e
  | list e m => exact .list e (s.subset m)
  | one e r p k z => exact .one e (r.more s q) (p.grow s) k z
/-- what sort_of says -/
inductive Sort' (w : World) (led : Led) (tb : List (Int × Value)) : Value → Str → Prop
  | content {n t} : 0 ≤ n → Sort' w led tb (.int n t) "content"
  | elem {v d kvs} : Res w led tb v (.ref d) → SDict w led d kvs → valueAt kvs "Type" = none → Sort' w led tb v "element"
  | mcr {v d kvs a} : Res w led tb v (.ref d) → SDict w led d kvs → valueAt kvs "Type" = some (.ref a) → NameAt w led a "MCR" → Sort' w led tb v "mcr"
  | objr {v d kvs a} : Res w led tb v (.ref d) → SDict w led d kvs → valueAt kvs "Type" = some (.ref a) → NameAt w led a "OBJR" → Sort' w led tb v "objr"
theorem Sort'.grow {v : Value} {k : Str} (h : Sort' w led tb v k) (s : led <:+ led') : Sort' w led' tb v k := by
  cases h with
  | content e => exact .content e
  | elem r d e => exact .elem (r.grow s) (SDict.grow d s) e
  | mcr r d e n => exact .mcr (r.grow s) (SDict.grow d s) e (NameAt.grow n s)
  | objr r d e n => exact .objr (r.grow s) (SDict.grow d s) e (NameAt.grow n s)
theorem NameAt.pk {a : Addr} {x : Str} (h : NameAt w led a x) : PK w led (.ref a) "name" := let ⟨_, q⟩ := h; .name q
theorem SDict.pk {a : Addr} {kvs : List (Str × Value)} (h : SDict w led a kvs) : PK w led (.ref a) "dict" := let ⟨_, q, r⟩ := h; .dict q r
end
end Mine
namespace Mine
noncomputable section
variable {w : World} {fn : Fn} {S : Sit w fn} {σ : Sg} {α β : Type} {E : Value → Heap → Prop}

/-- the loop of a while, turn by turn -/
def WLoop (S : Sit w fn) (σ : Sg) (test : Expr) (body : List Stmt) (env : Env) (Q : Flow → Sg → Prop) : Prop :=
  ∀ s : Shared, St S σ s.heap → codeAny (model PG w) S.A (.whileLoop test body [] env) (fun (r : Result) (s' : Shared) => match r with
    | .ok f => ∃ (σ' : Sg) (h' : Heap) (tk' : Nat), s' = { s with heap := h', toks := tk' } ∧ St S σ' h' ∧ Q f σ'
    | .error _ => False) s
theorem W.WhileU {test : Expr} {body : List Stmt} {env : Env} {pos : Pos} {Q : Flow → Sg → Prop} (h : WLoop S σ test body env Q) : W S σ (exec (.While test body [] pos) env) Q E := fun s x => by
  refine wpAny_While (codeAny_mono (h s x) fun r s' z => ?_)
  cases r with
  | ok f => exact z
  | error e => exact z.elim
theorem WLoop.turn {test : Expr} {body : List Stmt} {env : Env} {Q : Flow → Sg → Prop}
    (h : W S σ (isTrue test env (eval test env)) (fun b σ₁ => if b = true then W S σ₁ (execs body env) (fun f σ₂ => match f with
      | .next => WLoop S σ₂ test body env Q
      | .cont => WLoop S σ₂ test body env Q
      | .brk => Q .next σ₂
      | .ret u => Q (.ret u) σ₂) (fun _ _ => False) else Q .next σ₁) (fun _ _ => False)) : WLoop S σ test body env Q := fun s x => by
  refine codeAny_loop' rfl (fun n s' => n = 0 ∧ s' = s) ?_ 0 ⟨rfl, rfl⟩
  rintro n s' ⟨rfl, rfl⟩
  show wpAny _ S.A ((whileTurn test body [] env).onRaise (fun x => do noteFrame x env; theTreesLotGoes x)) _ _ s'
  refine wpAny_noted ?_
  simp only [whileTurn]
  refine wpAny_bind (h.noRaise x fun b σ₁ h₁ tk₁ y₁ q₁ => ?_)
  cases b with
  | false =>
    simp only [Bool.false_eq_true, if_false] at q₁ ⊢
    exact wpAny_bind (wpAny_execs_nil (wpAny_pure ⟨_, h₁, tk₁, rfl, y₁, q₁⟩))
  | true =>
    simp only [if_true] at q₁ ⊢
    refine wpAny_bind (q₁.noRaise (s := { s' with heap := h₁, toks := tk₁ }) y₁ fun f σ₂ h₂ tk₂ y₂ q₂ => ?_)
    cases f with
    | next => exact wpAny_pure (.inr ⟨rfl, q₂ { s' with heap := h₂, toks := tk₂ } y₂⟩)
    | cont => exact wpAny_pure (.inr ⟨rfl, q₂ { s' with heap := h₂, toks := tk₂ } y₂⟩)
    | brk => exact wpAny_pure ⟨_, h₂, tk₂, rfl, y₂, q₂⟩
    | ret u => exact wpAny_pure ⟨_, h₂, tk₂, rfl, y₂, q₂⟩
/-- one turn of a for -/
theorem FLoop.turn {n : Nat} {item : Nat → Value → Prop} {P : Nat → Obj → Prop} {ok : Led → Prop} (K : Itr S n item P ok) (i : Nat) {I : Addr} {r : List (Addr × BlkE)} {target : Expr} {body : List Stmt} {env : Env} {Q : Flow → Sg → Prop}
    (hb : σ.blk = (I, .inr (P i)) :: r) (hi : i < n) (hok : ok σ.led)
    (h : ∀ v, item i v → W S ⟨σ.m, (I, .inr (P (i+1))) :: r, σ.led⟩ (assign target env v) (fun _ σ₁ => W S σ₁ (execs body env) (fun f σ₂ => match f with
      | .next => FLoop S σ₂ (.ref I) target body env Q E
      | .cont => FLoop S σ₂ (.ref I) target body env Q E
      | .brk => ∃ b, σ₂.blk = (I, b) :: r ∧ Q .next ⟨σ₂.m, r, σ₂.led⟩
      | .ret u => ∃ b, σ₂.blk = (I, b) :: r ∧ Q (.ret u) ⟨σ₂.m, r, σ₂.led⟩) (fun _ _ => False)) (fun _ _ => False)) : FLoop S σ (.ref I) target body env Q E := fun s x => by
  obtain ⟨m, b, led⟩ := σ
  obtain rfl : b = (I, .inr (P i)) :: r := hb
  refine codeAny_loop' rfl (fun n s' => n = 0 ∧ s' = s) ?_ 0 ⟨rfl, rfl⟩
  rintro n s' ⟨rfl, rfl⟩
  show wpAny _ S.A ((forTurn target (.ref I) body [] env).onRaise (fun x => do noteFrame x env; theTreesLotGoes x)) _ _ s'
  refine wpAny_noted ?_
  simp only [forTurn]
  refine wpAny_bind (wpAny_standAt (wpAny_bind (wpAny_onRaise ?_)))
  refine K.next s' m led I r i _ _ hi hok x fun v h₁ tk₁ hv y₁ => ?_
  obtain ⟨o, ho, hp⟩ := y₁.blk _ (.head _)
  obtain ⟨c, hc, hn⟩ := K.cls _ _ hp
  refine wpAny_bind (letGo_any (s := { s' with heap := h₁, toks := tk₁ }) ho hc hn ?_)
  refine wpAny_bind ((h v hv).noRaise (s := { s' with heap := h₁, toks := tk₁ }) y₁ fun _ σ₁ h₂ tk₂ y₂ q₂ => ?_)
  refine wpAny_bind (q₂.noRaise (s := { s' with heap := h₂, toks := tk₂ }) y₂ fun f σ₂ h₃ tk₃ y₃ q₃ => ?_)
  cases f with
  | next => exact wpAny_pure (.inr ⟨rfl, q₃ { s' with heap := h₃, toks := tk₃ } y₃⟩)
  | cont => exact wpAny_pure (.inr ⟨rfl, q₃ { s' with heap := h₃, toks := tk₃ } y₃⟩)
  | brk =>
    obtain ⟨m₂, b₂, led₂⟩ := σ₂
    obtain ⟨b', rfl, q₃⟩ := q₃
    exact wpAny_pure ⟨_, h₃, tk₃, rfl, y₃.drop fun _ _ _ e => e, q₃⟩
  | ret u =>
    obtain ⟨m₂, b₂, led₂⟩ := σ₂
    obtain ⟨b', rfl, q₃⟩ := q₃
    exact wpAny_pure ⟨_, h₃, tk₃, rfl, y₃.drop fun _ _ _ e => e, q₃⟩
theorem FLoop.stop {n : Nat} {item : Nat → Value → Prop} {P : Nat → Obj → Prop} {ok : Led → Prop} (K : Itr S n item P ok) {I : Addr} {r : List (Addr × BlkE)} {target : Expr} {body : List Stmt} {env : Env} {Q : Flow → Sg → Prop}
    (hb : σ.blk = (I, .inr (P n)) :: r) (hok : ok σ.led) (h : Q .next ⟨σ.m, r, σ.led⟩) : FLoop S σ (.ref I) target body env Q E := fun s x => by
  obtain ⟨m, b, led⟩ := σ
  obtain rfl : b = (I, .inr (P n)) :: r := hb
  refine codeAny_loop' rfl (fun n s' => n = 0 ∧ s' = s) ?_ 0 ⟨rfl, rfl⟩
  rintro n s' ⟨rfl, rfl⟩
  show wpAny _ S.A ((forTurn target (.ref I) body [] env).onRaise (fun x => do noteFrame x env; theTreesLotGoes x)) _ _ s'
  refine wpAny_noted ?_
  simp only [forTurn]
  refine wpAny_bind (wpAny_standAt (wpAny_bind (wpAny_onRaise ?_)))
  refine K.stop s' m led I r _ _ hok x fun h₁ tk₁ y₁ => ?_
  exact wpAny_pure (.inr ⟨rfl, codeAny_block (wpAny_execs_nil ⟨_, h₁, tk₁, rfl, y₁, h⟩)⟩)
/-- a tuple of the text's own -/
theorem Itr.tupleK {l : Addr} {vs : List Value} {k : Nat} (hl : (hd.heap_39 w.params).lookup l = some { cls := .type "tuple", dict := none, data := .seq vs.toArray k, slots := #[] }) : Itr S vs.length (fun i v => vs[i]? = some v) (TIt l) (fun _ => True) where
  next := fun s m led I r i Q E hi _ x hQ =>
    next_tuple_item (x.blk _ (.head _)) ⟨_, x.KIn _ _ hl, rfl, _, rfl⟩ (x := vs[i]) (by simp [hi]) fun h' hit hs => hQ _ h' s.toks (by simp [hi]) (x.step hs hit)
  stop := fun s m led I r Q E _ x hQ => next_tuple_end rfl (x.blk _ (.head _)) ⟨_, x.KIn _ _ hl, rfl, _, rfl⟩ (by simp) fun h' he => hQ h' s.toks (x.drop fun a o ha e => he a o ha e)
  self := fun s m led I r i Q E x hQ => wpAny_pyIter_tupleiter (x.blk _ (.head _)) hQ
  cls := fun i o h => ⟨_, h.1, by decide⟩
theorem W.iterTK {l : Addr} {vs : List Value} {k : Nat} {Q : Value → Sg → Prop} (hl : (hd.heap_39 w.params).lookup l = some { cls := .type "tuple", dict := none, data := .seq vs.toArray k, slots := #[] }) (h : ∀ I, Q (.ref I) { σ with blk := (I, .inr (TIt l 0)) :: σ.blk }) : W S σ (pyIter (.ref l)) Q E := fun s x =>
  iter_tuple ⟨_, x.KIn _ _ hl, rfl, _, rfl⟩ ⟨_, _, s.toks, rfl, x.allocB rfl ⟨rfl, rfl⟩, h _⟩

/-- an entry taken out of a list of places -/
inductive Ext {β : Type} (a : Addr) (o : β) : List (Addr × β) → List (Addr × β) → Prop
  | head {r} : Ext a o ((a, o) :: r) r
  | tail {p l r} : Ext a o l r → Ext a o (p :: l) (p :: r)
theorem Ext.perm {β : Type} {a : Addr} {o : β} {l r : List (Addr × β)} (h : Ext a o l r) : l.Perm ((a, o) :: r) := by
  induction h with
  | head => exact .refl _
  | @tail p l r _ ih => exact (ih.cons p).trans (List.Perm.swap _ _ _)
theorem Ext.app {β : Type} {a : Addr} {o : β} {l r : List (Addr × β)} (h : Ext a o l r) : ∀ p : List (Addr × β), Ext a o (p ++ l) (p ++ r)
  | [] => h
  | _ :: p => .tail (h.app p)
theorem Ext.suf {a : Addr} {o : Obj} {l l' r : Led} (s : l <:+ l') (h : Ext a o l r) : Ext a o l' (l'.take (l'.length - l.length) ++ r) := by
  obtain ⟨t, rfl⟩ := s
  have : (t ++ l).take ((t ++ l).length - l.length) = t := by
    rw [List.length_append, Nat.add_sub_cancel]; simp
  rw [this]
  exact h.app t
end
end Mine
namespace Mine
noncomputable section
variable {w : World} {fn : Fn} {S : Sit w fn} {σ : Sg} {α β : Type} {E : Value → Heap → Prop}
theorem W.popC1 {l : Addr} {n : Nat} {y : Value} {g : Obj → Led} {Q : Value → Sg → Prop} (H : Hole l (lstObj [y] n) σ.led g) (h : Q y { σ with led := g (lstObj [] (n + 1)) }) : W S σ (call (.builtin "list.pop") [.ref l]) Q E := W.popL (p := []) H (Nat.le_of_ble_eq_true rfl) h
theorem W.popC2 {l : Addr} {n : Nat} {x y : Value} {g : Obj → Led} {Q : Value → Sg → Prop} (H : Hole l (lstObj [x, y] n) σ.led g) (h : Q y { σ with led := g (lstObj [x] (n + 1)) }) : W S σ (call (.builtin "list.pop") [.ref l]) Q E := W.popL (p := [x]) H (Nat.le_of_ble_eq_true rfl) h
theorem W.addT0 {t b : Addr} {us : List Value} {Q : Value → Sg → Prop} (ht : (t, tupObj []) ∈ σ.led) (hb : (b, tupObj us) ∈ σ.led) (hz : us.length ≤ 16384) (h : Q (.ref b) σ) : W S σ (binaryOp .Add (.ref t) (.ref b)) Q E := fun s x => by
  obtain ⟨f, hid, F, N, ap, back⟩ := x.bridge
  exact kde_addT0 F N (x.isTup ht) (x.isTup hb) rfl (by simpa using hz) ⟨σ, s.heap, s.toks, rfl, x, h⟩
theorem W.methS {x : Str} {t : Tok} {name : Str} {id : String} {pl : Sem Bool} {Q : Value × List Value → Sg → Prop} (slot : Slot "str" name id) (hty : typeOf (.builtin id) = Pure.pure (.type "method_descriptor")) (h : Q (.builtin id, [.str x t]) σ) :
    W S σ (getMethod (.str x t) name pl) Q E := fun s y => getMethod_builtin (typeIs_str _ _ _) PySem.F.plainAttrs_str slot hty (fun a e => by cases e) ⟨σ, s.heap, s.toks, rfl, y, h⟩
theorem W.Break {env : Env} {pos : Pos} {Q : Flow → Sg → Prop} (h : Q .brk σ) : W S σ (exec (.Break pos) env) Q E := fun s x => wpAny_Break ⟨σ, s.heap, s.toks, rfl, x, h⟩
theorem W.ExprA {env : Env} {pos : Pos} {e : Expr} {Q : Flow → Sg → Prop} (h : W S σ (eval e env) (fun _ σ₁ => Q .next σ₁) E) (hi : interactive env = false := by rfl) (hs : swapsWith e none pos.line env = Pure.pure false := by rfl) : W S σ (exec (.Expr e pos) env) Q E := fun s x => by
  refine wpAny_Expr_any (wpAny_mono (h s x) (fun v s₁ h₁ => ?_) fun _ _ e => e) hi hs
  obtain ⟨σ', h', tk', rfl, y, q⟩ := h₁
  exact ⟨σ', h', tk', rfl, y, q⟩
theorem W.sBrk {env : Env} {Q : Flow → Sg → Prop} {rest : List Stmt} (h : Q .brk σ) : Sq S env rest Q E .brk σ := h
end
end Mine
namespace Mine
noncomputable section
variable {w : World} {fn : Fn} {S : Sit w fn} {σ : Sg} {α β : Type} {E : Value → Heap → Prop}

/-- a ledger, told as what may change and what stays -/
inductive Split : Led → Led → Led → Prop
  | nil {F} : Split F [] F
  | app {M F} : Split (M ++ F) M F
  | cons {p L M F} : Split L M F → Split (p :: L) (p :: M) F
theorem Split.eq {L M F : Led} (h : Split L M F) : L = M ++ F := by
  induction h with
  | nil => rfl
  | app => rfl
  | cons _ ih => rw [ih]; rfl
theorem Split.perm {L M F : Led} (h : Split L M F) : L.Perm (M ++ F) := h.eq ▸ .refl _
/-- a ledger brought into its form -/
inductive Cn : Led → Led → Led → Prop
  | nil {L} : Cn L [] L
  | base {M F} : Cn (M ++ F) M F
  | skip {p L A F} : Cn L A F → Cn (p :: L) A (p :: F)
  | take {a o L L' A F} : Ext a o L L' → Cn L' A F → Cn L ((a, o) :: A) F
theorem Cn.perm {L A F : Led} (h : Cn L A F) : L.Perm (A ++ F) := by
  induction h with
  | nil => exact .refl _
  | base => exact .refl _
  | @skip p L A F _ ih => exact (ih.cons p).trans List.perm_middle.symm
  | take e _ ih => exact e.perm.trans (ih.cons _)
theorem W.cn {t : Sem α} {Q : α → Sg → Prop} {A F : Led} (hc : Cn σ.led A F) (h : W S { σ with led := A ++ F } t Q E) : W S σ t Q E := W.perm hc.perm h
/-- an object is put with those that stay -/
theorem W.frz {t : Sem α} {Q : α → Sg → Prop} {L M F : Led} (a : Addr) {o : Obj} (e : Ext a o σ.led L) (hl : Split L M F) (h : W S { σ with led := M ++ ((a, o) :: F) } t Q E) : W S σ t Q E := by
  refine W.perm ?_ h
  refine e.perm.trans ?_
  rw [hl.eq]
  exact List.perm_middle.symm

theorem W.postPerm {t : Sem α} {Q Q' : α → Sg → Prop} (h : W S σ t Q' E) (hq : ∀ v σ', Q' v σ' → ∃ led', σ'.led.Perm led' ∧ Q v { σ' with led := led' }) : W S σ t Q E := fun s x =>
  wpAny_mono (h s x) (fun v _ ⟨σ', h', tk', e, y, q⟩ => let ⟨led', hp, q'⟩ := hq v σ' q; ⟨{ σ' with led := led' }, h', tk', e, y.perm hp, q'⟩) fun _ _ e => e

/-- a def that does not raise; A: what it may change, F: what stays -/
theorem W.callF {name qual : Str} {params : Arguments} {body : List Stmt} {scope : Scope} {dV kV doc pm cdv ct oc : Value} {an od : Option Addr} {osl : Array (Option Value)} {f : Addr} {vs : List Value} (mm : Loc) {A F : Led} {Q : Value → Sg → Prop} (hc : σ.led.Perm (A ++ F))
    (ho : (hd.heap_39 w.params).lookup f = some ⟨oc, od, .func (fnOf name qual params body scope dV kV doc pm an cdv ct), osl⟩) (hcd : codeIn (hd.heap_39 w.params) cdv qual = true) (hroom : S.dp < recursionLimit)
    (hbind : ∀ s : Shared, (hd.heap_39 w.params).In s.heap → BindsTo s (fnOf name qual params body scope dV kV doc pm an cdv ct) ⟨vs, []⟩ mm.reverse)
    (hkind : (mm.reverse.all fun y => scope.names.lookup y.1 == some .local || scope.names.lookup y.1 == some .cell) = true) (hnd : CellsNd scope)
    (hco : scope.isCoroutine = false) (hgen : scope.isGenerator = false) (hk : scope.kind = .function)
    (h : ∀ S' : Sit w ⟨qual, scope, f, cdv⟩, S'.dp = S.dp + 1 → S'.un = S.un + 3 → W S' ⟨mm, [], A ++ F⟩ (execs body S'.env) (fun fl σ' => ∃ A' F', Cn σ'.led A' F' ∧ Q (retOf fl) { σ with led := A' ++ F' }) (fun _ _ => False)) :
    W S σ (call (.ref f) vs) Q E := by
  refine W.perm hc ?_
  refine W.callDef mm ho hcd hroom hbind hkind hnd hco hgen hk fun S' hdp hun => ?_
  exact W.postPerm (h S' hdp hun) fun v σ' ⟨A', F', hc', q⟩ => ⟨_, hc'.perm, q⟩

theorem FLoop.postPerm {it : Value} {target : Expr} {body : List Stmt} {env : Env} {Q Q' : Flow → Sg → Prop} (h : FLoop S σ it target body env Q' E) (hq : ∀ v σ', Q' v σ' → ∃ led', σ'.led.Perm led' ∧ Q v { σ' with led := led' }) : FLoop S σ it target body env Q E := fun s x =>
  codeAny_mono (h s x) fun r s' z => by
    cases r with
    | error e => exact z
    | ok f =>
      obtain ⟨σ', h', tk', e, y, q⟩ := z
      obtain ⟨led', hp, q'⟩ := hq _ _ q
      exact ⟨_, h', tk', e, y.perm hp, q'⟩
theorem FLoop.itrF {n : Nat} {item : Nat → Value → Prop} {P : Nat → Obj → Prop} {ok : Led → Prop} (K : Itr S n item P ok) {I : Addr} {r : List (Addr × BlkE)} {target : Expr} {body : List Stmt} {env : Env} {Q : Flow → Sg → Prop} (Inv : Nat → Loc → Led → Led → Prop)
    (hb : σ.blk = (I, .inr (P 0)) :: r) (hok : ∀ l l', l.Perm l' → ok l' → ok l) (hok2 : ∀ i m A F, Inv i m A F → ok (A ++ F))
    (turn : ∀ i v m A F, i < n → item i v → Inv i m A F → W S ⟨m, (I, .inr (P (i+1))) :: r, A ++ F⟩ (assign target env v) (fun _ σ₁ => W S σ₁ (execs body env) (fun f σ₂ => σ₂.blk = (I, .inr (P (i+1))) :: r ∧ ∃ A' F', Cn σ₂.led A' F' ∧ match f with
      | .next => Inv (i+1) σ₂.m A' F'
      | .cont => Inv (i+1) σ₂.m A' F'
      | .brk => Q .next ⟨σ₂.m, r, A' ++ F'⟩
      | .ret u => Q (.ret u) ⟨σ₂.m, r, A' ++ F'⟩) (fun _ _ => False)) (fun _ _ => False))
    (stop : ∀ m A F, Inv n m A F → Q .next ⟨m, r, A ++ F⟩) (A F : Led) (hc : Cn σ.led A F) (h0 : Inv 0 σ.m A F) : FLoop S σ (.ref I) target body env Q E :=
  FLoop.postPerm (Q' := fun f σ' => ∃ A F, σ'.led.Perm (A ++ F) ∧ Q f { σ' with led := A ++ F })
    (FLoop.itr K (fun i m led => ∃ A F, led.Perm (A ++ F) ∧ Inv i m A F) hb (fun i m led ⟨A, F, hp, q⟩ => hok _ _ hp (hok2 i m A F q))
    (fun i v m led hi hv ⟨A, F, hp, q⟩ => W.perm hp (W.mono (turn i v m A F hi hv q) fun _ σ₁ h₁ => W.mono h₁ fun f σ₂ ⟨e, A', F', hc', z⟩ => ⟨e, by
      cases f with
      | next => exact ⟨A', F', hc'.perm, z⟩
      | cont => exact ⟨A', F', hc'.perm, z⟩
      | brk => exact ⟨A', F', hc'.perm, z⟩
      | ret u => exact ⟨A', F', hc'.perm, z⟩⟩))
    (fun m led ⟨A, F, hp, q⟩ => ⟨A, F, hp, stop m A F q⟩) ⟨A, F, hc.perm, h0⟩) fun v σ' ⟨A, F, hp, q⟩ => ⟨_, hp, q⟩

theorem CLoop.postPerm {it : Value} {elt target iter : Expr} {ifs : List Expr} {scope : Scope} {pos : Pos} {env : Env} {cl : List (Str × Addr)} {Q Q' : Value → Sg → Prop} (h : CLoop S σ it elt target iter ifs scope pos env cl Q')
    (hq : ∀ (D : Addr) (vs : List Value) (k : Nat) (σ' : Sg), Q' (.ref D) { σ' with led := (D, lstObj vs k) :: σ'.led } → ∃ led', σ'.led.Perm led' ∧ Q (.ref D) { σ' with led := (D, lstObj vs k) :: led' }) : CLoop S σ it elt target iter ifs scope pos env cl Q := fun s D C hD x =>
  codeAny_mono (h s D C hD x) fun r s' z => by
    cases r with
    | error e => exact z
    | ok f =>
      obtain ⟨vs, k, mb, σ', h', tk', e, y, q⟩ := z
      obtain ⟨led', hp, q'⟩ := hq _ _ _ _ q
      exact ⟨vs, k, mb, { σ' with led := led' }, h', tk', e, y.perm (hp.cons _), q'⟩
theorem CStart.itrF {n : Nat} {item : Nat → Value → Prop} {P : Nat → Obj → Prop} {ok : Led → Prop} (K : Itr S n item P ok) {I : Addr} {r : List (Addr × BlkE)} {elt target iter : Expr} {ifs : List Expr} {scope : Scope} {pos : Pos} {env : Env} {cl : List (Str × Addr)} {Q : Value → Sg → Prop}
    (Inv : Nat → List Value → Led → Led → Prop) (hz : n ≤ sizeLine)
    (hb : σ.blk = (I, .inr (P 0)) :: r) (hok : ∀ l l', l.Perm l' → ok l' → ok l) (hok2 : ∀ i vs A F, Inv i vs A F → ok (A ++ F))
    (turn : ∀ i v vs A F D C k, i < n → item i v → Inv i vs A F → vs.length ≤ i → W S ⟨σ.m, (D, .inr fun o => o = lstObj vs k) :: (C, .inl []) :: (I, .inr (P (i+1))) :: r, A ++ F⟩ (assign target (compEnvC scope cl C env) v) (fun _ σ₁ => Ifs S (compEnvC scope cl C env) ifs σ₁ (fun ok σ₂ =>
      if ok = true then W S σ₂ (eval elt (compEnvC scope cl C env)) (fun y σ₃ => (∃ mb, σ₃.blk = (D, .inr fun o => o = lstObj vs k) :: (C, .inl mb) :: (I, .inr (P (i+1))) :: r) ∧ σ₃.m = σ.m ∧ ∃ A' F', Cn σ₃.led A' F' ∧ Inv (i+1) (vs ++ [y]) A' F') (fun _ _ => False)
      else (∃ mb, σ₂.blk = (D, .inr fun o => o = lstObj vs k) :: (C, .inl mb) :: (I, .inr (P (i+1))) :: r) ∧ σ₂.m = σ.m ∧ ∃ A' F', Cn σ₂.led A' F' ∧ Inv (i+1) vs A' F')) (fun _ _ => False))
    (stop : ∀ D vs k A F, Inv n vs A F → Q (.ref D) ⟨σ.m, r, (D, lstObj vs k) :: (A ++ F)⟩) (A F : Led) (hc : Cn σ.led A F) (h0 : Inv 0 [] A F) : CStart S σ (.ref I) elt target iter ifs scope pos env cl Q :=
  ⟨I, P 0, r, rfl, hb, fun s m led I r Q E x q => K.self s m led I r 0 Q E x q,
    CLoop.postPerm (Q' := fun v σ' => ∃ D vs k A F, v = .ref D ∧ σ'.led.Perm ((D, lstObj vs k) :: (A ++ F)) ∧ σ'.led = (D, lstObj vs k) :: σ'.led.tail ∧ Q v { σ' with led := (D, lstObj vs k) :: (A ++ F) })
      (CLoop.itr K (fun i vs led => ∃ A F, led.Perm (A ++ F) ∧ Inv i vs A F) hz hb (fun i vs led ⟨A, F, hp, q⟩ => hok _ _ hp (hok2 i vs A F q))
        (fun i v vs led D C k hi hv ⟨A, F, hp, q⟩ hl => W.perm hp (W.mono (turn i v vs A F D C k hi hv q hl) fun _ σ₁ h₁ => ifs_mono h₁ fun ok σ₂ z => by
          cases ok with
          | true =>
            simp only [if_true] at z ⊢
            exact W.mono z fun y σ₃ ⟨e, e2, A', F', hc', q'⟩ => ⟨e, e2, A', F', hc'.perm, q'⟩
          | false =>
            simp only [Bool.false_eq_true, if_false] at z ⊢
            obtain ⟨e, e2, A', F', hc', q'⟩ := z
            exact ⟨e, e2, A', F', hc'.perm, q'⟩))
        (fun D vs k led ⟨A, F, hp, q⟩ => ⟨D, vs, k, A, F, rfl, hp.cons _, rfl, stop D vs k A F q⟩) ⟨A, F, hc.perm, h0⟩)
      fun D vs k σ' ⟨D', vs', k', A, F, e, hp, e2, q⟩ => by
        cases e
        have e4 : lstObj vs k = lstObj vs' k' := (Prod.mk.inj (List.cons.inj e2).1).2
        rw [← e4] at hp q
        exact ⟨A ++ F, (List.perm_cons _).mp hp, q⟩⟩
where
  ifs_mono {env : Env} {Q Q' : Bool → Sg → Prop} : ∀ {ifs : List Expr} {σ : Sg}, Ifs S env ifs σ Q → (∀ b σ', Q b σ' → Q' b σ') → Ifs S env ifs σ Q'
    | [], _, h, hq => hq _ _ h
    | c :: r, _, h, hq => W.mono h fun b σ₁ h₁ => by
        cases b with
        | true => exact ifs_mono (ifs := r) h₁ hq
        | false => exact hq _ _ h₁

theorem W.While0F {test : Expr} {body : List Stmt} {env : Env} {pos : Pos} {Q : Flow → Sg → Prop} (Inv : Nat → Loc → Led → Led → Prop) (n : Nat) (A F : Led) (hc : Cn σ.led A F) (h0 : Inv n σ.m A F)
    (turn : ∀ n m A F, Inv n m A F → W S ⟨m, σ.blk, A ++ F⟩ (isTrue test env (eval test env)) (fun b σ₁ => if b = true then W S σ₁ (execs body env) (fun f σ₂ => σ₂.blk = σ.blk ∧ match f with
      | .next => ∃ A' F' k, Cn σ₂.led A' F' ∧ k < n ∧ Inv k σ₂.m A' F'
      | .cont => ∃ A' F' k, Cn σ₂.led A' F' ∧ k < n ∧ Inv k σ₂.m A' F'
      | .brk => Q .next σ₂
      | .ret u => Q (.ret u) σ₂) (fun _ _ => False) else Q .next σ₁) (fun _ _ => False)) : W S σ (exec (.While test body [] pos) env) Q E :=
  W.While0 (fun n m led => ∃ A F, led.Perm (A ++ F) ∧ Inv n m A F) n ⟨A, F, hc.perm, h0⟩ fun n m led ⟨A, F, hp, q⟩ => W.perm hp (W.mono (turn n m A F q) fun b σ₁ z => by
    cases b with
    | false => exact z
    | true =>
      simp only [if_true] at z ⊢
      refine W.mono z fun f σ₂ ⟨e, z⟩ => ⟨e, ?_⟩
      cases f with
      | next => obtain ⟨A', F', k, hc', hk, q⟩ := z; exact ⟨k, hk, A', F', hc'.perm, q⟩
      | cont => obtain ⟨A', F', k, hc', hk, q⟩ := z; exact ⟨k, hk, A', F', hc'.perm, q⟩
      | brk => exact z
      | ret u => exact z)
/-- the frozen ones' class, called -/
theorem W.newClsF {C fI : Addr} {name qual : Str} {params : Arguments} {body : List Stmt} {scope : Scope} {dV kV doc pm cdv ct oc : Value} {an od : Option Addr} {osl : Array (Option Value)} {vs : List Value} (mm : Addr → Loc) {A F : Led} {Q : Value → Sg → Prop} (hl : Split σ.led A F)
    (hm : makesIn (hd.heap_39 w.params) C = true) (hi : findIn (hd.heap_39 w.params) (.ref C) "__init__" = some (some (.ref fI))) (hf : isFn (hd.heap_39 w.params) (.ref fI) = true)
    (ho : (hd.heap_39 w.params).lookup fI = some ⟨oc, od, .func (fnOf name qual params body scope dV kV doc pm an cdv ct), osl⟩) (hcd : codeIn (hd.heap_39 w.params) cdv qual = true) (hroom : S.dp + 1 < recursionLimit)
    (hbind : ∀ x, ∀ s : Shared, (hd.heap_39 w.params).In s.heap → BindsTo s (fnOf name qual params body scope dV kV doc pm an cdv ct) ⟨.ref x :: vs, []⟩ (mm x).reverse)
    (hkind : ∀ x, ((mm x).reverse.all fun y => scope.names.lookup y.1 == some .local || scope.names.lookup y.1 == some .cell) = true) (hnd : CellsNd scope)
    (hco : scope.isCoroutine = false) (hgen : scope.isGenerator = false) (hk : scope.kind = .function)
    (h : ∀ x dx, ∀ S' : Sit w ⟨qual, scope, fI, cdv⟩, S'.dp = S.dp + 2 → W S' ⟨mm x, [], (x, instObj C dx) :: (dx, dictOf [] 0) :: (A ++ F)⟩ (execs body S'.env) (fun fl σ' => retOf fl = .none ∧ ∃ F', Cn σ'.led A F' ∧ Q (.ref x) { σ with led := A ++ F' }) (fun _ _ => False)) :
    W S σ (call (.ref C) vs) Q E := by
  refine W.newCls mm hm hi hf ho hcd hroom hbind hkind hnd hco hgen hk fun x dx S' hdp => ?_
  rw [hl.eq]
  exact W.postPerm (h x dx S' hdp) fun v σ' ⟨e, F', hc', q⟩ => ⟨_, hc'.perm, e, q⟩
end
end Mine
namespace Mine
noncomputable section
variable {w : World} {fn : Fn} {S : Sit w fn} {σ : Sg} {α β : Type} {E : Value → Heap → Prop}

theorem attr_miss_list {prog : Program} {A : Around} {E : Value → Shared → Prop} {s : Shared} {a : Addr} {o : Obj} {xs : Array Value} {k : Nat} {name : Str} {Q : Option Value → Shared → Prop}
    (hx : s.heap.get? a = some o) (hc : o.cls = .type "list") (hdat : o.data = .seq xs k) (hd : o.dict = none) (hmiss : typeLookup (.type "list") name = Pure.pure none) (hname : (["__module__", "__name__", "__qualname__", "__doc__", "__annotations__"] : List Str).contains name = false) (hA : A.handled = none)
    (h : ∀ h' tk, (∀ b o, s.heap.get? b = some o → h'.get? b = some o) → Q none { s with heap := h', toks := tk }) (hsz : name.length + 100 ≤ sizeLine := by size_fits) :
    wpAny (model prog w) A (getAttr? (.ref a) name) Q E s := by
  obtain ⟨c, dct, dat, sl⟩ := o
  simp only at hc hdat hd
  subst hc hdat hd
  obtain ⟨hp, g, d, tk, os⟩ := s
  have hT : ∀ tk', (⟨hp, g, d, tk', os⟩ : Shared).TypeIs (.ref a) "list" := fun _ => ⟨_, hx, rfl⟩
  have f1 := sub_AttributeError
  have f3 := F.slot_list_getattribute.lookup
  have f4 := F.slot_list_getattribute.bind (.ref a)
  have f5 := am_list_getattr_none
  unfold getAttr? getAttrBy? getAttrBy
  repeat (any_goals (first | assumption | exact hT _ | ((with_reducible show wpAny _ _ (call (Value.builtin "list.__getattribute__") _ _) _ _ _); refine call_meets F.slot_list_getattribute (hT _) am_entry_list_getattribute (F.args_list_getattribute_2 _ _) (meets_getattribute_miss_list a xs k sl name _ hmiss hname hsz) ⟨hx, hA, fun h' tk' e hx' => ?_⟩) | wp_step))
  obtain ⟨t', u', he⟩ := hx'.there
  have hTe : ∀ tk', (⟨h', g, d, tk', os⟩ : Shared).TypeIs (.ref e) "AttributeError" := fun _ => ⟨_, he, rfl⟩
  show wpAny _ _ (getattributeRaised _ _ _ _ _ _ _) _ _ _
  unfold getattributeRaised
  repeat (any_goals (first | assumption | exact hTe _ | wp_step))
  exact h _ _ hx'.keeps

/-- the loop of dict(pairs) -/
theorem updLoop {A : Around} {R : Result → Shared → Prop} (hA : A.handled = none) {D I l : Addr} {items : Array Value} {h0 : Heap} (J : Nat → Heap → Prop) (hD : h0.get? D = none) (hI : h0.get? I = none) (hDI : D ≠ I) (hl : h0.IsList l items)
    (ps : ∀ j (hj : j < items.size), ∃ t k v, items[j] = .ref t ∧ IsTup h0 t #[k, v] ∧ ∀ (args : Args) (s : Shared) (Q : Unit → Shared → Prop) (E : Value → Shared → Prop), (∀ b o, h0.get? b = some o → s.heap.get? b = some o) → J j s.heap →
      (∀ h' tk, J (j+1) h' → Heap.SameBut D s.heap h' → Q () { s with heap := h', toks := tk }) → wpAny (model PG w) (A.under (.builtin "dict.update.loop" args)) (dictSet D k v) Q E s)
    (hJ : ∀ j h h', J j h → (∀ b o, b ≠ I → h.get? b = some o → h'.get? b = some o) → J j h') :
    ∀ m j, m = items.size - j → j ≤ items.size → ∀ s : Shared, (∀ b o, h0.get? b = some o → s.heap.get? b = some o) → J j s.heap → s.heap.IsListIter I l j →
      (∀ h' tk, (∀ b o, h0.get? b = some o → h'.get? b = some o) → J items.size h' → R (.ok (.ret .none)) { s with heap := h', toks := tk }) → codeAny (model PG w) A (.builtin "dict.update.loop" ⟨[.ref D, .ref I, rawInt j, .none], []⟩) R s := by
  have eL : entryFor table "dict.update.loop" = some Builtin.«dict.update.loop» := entryFor_of_tree (by kernel_rfl)
  have hne : ∀ b o, h0.get? b = some o → b ≠ D ∧ b ≠ I := fun b o e => ⟨fun q => by (rw [q, hD] at e; cases e), fun q => by (rw [q, hI] at e; cases e)⟩
  intro m
  induction m with
  | zero =>
    intro j hm hj s hb hj2 hit hR
    obtain rfl : j = items.size := by omega
    refine codeAny_builtin eL ?_
    unfold Builtin.«dict.update.loop»
    refine wpAny_bind (wpAny_pyNext_list_end hA hit (hl.at fun o e => hb _ _ e) (by simp) fun h' he => ?_)
    refine wpAny_bind (wpAny_pure ?_)
    refine wpAny_pure ?_
    exact hR h' s.toks (fun b o e => he b o (hne b o e).2 (hb b o e)) (hJ _ _ _ hj2 fun b o hbI e => he b o hbI e)
  | succ m ih =>
    intro j hm hj s hb hj2 hit hR
    have hlt : j < items.size := by omega
    obtain ⟨t, k, v, et, ht, hset⟩ := ps j hlt
    refine codeAny_builtin eL ?_
    unfold Builtin.«dict.update.loop»
    refine wpAny_bind (wpAny_pyNext_list_item hit (hl.at fun o e => hb _ _ e) (x := .ref t) (by rw [← et]; simp [hlt]) fun h' hit' hs => ?_)
    have hb' : ∀ b o, h0.get? b = some o → h'.get? b = some o := fun b o e => (hs.2 b (hne b o e).2).trans (hb b o e)
    obtain ⟨ot, hot, hct, nt, hdt⟩ := ht
    have hot' := hb' _ _ hot
    have hTt : ∀ tk', (⟨h', s.gens, s.drawn, tk', s.os⟩ : Shared).TypeIs (.ref t) "tuple" := fun _ => ⟨_, hot', hct⟩
    have items2 : ot.data = .seq #[k, v] nt := hdt
    dsimp only
    refine wpAny_bind (wpAny_holding (wpAny_bind ?_))
    refine wpAny_tryCatch ?_
    unfold Builtin.Dict.pairItems
    refine wpAny_bind (wpAny_typeOf (hTt _) ?_)
    rw [if_pos (by decide)]
    refine wpAny_bind (wpAny_seqItems hot' hdt ?_)
    refine wpAny_pure ?_
    show wpAny _ _ (holding [k, v] (dictSet D k v)) _ _ _
    refine wpAny_holding ?_
    refine hset _ ⟨h', s.gens, s.drawn, s.toks, s.os⟩ _ _ hb' (hJ _ _ _ hj2 fun b o hbI e => (hs.2 b hbI).trans e) fun h2 tk2 j2 hs2 => ?_
    refine wpAny_pure ⟨Code.quiet_builtin _ (by decide +kernel), ?_⟩
    have := ih (j+1) (by omega) (by omega) { s with heap := h2, toks := tk2 } (fun b o e => (hs2.2 b (hne b o e).1).trans (hb' b o e)) j2 ?_ (fun h3 tk3 a b => hR h3 tk3 a b)
    · exact this
    · obtain ⟨oi, hoi, hci, hdi⟩ := hit'
      exact ⟨oi, (hs2.2 I (Ne.symm hDI)).trans hoi, hci, hdi⟩

/-- dict of a list of pairs -/
theorem call_dict_pairs {A : Around} {s : Shared} {Q : Value → Shared → Prop} {E : Value → Shared → Prop} (hA : A.handled = none) {l : Addr} {xs : List Value} {nl : Nat} (hl : s.heap.get? l = some (lstObj xs nl)) (J : Nat → Heap → Prop)
    (h0 : ∀ h' : Heap, (∀ b o, (s.heap.push { cls := .type "dict", data := .dict #[] }).get? b = some o → h'.get? b = some o) → J 0 h')
    (ps : ∀ j (hj : j < xs.toArray.size), ∃ t k v, xs.toArray[j] = .ref t ∧ IsTup s.heap t #[k, v] ∧ ∀ (A' : Around) (s' : Shared) (Q : Unit → Shared → Prop) (E : Value → Shared → Prop), A'.handled = none → A'.units ≤ A.units + 10 → (∀ b o, s.heap.get? b = some o → s'.heap.get? b = some o) → J j s'.heap →
      (∀ h' tk, J (j+1) h' → Heap.SameBut s.heap.objs.size s'.heap h' → Q () { s' with heap := h', toks := tk }) → wpAny (model PG w) A' (dictSet s.heap.objs.size k v) Q E s')
    (hJ : ∀ I j h h', I ≠ s.heap.objs.size → s.heap.get? I = none → J j h → (∀ b o, b ≠ I → h.get? b = some o → h'.get? b = some o) → J j h')
    (h : ∀ h' tk, (∀ b o, s.heap.get? b = some o → h'.get? b = some o) → J xs.toArray.size h' → Q (.ref s.heap.objs.size) { s with heap := h', toks := tk }) :
    wpAny (model PG w) A (call (.type "dict") [.ref l]) Q E s := by
  refine callType_codes (Q₁ := fun obj s₁ => obj = .ref s.heap.objs.size ∧ s₁ = { s with heap := s.heap.push { cls := .type "dict", data := .dict #[] } }) F.kt_called_dict (F.kt_typeCall_dict_1 _) F.entry_dict_init (kt_code_dict_new _ ⟨rfl, rfl⟩) ?_
  rintro obj s₁ ⟨rfl, rfl⟩
  have hnew : (s.heap.push { cls := .type "dict", data := .dict #[] }).DictOf (intKind PG w) s.heap.objs.size [] := Heap.DictOf.new s.heap
  have hl' : (s.heap.push { cls := .type "dict", data := .dict #[] }).get? l = some (lstObj xs nl) := Heap.get?_push_of_some _ hl
  refine ⟨hnew.typeIs, F.args_dict_init_2 _ _, ?_⟩
  unfold Builtin.«dict.__init__»
  refine wpAny_bind ?_
  unfold Builtin.Dict.selfAndRest
  refine wpAny_bind (wpAny_notOrdered_dict hnew.typeIs ?_)
  show wpAny _ _ (Pure.pure (s.heap.objs.size, [Value.ref l])) _ _ _
  refine wpAny_pure ?_
  show wpAny _ _ (Builtin.Dict.updateFrom "dict.__init__" s.heap.objs.size (.ref l) [] .none) _ _ _
  unfold Builtin.Dict.updateFrom
  refine wpAny_bind (wpAny_typeOf (T := "list") ⟨_, hl', rfl⟩ ?_)
  rw [if_pos (by decide)]
  have nk : typeLookup (.type "list") ("keys" : Str) = Pure.pure none := by rw [typeLookup_type, builtinLookup_eq_fast]; kernel_rfl
  refine wpAny_bind (attr_miss_list (k := nl) hl' rfl rfl rfl nk (by decide +kernel) hA (fun h1 tk1 hk1 => ?_) (by decide +kernel))
  refine wpAny_bind (wpAny_rule ?_)
  have hl1 : h1.get? l = some (lstObj xs nl) := hk1 _ _ hl'
  refine wpAny_bind (wpAny_pyIter_list (items := xs.toArray) ⟨_, hl1, rfl, nl, rfl⟩ ?_)
  refine wpAny_pure ⟨Code.quiet_builtin _ (by decide +kernel), ?_⟩
  have hDs : s.heap.objs.size < h1.objs.size := by
    have := Heap.lt_size (hk1 _ _ (Heap.get?_push_size s.heap (o := { cls := .type "dict", data := .dict #[] }) rfl))
    exact this
  have hb1 : ∀ b o, s.heap.get? b = some o → (h1.push { cls := .type "list_iterator", data := .fields #[.ref l, .int 0 0] }).get? b = some o := fun b o e => Heap.get?_push_of_some _ (hk1 _ _ (Heap.get?_push_of_some _ e))
  have hIn : s.heap.get? h1.objs.size = none := none_of_ge (Nat.le_of_lt hDs)
  refine updLoop (A := A.in1) (D := s.heap.objs.size) (I := h1.objs.size) (l := l) (items := xs.toArray) (h0 := s.heap) hA J (none_of_ge (Nat.le_refl _)) hIn (Nat.ne_of_lt hDs) ⟨_, hl, rfl, nl, rfl⟩ (fun j hj => ?_) (fun j h h' => hJ _ j h h' (Nat.ne_of_gt hDs) hIn) _ 0 rfl (Nat.zero_le _) ⟨_, s.gens, s.drawn, tk1, s.os⟩ hb1 (h0 _ fun b o e => Heap.get?_push_of_some _ (hk1 _ _ e)) ⟨_, Heap.get?_push_size _ rfl, rfl, rfl⟩ (fun h' tk hb hj => ⟨rfl, h h' tk hb hj⟩)
  obtain ⟨t, k, v, e, ht, hset⟩ := ps j hj
  exact ⟨t, k, v, e, ht, fun args s' Q E hb hj hQ => hset _ s' Q E (by exact hA) (by show A.units + 1 + _ ≤ _; simp [Code.cUnits, Code.frames, Code.isFrame]) hb hj hQ⟩

/-- pairs with plain keys -/
inductive Pairs2 {K : Type} [DecidableEq K] {w : World} (knd : KeyKind PG w K) (led : Led) : List Value → List (K × Value) → Prop
  | nil : Pairs2 knd led [] []
  | cons {t key k v xs kvs} : (t, tupObj [key, v]) ∈ led → knd.is k key = true → Pairs2 knd led xs kvs → Pairs2 knd led (.ref t :: xs) ((k, v) :: kvs)
theorem Pairs2.get {K : Type} [DecidableEq K] {knd : KeyKind PG w K} {led : Led} {xs : List Value} {kvs : List (K × Value)} (h : Pairs2 knd led xs kvs) : xs.length = kvs.length ∧ ∀ j (hj : j < xs.length), ∃ t key k v, xs[j] = .ref t ∧ (t, tupObj [key, v]) ∈ led ∧ knd.is k key = true ∧ kvs[j]? = some (k, v) := by
  induction h with
  | nil => exact ⟨rfl, fun j hj => absurd hj (Nat.not_lt_zero _)⟩
  | @cons t key k v xs kvs h1 h2 _ ih =>
    refine ⟨by simp [ih.1], fun j hj => ?_⟩
    cases j with
    | zero => exact ⟨t, key, k, v, rfl, h1, h2, rfl⟩
    | succ j =>
      obtain ⟨t', key', k', v', a, b, c, d⟩ := ih.2 j (by simpa using hj)
      exact ⟨t', key', k', v', by simpa using a, b, c, by simpa using d⟩
theorem W.dictOf {K : Type} [DecidableEq K] {knd : KeyKind PG w K} {l : Addr} {xs : List Value} {nl : Nat} {kvs : List (K × Value)} {Q : Value → Sg → Prop} (hl : (l, lstObj xs nl) ∈ σ.led) (hp : Pairs2 knd σ.led xs kvs) (hn : (kvs.map (·.1)).Nodup) (hz : kvs.length ≤ sizeLine)
    (h : ∀ D o, o.IsDictOf knd kvs → Q (.ref D) { σ with led := (D, o) :: σ.led }) : W S σ (call (.type "dict") [.ref l]) Q E := fun s x => by
  obtain ⟨e1, e2⟩ := hp.get
  refine call_dict_pairs rfl (x.led _ hl) (fun j h' => (∀ b o, (s.heap.get? b = some o) → h'.get? b = some o) ∧ h'.DictOf knd s.heap.objs.size (merged [] (kvs.take j))) (fun h' hk => ⟨fun b o e => hk _ _ (Heap.get?_push_of_some _ e), ?_⟩) (fun j hj => ?_) (fun I j h h' hI hI0 ⟨a, b⟩ hk => ⟨fun b' o e => hk b' o (fun q => by (rw [q, hI0] at e; cases e)) (a b' o e), ?_⟩) (fun h' tk hk ⟨_, hD⟩ => ?_)
  · obtain ⟨o, ho, hd⟩ := Heap.dictOf_iff.mp (Heap.DictOf.new (knd := knd) s.heap)
    exact Heap.dictOf_iff.mpr ⟨o, hk _ _ ho, hd⟩
  · obtain ⟨t, key, k, v, a, b, c, d⟩ := e2 j (by simpa using hj)
    refine ⟨t, key, v, by simpa using a, ⟨_, x.led _ b, rfl, 0, rfl⟩, fun A' s' Q E hA hu hb ⟨hb2, hD⟩ hQ => ?_⟩
    have hlen : (merged [] (kvs.take j)).length ≤ sizeLine := by
      rw [merged_nil_of_nodup _ (List.Sublist.nodup ((List.take_sublist _ _).map _) hn)]
      have := List.length_take_le j kvs
      rw [List.length_take]; omega
    refine wpAny_dictSet_pairs c hD (fun h' hD' hs => hQ h' _ ⟨fun b' o e => (hs.2 b' (Nat.ne_of_lt (Heap.lt_size e))).trans (hb2 b' o e), ?_⟩ hs) hlen
    rw [merged_take_succ _ _ _ _ d]
    exact hD'
  · obtain ⟨o, ho, hd⟩ := Heap.dictOf_iff.mp b
    exact Heap.dictOf_iff.mpr ⟨o, hk _ _ (Ne.symm hI) ho, hd⟩
  · have e3 : xs.toArray.size = kvs.length := by simpa using e1
    rw [e3, List.take_length, merged_nil_of_nodup _ hn] at hD
    obtain ⟨o, ho, hd⟩ := Heap.dictOf_iff.mp hD
    have y : St S σ h' := x.grow hk
    refine ⟨_, h', tk, rfl, ?_, h _ o hd⟩
    have na : s.heap.objs.size ∉ own S σ := fun q => Nat.lt_irrefl _ (x.lt _ q)
    refine ⟨y.fr, y.cel, y.cex, y.blk, fun p hp => ?_, y.keep, nodup_insert y.nodup na, fun a ha => ?_, fun p hp => ?_⟩
    · rcases List.mem_cons.mp hp with rfl | hp
      · exact ho
      · exact y.led p hp
    · by_cases ea : a = s.heap.objs.size
      · rw [ea]; exact none_of_ge x.size
      · refine y.fresh a ?_
        unfold own at ha ⊢
        simp only [List.map_cons, List.mem_cons, List.mem_append] at ha ⊢
        rcases ha with ha | ha | ha | ha | ha
        · exact .inl ha
        · exact .inr (.inl ha)
        · exact .inr (.inr (.inl ha))
        · exact absurd ha ea
        · exact .inr (.inr (.inr ha))
    · rcases List.mem_cons.mp hp with rfl | hp
      · exact ge_modules (S := S) x.size
      · exact y.low p hp
end
end Mine
namespace Mine
noncomputable section
variable {w : World} {fn : Fn} {S : Sit w fn} {σ : Sg} {α β : Type} {E : Value → Heap → Prop}

theorem St.addNew {h : Heap} {a : Addr} {o : Obj} (x : St S σ h) (ho : h.get? a = some o) (na : a ∉ own S σ) (hge : S.h₀.objs.size ≤ a) : St S { σ with led := (a, o) :: σ.led } h := by
  refine ⟨x.fr, x.cel, x.cex, x.blk, fun p hp => ?_, x.keep, nodup_insert x.nodup na, fun b hb => ?_, fun p hp => ?_⟩
  · rcases List.mem_cons.mp hp with rfl | hp
    · exact ho
    · exact x.led p hp
  · by_cases ea : b = a
    · rw [ea]; exact none_of_ge hge
    · refine x.fresh b ?_
      unfold own at hb ⊢
      simp only [List.map_cons, List.mem_cons, List.mem_append] at hb ⊢
      rcases hb with hb | hb | hb | hb | hb
      · exact .inl hb
      · exact .inr (.inl hb)
      · exact .inr (.inr (.inl hb))
      · exact absurd hb ea
      · exact .inr (.inr (.inr hb))
  · rcases List.mem_cons.mp hp with rfl | hp
    · exact ge_modules (S := S) hge
    · exact x.low p hp
/-- two hidden places change -/
theorem St.step2 {h h' : Heap} {m : Loc} {led : Led} {a b : Addr} {pa pb qa qb : BlkE} {r : List (Addr × BlkE)} (x : St S ⟨m, (a, pa) :: (b, pb) :: r, led⟩ h) (hk : ∀ c o, c ≠ a → c ≠ b → h.get? c = some o → h'.get? c = some o) (ha : BlkOk h' (a, qa)) (hb : BlkOk h' (b, qb)) :
    St S ⟨m, (a, qa) :: (b, qb) :: r, led⟩ h' := by
  have nd := x.nodup
  unfold own at nd
  have per : (S.L :: (S.cl.map (·.2) ++ (((a, pa) :: (b, pb) :: r).map (·.1) ++ led.map (·.1)))).Perm (a :: b :: (S.L :: (S.cl.map (·.2) ++ (r.map (·.1) ++ led.map (·.1))))) := by
    simp only [List.map_cons, List.cons_append]
    have h1 := (List.perm_middle (a := a) (l₁ := S.L :: S.cl.map (·.2)) (l₂ := b :: (r.map (·.1) ++ led.map (·.1))))
    have h2 := (List.perm_middle (a := b) (l₁ := S.L :: S.cl.map (·.2)) (l₂ := (r.map (·.1) ++ led.map (·.1))))
    exact h1.trans (h2.cons a)
  have nd2 := per.nodup_iff.mp nd
  have na : ∀ c ∈ S.L :: (S.cl.map (·.2) ++ (r.map (·.1) ++ led.map (·.1))), c ≠ a ∧ c ≠ b := by
    intro c hc
    refine ⟨fun e => ?_, fun e => ?_⟩
    · subst e; exact (List.nodup_cons.mp nd2).1 (.tail _ hc)
    · subst e; exact (List.nodup_cons.mp (List.nodup_cons.mp nd2).2).1 hc
  have aown : a ∈ own S ⟨m, (a, pa) :: (b, pb) :: r, led⟩ := by unfold own; simp
  have bown : b ∈ own S ⟨m, (a, pa) :: (b, pb) :: r, led⟩ := by unfold own; simp
  refine ⟨?_, ?_, ?_, ?_, ?_, ?_, x.nodup, x.fresh, x.low⟩
  · obtain ⟨f, ⟨o, es, ep, ho, q⟩, hf⟩ := x.fr
    exact ⟨f, ⟨o, es, ep, hk _ _ (na _ (.head _)).1 (na _ (.head _)).2 ho, q⟩, hf⟩
  · intro y v e k
    obtain ⟨c, hc, o, ho, hd⟩ := x.cel y v e k
    have := na c (.tail _ (List.mem_append_left _ (List.mem_map_of_mem (f := (·.2)) (mem_of_lookup hc))))
    exact ⟨c, hc, o, hk _ _ this.1 this.2 ho, hd⟩
  · intro p hp
    obtain ⟨v, o, ho, hd⟩ := x.cex p hp
    have := na p.2 (.tail _ (List.mem_append_left _ (List.mem_map_of_mem hp)))
    exact ⟨v, o, hk _ _ this.1 this.2 ho, hd⟩
  · intro p hp
    rcases List.mem_cons.mp hp with rfl | hp
    · exact ha
    rcases List.mem_cons.mp hp with rfl | hp
    · exact hb
    have := na p.1 (.tail _ (List.mem_append_right _ (List.mem_append_left _ (List.mem_map_of_mem hp))))
    exact (x.blk p (.tail _ (.tail _ hp))).grow fun o ho => hk _ _ this.1 this.2 ho
  · intro p hp
    have := na p.1 (.tail _ (List.mem_append_right _ (List.mem_append_right _ (List.mem_map_of_mem hp))))
    exact hk _ _ this.1 this.2 (x.led p hp)
  · intro c o e
    refine hk _ _ (fun q => ?_) (fun q => ?_) (x.keep c o e)
    · have := x.fresh a aown; rw [← q, e] at this; cases this
    · have := x.fresh b bown; rw [← q, e] at this; cases this

abbrev EnObj (it : Addr) (i : Int) (old : Value) : Obj := { cls := .type "enumerate", data := .fields #[.none, .bool false, .ref it, rawInt i, .none, old] }
abbrev EnP (it : Addr) (i : Nat) : Obj → Prop := fun o => ∃ old, o = EnObj it i old
theorem W.enumL {l : Addr} {vs : List Value} {k : Nat} {Q : Value → Sg → Prop} (hl : (l, lstObj vs k) ∈ σ.led) (h : ∀ e it, Q (.ref e) { σ with blk := (e, .inr (EnP it 0)) :: (it, .inr (LIt l 0)) :: σ.blk }) : W S σ (call (.type "enumerate") [.ref l]) Q E := fun s x => by
  refine call_enumerate_list (x.isList hl) fun h' he hit hsz hk => ?_
  have y : St S σ h' := x.grow hk
  have n1 : s.heap.objs.size ∉ own S σ := fun q => Nat.lt_irrefl _ (x.lt _ q)
  have n2 : s.heap.objs.size + 1 ∉ own S σ := fun q => Nat.lt_irrefl _ (Nat.lt_of_succ_lt (x.lt _ q))
  obtain ⟨oi, hoi, hci, hdi⟩ := hit
  have y1 := (y.addNew hoi n1 x.size).toBlk (P := LIt l 0) ⟨hci, hdi⟩
  have y2 := (y1.addNew (σ := { σ with blk := (s.heap.objs.size, .inr (LIt l 0)) :: σ.blk }) he (fun q => by
    unfold own at q n2
    simp only [List.map_cons, List.mem_cons, List.mem_append] at q n2
    rcases q with q | q | (q | q) | q
    · exact n2 (.inl q)
    · exact n2 (.inr (.inl q))
    · exact Nat.succ_ne_self _ q
    · exact n2 (.inr (.inr (.inl q)))
    · exact n2 (.inr (.inr (.inr q)))) (Nat.le_succ_of_le x.size)).toBlk (P := EnP s.heap.objs.size 0) ⟨_, rfl⟩
  exact ⟨_, h', s.toks, rfl, y2, h _ _⟩
theorem perm22 {γ : Type} {a b c d : γ} {r : List γ} : (a :: b :: c :: d :: r).Perm (c :: d :: a :: b :: r) := by
  have h := List.perm_append_comm (l₁ := [a, b]) (l₂ := [c, d])
  exact h.append_right r
theorem CLoop.enum {l e it : Addr} {xs : List Value} {kl : Nat} {r : List (Addr × BlkE)} {elt iter : Expr} {elts : List Expr} {kt : Nat} {tpos : Pos} {ifs : List Expr} {scope : Scope} {pos : Pos} {env : Env} {cl : List (Str × Addr)} {Q : Value → Sg → Prop}
    (Inv : Nat → List Value → Led → Prop) (hz : xs.length ≤ sizeLine)
    (hb : σ.blk = (e, .inr (EnP it 0)) :: (it, .inr (LIt l 0)) :: r) (hok : ∀ i vs led, Inv i vs led → (l, lstObj xs kl) ∈ led)
    (turn : ∀ i v vs led D C k a t, xs[i]? = some v → Inv i vs led → vs.length ≤ i → W S ⟨σ.m, (D, .inr fun o => o = lstObj vs k) :: (C, .inl []) :: (e, .inr (EnP it (i+1))) :: (it, .inr (LIt l (i+1))) :: r, (a, tupObj [.int i t, v]) :: led⟩ (assign (.Tuple elts kt tpos) (compEnvC scope cl C env) (.ref a)) (fun _ σ₁ => Ifs S (compEnvC scope cl C env) ifs σ₁ (fun ok σ₂ =>
      if ok = true then W S σ₂ (eval elt (compEnvC scope cl C env)) (fun y σ₃ => (∃ mb, σ₃.blk = (D, .inr fun o => o = lstObj vs k) :: (C, .inl mb) :: (e, .inr (EnP it (i+1))) :: (it, .inr (LIt l (i+1))) :: r) ∧ σ₃.m = σ.m ∧ Inv (i+1) (vs ++ [y]) σ₃.led) (fun _ _ => False)
      else (∃ mb, σ₂.blk = (D, .inr fun o => o = lstObj vs k) :: (C, .inl mb) :: (e, .inr (EnP it (i+1))) :: (it, .inr (LIt l (i+1))) :: r) ∧ σ₂.m = σ.m ∧ Inv (i+1) vs σ₂.led)) (fun _ _ => False))
    (stop : ∀ D vs k led, Inv xs.length vs led → Q (.ref D) ⟨σ.m, r, (D, lstObj vs k) :: led⟩) (h0 : Inv 0 [] σ.led) : CLoop S σ (.ref e) elt (.Tuple elts kt tpos) iter ifs scope pos env cl Q := fun s D C hD x => by
  refine compLoop_testsT (fun c s' => ∃ i vs kk mb led h' tk', c = xs.length - i ∧ i ≤ xs.length ∧ vs.length ≤ i ∧ s' = { s with heap := h', toks := tk' } ∧ Inv i vs led ∧ St S ⟨σ.m, (D, .inr fun o => o = lstObj vs kk) :: (C, .inl mb) :: (e, .inr (EnP it i)) :: (it, .inr (LIt l i)) :: r, led⟩ h') ?_ xs.length ?_
  · rintro c s' ⟨i, vs, kk, mb, led, h', tk', rfl, hi, hvl, rfl, inv, y⟩
    have y' : St S ⟨σ.m, (e, .inr (EnP it i)) :: (it, .inr (LIt l i)) :: (D, .inr fun o => o = lstObj vs kk) :: (C, .inl mb) :: r, led⟩ h' := y.permB perm22
    obtain ⟨_, hoe, old, rfl⟩ := y'.blk _ (.head _)
    have hit := y'.blk _ (.tail _ (.head _))
    have hne : e ≠ it := by
      have nd := y'.nodup
      unfold own at nd
      have nd2 := (List.nodup_append.mp (List.nodup_append.mp (List.nodup_cons.mp nd).2).2.1).1
      simp only [List.map_cons] at nd2
      exact fun q => (List.nodup_cons.mp nd2).1 (by rw [q]; exact .head _)
    by_cases hlt : i < xs.length
    · refine wpAny_pyNext_enum_item (s := { s with heap := h', toks := tk' }) (x := xs[i]) hoe hit (y'.isList (hok _ _ _ inv)) (by simp [hlt]) hne fun h₁ heo hit₁ hnew hsz hk₁ => ?_
      dsimp only at hnew hsz hk₁ heo ⊢
      refine wpAny_letOwnedTupleGo_enum (s := { s with heap := h₁, toks := tk' + 1 }) heo fun h₂ he₂ hs₂ => ?_
      have hk₂ : ∀ b o, b ≠ e → b ≠ it → h'.get? b = some o → h₂.get? b = some o := fun b o q1 q2 q3 => (hs₂.2 b q1).trans (hk₁ b o q1 q2 q3)
      obtain ⟨oi, hoi, hci, hdi⟩ := hit₁
      have y₂ : St S ⟨σ.m, (e, .inr (EnP it (i+1))) :: (it, .inr (LIt l (i+1))) :: (D, .inr fun o => o = lstObj vs kk) :: (C, .inl mb) :: r, led⟩ h₂ :=
        y'.step2 hk₂ ⟨_, he₂, _, rfl⟩ ⟨oi, (hs₂.2 it (Ne.symm hne)).trans hoi, hci, hdi⟩
      have hae : h'.objs.size ≠ e := fun q => Nat.lt_irrefl _ (q ▸ Heap.lt_size hoe)
      have hnew₂ : h₂.get? h'.objs.size = some (tupObj [.int i tk', xs[i]]) := (hs₂.2 _ hae).trans hnew
      have na : h'.objs.size ∉ own S ⟨σ.m, (e, .inr (EnP it (i+1))) :: (it, .inr (LIt l (i+1))) :: (D, .inr fun o => o = lstObj vs kk) :: (C, .inl mb) :: r, led⟩ := fun q => Nat.lt_irrefl _ (y'.lt _ q)
      have y₃ := y₂.addNew hnew₂ na y'.size
      have y₄ := (St.permB y₃ (perm22.symm)).forgetB
      refine (turn i _ vs led D C kk h'.objs.size tk' (by simp [hlt]) inv hvl).noRaise (s := { s with heap := h₂, toks := tk' + 1 }) y₄ fun _ σ₁ h₅ tk₂ y₅ q₂ => ?_
      refine (ifs_run q₂).noRaise (s := { s with heap := h₅, toks := tk₂ }) y₅ fun ok σ₂ h₃ tk₃ y₃ q₃ => ?_
      cases ok with
      | true =>
        rw [if_pos rfl] at q₃ ⊢
        refine q₃.noRaise (s := { s with heap := h₃, toks := tk₃ }) y₃ fun z σ₃ h₄ tk₄ y₄ q₄ => ?_
        obtain ⟨m₃, b₃, led₃⟩ := σ₃
        obtain ⟨⟨mb', rfl⟩, rfl, inv'⟩ := q₄
        obtain ⟨o, rfl, y₅⟩ := St.toLed (σ := ⟨σ.m, (C, .inl mb') :: (e, .inr (EnP it (i+1))) :: (it, .inr (LIt l (i+1))) :: r, led₃⟩) y₄ hD
        have ap := W.appendL (S := S) (σ := ⟨σ.m, (C, .inl mb') :: (e, .inr (EnP it (i+1))) :: (it, .inr (LIt l (i+1))) :: r, (D, lstObj vs kk) :: led₃⟩) (l := D) (y := z) (Q := fun _ σ' => σ' = ⟨σ.m, (C, .inl mb') :: (e, .inr (EnP it (i+1))) :: (it, .inr (LIt l (i+1))) :: r, (D, lstObj (vs ++ [z]) (kk + 1)) :: led₃⟩) (E := fun _ _ => False) Hole.head (by omega) rfl
        refine ap.noRaise (s := { s with heap := h₄, toks := tk₄ }) y₅ fun _ σ₆ h₆ tk₆ y₆ q₆ => ?_
        subst q₆
        exact ⟨xs.length - (i+1), by omega, i+1, vs ++ [z], kk+1, mb', led₃, h₆, tk₆, rfl, by omega, by simp; omega, rfl, inv', St.toBlk (σ := ⟨σ.m, (C, .inl mb') :: (e, .inr (EnP it (i+1))) :: (it, .inr (LIt l (i+1))) :: r, led₃⟩) y₆ rfl⟩
      | false =>
        rw [if_neg (by decide)] at q₃ ⊢
        obtain ⟨m₃, b₃, led₃⟩ := σ₂
        obtain ⟨⟨mb', rfl⟩, rfl, inv'⟩ := q₃
        exact ⟨xs.length - (i+1), by omega, i+1, vs, kk, mb', led₃, h₃, tk₃, rfl, by omega, by omega, rfl, inv', y₃⟩
    · obtain rfl : i = xs.length := by omega
      refine wpAny_pyNext_enum_end (s := { s with heap := h', toks := tk' }) rfl hoe hit (y'.isList (hok _ _ _ inv)) (by simp) fun h₁ he => ?_
      have y1 : St S ⟨σ.m, (e, .inr (EnP it xs.length)) :: (D, .inr fun o => o = lstObj vs kk) :: (C, .inl mb) :: r, led⟩ h₁ :=
        St.drop (I := it) (St.permB y' (List.Perm.swap _ _ _)) fun a o ha q => he a o ha q
      have y2 : St S ⟨σ.m, (D, .inr fun o => o = lstObj vs kk) :: (C, .inl mb) :: r, led⟩ h₁ := St.drop y1 fun _ _ _ q => q
      obtain ⟨o, rfl, y₅⟩ := St.toLed (σ := ⟨σ.m, (C, .inl mb) :: r, led⟩) y2 hD
      exact ⟨vs, kk, mb, ⟨σ.m, r, led⟩, h₁, tk', rfl, y₅, stop D vs kk led inv⟩
  · obtain ⟨m, b, led⟩ := σ
    obtain rfl : b = _ := hb
    exact ⟨0, [], 0, [], led, s.heap, s.toks, by omega, by omega, by simp, rfl, h0, x⟩
theorem W.iterEn {e it : Addr} {i : Nat} {r : List (Addr × BlkE)} {Q : Value → Sg → Prop} (hb : σ.blk = (e, .inr (EnP it i)) :: r) (h : Q (.ref e) σ) : W S σ (pyIter (.ref e)) Q E := fun s x => by
  have hm : (e, (.inr (EnP it i) : BlkE)) ∈ σ.blk := by rw [hb]; exact .head _
  obtain ⟨_, hoe, old, rfl⟩ := x.blk _ hm
  exact wpAny_pyIter_enum hoe ⟨σ, s.heap, s.toks, rfl, x, h⟩
theorem CStart.enum {l e it : Addr} {xs : List Value} {kl : Nat} {r : List (Addr × BlkE)} {elt iter : Expr} {elts : List Expr} {kt : Nat} {tpos : Pos} {ifs : List Expr} {scope : Scope} {pos : Pos} {env : Env} {cl : List (Str × Addr)} {Q : Value → Sg → Prop}
    (Inv : Nat → List Value → Led → Prop) (hz : xs.length ≤ sizeLine)
    (hb : σ.blk = (e, .inr (EnP it 0)) :: (it, .inr (LIt l 0)) :: r) (hok : ∀ i vs led, Inv i vs led → (l, lstObj xs kl) ∈ led)
    (turn : ∀ i v vs led D C k a t, xs[i]? = some v → Inv i vs led → vs.length ≤ i → W S ⟨σ.m, (D, .inr fun o => o = lstObj vs k) :: (C, .inl []) :: (e, .inr (EnP it (i+1))) :: (it, .inr (LIt l (i+1))) :: r, (a, tupObj [.int i t, v]) :: led⟩ (assign (.Tuple elts kt tpos) (compEnvC scope cl C env) (.ref a)) (fun _ σ₁ => Ifs S (compEnvC scope cl C env) ifs σ₁ (fun ok σ₂ =>
      if ok = true then W S σ₂ (eval elt (compEnvC scope cl C env)) (fun y σ₃ => (∃ mb, σ₃.blk = (D, .inr fun o => o = lstObj vs k) :: (C, .inl mb) :: (e, .inr (EnP it (i+1))) :: (it, .inr (LIt l (i+1))) :: r) ∧ σ₃.m = σ.m ∧ Inv (i+1) (vs ++ [y]) σ₃.led) (fun _ _ => False)
      else (∃ mb, σ₂.blk = (D, .inr fun o => o = lstObj vs k) :: (C, .inl mb) :: (e, .inr (EnP it (i+1))) :: (it, .inr (LIt l (i+1))) :: r) ∧ σ₂.m = σ.m ∧ Inv (i+1) vs σ₂.led)) (fun _ _ => False))
    (stop : ∀ D vs k led, Inv xs.length vs led → Q (.ref D) ⟨σ.m, r, (D, lstObj vs k) :: led⟩) (h0 : Inv 0 [] σ.led) : CStart S σ (.ref e) elt (.Tuple elts kt tpos) iter ifs scope pos env cl Q :=
  ⟨e, EnP it 0, _, rfl, hb, fun s m led I r Q E x q => by
    obtain ⟨_, hoe, old, rfl⟩ := x.blk _ (.head _)
    exact wpAny_pyIter_enum hoe q, CLoop.enum Inv hz hb hok turn stop h0⟩
theorem Cn.skipApp {L A F : Led} (h : Cn L A F) : ∀ X : Led, Cn (X ++ L) A (X ++ F)
  | [] => h
  | _ :: X => .skip (h.skipApp X)
end
end Mine
namespace Mine
noncomputable section
variable {w : World} {fn : Fn} {S : Sit w fn} {σ : Sg} {α β : Type} {E : Value → Heap → Prop} {F F' : Led} {tb tb' : List (Int × Value)}

def pgOf (n : Int) : Int := if n = 3 then 0 else if n = 4 then 1 else -1
inductive PgSh (w : World) (F : Led) (kvs : List (Str × Value)) : Int → Prop
  | none : valueAt kvs "Pg" = none → PgSh w F kvs (-1)
  | ref {a n} : valueAt kvs "Pg" = some (.ref a) → RefAt w F a n → PgSh w F kvs (pgOf n)
theorem PgSh.grow {kvs : List (Str × Value)} {p : Int} (h : PgSh w F kvs p) (s : F <:+ F') : PgSh w F' kvs p := by
  cases h with
  | none e => exact .none e
  | ref e r => exact .ref e (RefAt.grow r s)
abbrev Places (w : World) (F : Led) (D : Addr) : Prop := ∃ t0 t1, IDict w F D [(3, .int 0 t0), (4, .int 1 t1)]
theorem Places.grow {D : Addr} (h : Places w F D) (s : F <:+ F') : Places w F' D := let ⟨t0, t1, q⟩ := h; ⟨t0, t1, IDict.grow q s⟩

/-- a kid, as the law means it; page: what page_told says -/
inductive Kid where
  | content (n : Int)
  | mcrPg (page n : Int)
  | mcr (n : Int)
  | objr (page : Int)
  | elem (here page : Int) (word : Str) (told direct : Bool) (kids : List Kid)

/-- a told text: the string b'T' -/
def ToldAt (w : World) (F : Led) (kvs : List (Str × Value)) : Bool → Prop
  | true => ∃ a t, valueAt kvs "ActualText" = some (.ref a) ∧ Inst2 w.params 205 "octets" (.bytes #[84] t) "is_hex" (.bool false) a F
  | false => valueAt kvs "ActualText" = none
theorem ToldAt.grow {kvs : List (Str × Value)} {b : Bool} (h : ToldAt w F kvs b) (s : F <:+ F') : ToldAt w F' kvs b := by
  cases b with
  | true => obtain ⟨a, t, e, i⟩ := h; exact ⟨a, t, e, i.grow s⟩
  | false => exact h
mutual
/-- how a kid stands in the heap -/
def IsItem (w : World) (F : Led) (tb : List (Int × Value)) : Kid → Value → Prop
  | .content n, v => 0 ≤ n ∧ ∃ t, v = .int n t
  | .mcrPg p n, v => 0 ≤ n ∧ ∃ d kvs aT aP m t, v = .ref d ∧ SDict w F d kvs ∧ valueAt kvs "Type" = some (.ref aT) ∧ NameAt w F aT "MCR" ∧ valueAt kvs "Pg" = some (.ref aP) ∧ RefAt w F aP m ∧ p = pgOf m ∧ valueAt kvs "MCID" = some (.int n t)
  | .mcr n, v => 0 ≤ n ∧ ∃ d kvs aT t, v = .ref d ∧ SDict w F d kvs ∧ valueAt kvs "Type" = some (.ref aT) ∧ NameAt w F aT "MCR" ∧ valueAt kvs "Pg" = none ∧ valueAt kvs "MCID" = some (.int n t)
  | .objr p, v => ∃ d kvs aT aO, v = .ref d ∧ SDict w F d kvs ∧ valueAt kvs "Type" = some (.ref aT) ∧ NameAt w F aT "OBJR" ∧ valueAt kvs "Obj" = some (.ref aO) ∧ RefAt w F aO p
  | .elem here page word told direct kids, v => ∃ d kvs, Entry w F tb here d kvs ∧ (if direct = true then v = .ref d else ∃ a, v = .ref a ∧ RefAt w F a here) ∧
      valueAt kvs "Type" = none ∧ (∃ a, valueAt kvs "S" = some (.ref a) ∧ NameAt w F a word) ∧ PgSh w F kvs page ∧ ToldAt w F kvs told ∧ ∃ vs, KSh w F tb kvs vs ∧ AreItems w F tb kids vs
def AreItems (w : World) (F : Led) (tb : List (Int × Value)) : List Kid → List Value → Prop
  | [], vs => vs = []
  | k :: ks, vs => ∃ v r, vs = v :: r ∧ IsItem w F tb k v ∧ AreItems w F tb ks r
end
theorem Entry.more {n : Int} {d : Addr} {kvs : List (Str × Value)} (h : Entry w F tb n d kvs) (s : F <:+ F') (q : Tbs tb tb') : Entry w F' tb' n d kvs := let ⟨tp, t, e, m, r⟩ := h; ⟨tp, t, q _ _ e, s.subset m, SDict.grow r s⟩
mutual
theorem IsItem.more (s : F <:+ F') (q : Tbs tb tb') : ∀ {k : Kid} {v : Value}, IsItem w F tb k v → IsItem w F' tb' k v
  | .content _, _, h => h
  | .mcrPg _ _, _, h => by
    unfold IsItem at h ⊢
    obtain ⟨h0, d, kvs, aT, aP, m, t, e, h1, h2, h3, h4, h5, h6, h7⟩ := h
    exact ⟨h0, d, kvs, aT, aP, m, t, e, SDict.grow h1 s, h2, NameAt.grow h3 s, h4, RefAt.grow h5 s, h6, h7⟩
  | .mcr _, _, h => by
    unfold IsItem at h ⊢
    obtain ⟨h0, d, kvs, aT, t, e, h1, h2, h3, h4, h7⟩ := h
    exact ⟨h0, d, kvs, aT, t, e, SDict.grow h1 s, h2, NameAt.grow h3 s, h4, h7⟩
  | .objr _, _, h => by
    unfold IsItem at h ⊢
    obtain ⟨d, kvs, aT, aO, e, h1, h2, h3, h4, h5⟩ := h
    exact ⟨d, kvs, aT, aO, e, SDict.grow h1 s, h2, NameAt.grow h3 s, h4, RefAt.grow h5 s⟩
  | .elem here page word told direct kids, v, h => by
    unfold IsItem at h ⊢
    obtain ⟨d, kvs, h1, h2, h3, ⟨a, h4, h5⟩, h6, h7, vs, h8, h9⟩ := h
    refine ⟨d, kvs, h1.more s q, ?_, h3, ⟨a, h4, NameAt.grow h5 s⟩, h6.grow s, h7.grow s, vs, h8.more s q, AreItems.more s q h9⟩
    cases direct with
    | true => exact h2
    | false => obtain ⟨a, e, r⟩ := h2; exact ⟨a, e, RefAt.grow r s⟩
theorem AreItems.more (s : F <:+ F') (q : Tbs tb tb') : ∀ {ks : List Kid} {vs : List Value}, AreItems w F tb ks vs → AreItems w F' tb' ks vs
  | [], _, h => h
  | k :: ks, _, h => by
    unfold AreItems at h ⊢
    obtain ⟨v, r, e, h1, h2⟩ := h
    exact ⟨v, r, e, IsItem.more s q h1, AreItems.more s q h2⟩
end
section
variable {σ : Sg}
theorem W.tCmp2 {l a b : Expr} {op1 op2 : CmpOp} {pos : Pos} {env : Env} {whole : Sem Value} {Q : Bool → Sg → Prop}
    (h : W S σ (eval l env) (fun lv σ₁ => W S σ₁ (eval a env) (fun av σ₂ => W S σ₂ (compareOp op1 lv av) (fun c σ₃ => W S σ₃ (truthy c) (fun t σ₄ => if t = true then W S σ₄ (eval b env) (fun bv σ₅ => W S σ₅ (compareOp op2 av bv) (fun c2 σ₆ => W S σ₆ (truthy c2) Q E) E) E else Q false σ₄) E) E) E) E)
    (hm : behindInMarks op2 b = false) : W S σ (isTrue (.Compare l [op1, op2] [a, b] pos) env whole) Q E := by
  show W S σ (do
    let left ← eval l env
    let rv ← PySem.holding [left] (eval a env)
    PySem.standAt pos
    let c ← PySem.holding [left, rv] (compareOp op1 left rv)
    PySem.release [left, rv] [c]
    if ← PySem.holding [c, rv] (truthy c) then (do
      let rv2 ← PySem.holding [rv] (markedBehindIn op2 b (eval b env))
      PySem.standAt pos
      let c2 ← PySem.operate [rv, rv2] (compareOp op2 rv rv2)
      PySem.holding [c2] (truthy c2)) else Pure.pure false) Q E
  rw [markedBehindIn_of_false hm]
  refine W.bind (W.mono h fun _ _ h₁ => W.bind (W.holding (W.mono h₁ fun _ _ h₂ => W.bind (W.standAt (W.bind (W.holding (W.mono h₂ fun _ _ h₃ => W.bind (W.release (W.bind (W.holding (W.mono h₃ fun t _ h₄ => ?_)))))))))))
  cases t with
  | false => exact W.pure h₄
  | true => exact W.bind (W.holding (W.mono h₄ fun _ _ h₅ => W.bind (W.standAt (W.bind (W.operate (W.mono h₅ fun _ _ h₆ => W.holding h₆))))))
end
end
end Mine
namespace Mine
noncomputable section
variable {w : World} {fn : Fn} {S : Sit w fn} {σ : Sg} {α β : Type} {E : Value → Heap → Prop}
theorem sub_bytes_tuple' : isSubtype (.type "bytes") (.type "tuple") = Pure.pure false := by rw [isSubtype_type]; kernel_rfl
theorem sub_bytes_bytes' : isSubtype (.type "bytes") (.type "bytes") = Pure.pure true := by rw [isSubtype_type]; kernel_rfl
theorem lk_bytes_buffer : typeLookup (.type "bytes") "__buffer__" = Pure.pure (some (.builtin "bytes.__buffer__")) := by rw [typeLookup_type, builtinLookup_eq_fast]; kernel_rfl
theorem lk_bytes_release : typeLookup (.type "bytes") "__release_buffer__" = Pure.pure none := by rw [typeLookup_type, builtinLookup_eq_fast]; kernel_rfl
theorem W.bStarts {t u : Tok} {Q : Value → Sg → Prop} (h : Q (.bool false) σ) :
    W S σ (call (.builtin "bytes.startswith") [.bytes #[84] t, .bytes #[254, 255] u]) Q E := fun s x => by
  refine wpAny_call_entry FB.slot_bytes_startswith (typeIs_bytes s #[84] t) FB.entry_bytes_startswith ?_ (FB.args_bytes_startswith_2 _ _)
  have h1 := sub_bytes_tuple'
  have h2 := sub_bytes_bytes'
  have h3 := lk_bytes_buffer
  have h4 := lk_bytes_release
  have hT : ∀ s : Shared, s.TypeIs (.bytes #[254, 255] u) "bytes" := fun _ => rfl
  unfold Builtin.«bytes.startswith» Builtin.Bytes.tailMatchM
  have h5 : ("bytes.__buffer__".dropRight ("__buffer__".length + 1)) = "bytes" := by decide +kernel
  repeat (any_goals (first | assumption | exact hT _ | wp_step))
  rw [h5, if_neg (by decide +kernel)]
  repeat (any_goals (first | assumption | exact hT _ | wp_step))
  exact ⟨_, rfl, σ, s.heap, s.toks, rfl, x, h⟩
theorem bMeth_noRef {b : Array UInt8} {t : Tok} {s : Shared} : ∀ a, Value.bytes b t = .ref a → ∃ o, s.heap.get? a = some o ∧ o.dict = none := fun _ e => nomatch e
theorem W.bMeth {b : Array UInt8} {t : Tok} {pl : Sem Bool} {Q : Value × List Value → Sg → Prop} (h : Q (.builtin "bytes.startswith", [.bytes b t]) σ) :
    W S σ (getMethod (.bytes b t) "startswith" pl) Q E := fun s y => by
  have h' : ∃ σ' h' tk', s = { s with heap := h', toks := tk' } ∧ St S σ' h' ∧ Q (.builtin "bytes.startswith", [.bytes b t]) σ' := ⟨σ, s.heap, s.toks, rfl, y, h⟩
  with_reducible exact getMethod_builtin (typeIs_bytes s b t) FB.plainAttrs_bytes FB.slot_bytes_startswith FB.type_bytes_startswith bMeth_noRef h'
end
end Mine
namespace Mine
section
open Builtin Builtin.ObjectAttr
noncomputable section
variable {w : World} {fn : Fn} {S : Sit w fn} {σ : Sg} {α β : Type} {E : Value → Heap → Prop}

abbrev excO (C : Addr) (d : Option Addr) (vs : Array Value) : Obj := { cls := .ref C, dict := d, data := .fields vs }
/-- object.__setattr__ on an exception of the text's own -/
theorem osa_open2 {A : Around} {s : Shared} {R : Result → Shared → Prop} {C x a b : Addr} {ox : Obj} {oD : Option Obj} {name : Str} {tk : Tok} {v : Value} {cd : ClassData} {oc : Value} {od : Option Addr} {sl : Array (Option Value)} (X : (hd.heap_39 w.params).In s.heap) (I : InstAt s.heap x ox C oD)
    (hC : (hd.heap_39 w.params).lookup C = some ⟨oc, od, .cls cd, sl⟩) (hm : cd.mro = [.ref a, .ref b, .type "Exception", .type "BaseException", .type "object"]) (ht : takerIn (hd.heap_39 w.params) C name = some none)
    (h : ∀ b, wpAny (model PG w) A.in1 (storeInOwnDict (.ref x) (.ref C) (.str name tk) name v b)
      (fun fin s' => match fin with | .done f => R (.ok f) s' | .again c' => c'.quiet = true ∧ codeAny (model PG w) A c' R s') (fun e s' => R (.error e) s') s) :
    codeAny (model PG w) A (.call (.builtin "object.__setattr__") ⟨[.ref x, .str name tk, v], []⟩) R s := by
  have SF := PySem.F.store_object
  have hc : clsIn (hd.heap_39 w.params) C = some cd := by unfold clsIn; rw [hC]
  have sub : Looks (model PG w) s.heap (isInstance (.ref x) (.type "object")) true := I.type.andThen (looks_mroIn X (by unfold mroIn; rw [hc, Option.bind_some, if_neg (by rw [hm]; exact Bool.false_ne_true), hm]; rfl))
  refine codeAny_call_builtin SF.slot.plain SF.entry (@check_slot (model PG w) _ _ s "object.__setattr__" "object" "__setattr__" (.ref x) [.str name tk, v] [] _ SF.kind SF.split sub (SF.args (.ref x) (.str name tk) v) ?_)
  obtain ⟨attr, ha, hr⟩ := Option.bind_eq_some_iff.mp ht
  have hm' : Looks (model PG w) s.heap (mroOf (.ref C)) cd.mro := (looks_clsIn X hc).andThen .now
  have L3 : Looks (model PG w) s.heap (storeTaker? attr) none := by
    cases attr with
    | none => exact .now
    | some a =>
      obtain ⟨b, hb, e⟩ := Option.map_eq_some_iff.mp hr
      refine (looks_takesIn X hb).andThen ?_
      cases b
      · exact .now
      · cases e
  rw [osa_eq, refuse_eq]
  refine wpAny_bind (wpAny_bind (I.type.here (wpAny_bind (hm'.here ?_))))
  rw [hm, refuseLoop_ref, refuseLoop_ref, PySem.F.store_Exception.passes]
  exact wpAny_pure (wpAny_bind (I.type.here (wpAny_bind ((looks_findIn X ha).here (wpAny_bind (L3.here (h _)))))))
/-- a first attribute of an object that has no dict yet -/
theorem w_setA0 {cd : ClassData} {oc : Value} {od : Option Addr} {sl : Array (Option Value)} {a b : Addr} {x C : Addr} {fs : Array Value} {name : Str} {v : Value} {g : Obj → Led} {Q : Unit → Sg → Prop} (H : Hole x (excO C none fs) σ.led g)
    (hs : findIn (hd.heap_39 w.params) (.ref C) "__setattr__" = some (some (.builtin "object.__setattr__"))) (hC : (hd.heap_39 w.params).lookup C = some ⟨oc, od, .cls cd, sl⟩) (hm : cd.mro = [.ref a, .ref b, .type "Exception", .type "BaseException", .type "object"]) (ht : takerIn (hd.heap_39 w.params) C name = some none) (hh : hasDictIn (hd.heap_39 w.params) C = true)
    (h : ∀ D tk, Q () { σ with led := (D, dictOf [ent w.params name tk v] 1) :: g (excO C (some D) fs) }) : W S σ (setAttr (.ref x) name v) Q E := fun s y => by
  have hx := y.led _ H.mem
  have I : InstAt s.heap x (excO C none fs) C none := ⟨hx, rfl, rfl, trivial⟩
  refine set_plain y.KIn I hs (osa_open2 (s := { s with toks := s.toks + 1 }) y.KIn I hC hm ht fun b => ?_)
  obtain ⟨cd, hc, hd'⟩ := any_some hh
  refine wpAny_bind (wpAny_pure (wpAny_bind (wpAny_bind (wpAny_loadPart hx (wpAny_bind (looks_clsIn y.KIn hc _ _ _ _ (fun _ _ e => e) ?_))))))
  rw [hd']
  have x1 : St S _ (s.heap.push { cls := .type "dict", data := .dict #[] }) := y.alloc (o := { cls := .type "dict", data := .dict #[] }) rfl
  have hx1 := x1.led _ (.tail _ H.mem)
  refine wpAny_bind (wpAny_alloc' ?_)
  refine wpAny_bind (wpAny_update' hx1 ?_)
  have x2 := x1.put (o' := excO C (some s.heap.objs.size) fs) (.tail H) (Heap.SameBut.update ..) (Heap.get?_update_self (fun o => { o with dict := some s.heap.objs.size }) hx1 rfl)
  refine wpAny_pure (wpAny_bind (wpAny_pure (wpAny_bind ?_)))
  have D2 := x2.led _ (.head _)
  unfold nsSet
  refine wpAny_bind (wpAny_bind (wpAny_askSetting (wpAny_pure (wpAny_bind (wpAny_mkText (wpAny_bind (wpAny_loadPart D2 ?_)))))))
  dsimp only
  rw [aRefKeyMayBeTheName_at]
  rw [show (!(#[] : Array DictEntry).any (fun x => x.key.isStr name) && (#[] : Array DictEntry).any (fun x => x.refKey)) = false by simp]
  refine wpAny_updatePart D2 ?_
  have e3 : Obj.putName name (PyData.keyHash w.params name) (.str name (s.toks + 1)) v (dictOf [] 0) = dictOf [ent w.params name (s.toks + 1) v] 1 := putName_dict _ _ _ _ _ _
  have x3 := x2.put (o' := dictOf [ent w.params name (s.toks + 1) v] 1) Hole.head (Heap.SameBut.update ..) (by rw [← e3]; exact Heap.get?_update_self (Obj.putName name (PyData.keyHash w.params name) (.str name (s.toks + 1)) v) D2 (by show (Obj.putName name _ _ v (dictOf [] 0)).isFreed = false; rw [e3]; rfl))
  refine wpAny_bind (wpAny_lookBehind (x3.led _ (.head _)) (pastItsLine_dict (Nat.le_of_ble_eq_true rfl)) ?_)
  exact wpAny_pure ⟨_, _, _, rfl, x3, h _ _⟩
theorem w_setA1 {cd : ClassData} {oc : Value} {od : Option Addr} {sl : Array (Option Value)} {a b : Addr} {x dx C : Addr} {fs : Array Value} {es : List DictEntry} {n : Nat} {name : Str} {v : Value} {g : Obj → Led} {Q : Unit → Sg → Prop} (hx : (x, excO C (some dx) fs) ∈ σ.led) (H : Hole dx (dictOf es n) σ.led g)
    (hs : findIn (hd.heap_39 w.params) (.ref C) "__setattr__" = some (some (.builtin "object.__setattr__"))) (hC : (hd.heap_39 w.params).lookup C = some ⟨oc, od, .cls cd, sl⟩) (hm : cd.mro = [.ref a, .ref b, .type "Exception", .type "BaseException", .type "object"]) (ht : takerIn (hd.heap_39 w.params) C name = some none) (hh : hasDictIn (hd.heap_39 w.params) C = true)
    (hl : getL name es = some none) (hr : es.any (·.refKey) = false) (hz : es.length ≤ 100)
    (h : ∀ tk, Q () { σ with led := g (dictOf (es ++ [ent w.params name tk v]) (n + 1)) }) : W S σ (setAttr (.ref x) name v) Q E := fun s y => by
  have hx' := y.led _ hx
  have D2 := y.led _ H.mem
  have I : InstAt s.heap x (excO C (some dx) fs) C (some (dictOf es n)) := ⟨hx', rfl, rfl, D2⟩
  refine set_plain y.KIn I hs (osa_open2 (s := { s with toks := s.toks + 1 }) y.KIn I hC hm ht fun b => ?_)
  obtain ⟨cd, hc, hd'⟩ := any_some hh
  refine wpAny_bind (wpAny_pure (wpAny_bind (wpAny_bind (wpAny_loadPart hx' (wpAny_bind (looks_clsIn y.KIn hc _ _ _ _ (fun _ _ e => e) ?_))))))
  rw [hd']
  refine wpAny_pure (a := some dx) (wpAny_bind (wpAny_pure (wpAny_bind ?_)))
  unfold nsSet
  refine wpAny_bind (wpAny_bind (wpAny_askSetting (wpAny_pure (wpAny_bind (wpAny_mkText (wpAny_bind (wpAny_loadPart D2 ?_)))))))
  dsimp only
  rw [aRefKeyMayBeTheName_at]
  rw [show (!(es.toArray).any (fun x => x.key.isStr name) && (es.toArray).any (fun x => x.refKey)) = false by rw [← Array.any_toList (as := es.toArray) (p := fun x => x.refKey), List.toList_toArray, hr, Bool.and_false]]
  refine wpAny_updatePart D2 ?_
  have e3 : Obj.putName name (PyData.keyHash w.params name) (.str name (s.toks + 1)) v (dictOf es n) = dictOf (es ++ [ent w.params name (s.toks + 1) v]) (n + 1) := by
    have e := putL_new (name := name) (hsh := PyData.keyHash w.params name) (key := .str name (s.toks + 1)) (v := v) hl
    rw [putName_dict, e.1, e.2]
  have x3 := y.put (o' := dictOf (es ++ [ent w.params name (s.toks + 1) v]) (n + 1)) H (Heap.SameBut.update ..) (by rw [← e3]; exact Heap.get?_update_self (Obj.putName name (PyData.keyHash w.params name) (.str name (s.toks + 1)) v) D2 (by rw [e3]; rfl))
  refine wpAny_bind (wpAny_lookBehind (x3.led _ H.mem') (pastItsLine_dict (by simp [sizeLine_eq]; omega)) ?_)
  exact wpAny_pure ⟨_, _, _, rfl, x3, h _⟩
/-- Exception.__init__, reached through the class -/
theorem w_excInitM {pl : Sem Bool} {Q : Value × List Value → Sg → Prop} (e : findCls (hd.heap_39 w.params) (.type "Exception") (.type "type") "__init__" = some (.val (.builtin "Exception.__init__")))
    (h : Q (.builtin "Exception.__init__", []) σ) : W S σ (getMethod (.type "Exception") "__init__" pl) Q E := fun s y => by
  obtain ⟨f, hid, F, N, ap, back⟩ := y.bridge
  exact method_type F S.X (by kernel_rfl) (by decide +kernel) e (by decide +kernel) ⟨σ, s.heap, _, rfl, y, h⟩
theorem w_excInit {cd : ClassData} {oc : Value} {od : Option Addr} {sl : Array (Option Value)} {x C : Addr} {a0 : Value} {t : Tok} {m : Str} {g : Obj → Led} {Q : Value → Sg → Prop} (H : Hole x (excO C none #[a0, .none, .none, .none, .bool false, .none]) σ.led g) (hm : mroIn (hd.heap_39 w.params) C (.type "Exception") = some true) (hC : (hd.heap_39 w.params).lookup C = some ⟨oc, od, .cls cd, sl⟩)
    (h : ∀ T, Q .none { σ with led := (T, tupObj [.str m t]) :: g (excO C none #[.ref T, .none, .none, .none, .bool false, .none]) }) : W S σ (call (.builtin "Exception.__init__") [.ref x, .str m t]) Q E := fun s y => by
  have F := PySem.F.excBase_Exception
  have hx := y.led _ H.mem
  have I : InstAt s.heap x (excO C none #[a0, .none, .none, .none, .bool false, .none]) C none := ⟨hx, rfl, rfl, trivial⟩
  have sub : Looks (model PG w) s.heap (isInstance (.ref x) (.type "Exception")) true := I.type.andThen (looks_mroIn y.KIn hm)
  have hchk : wpAny (model PG w) S.A.in1 (checkBuiltinCall "Exception.__init__" ⟨[.ref x, .str m t], []⟩) (fun _ s' => s' = s) (fun _ _ => False) s := by
    have hshort := F.noStar
    have hC' := y.KIn _ _ hC
    simp only [checkBuiltinCall, F.initKind, F.initSplit, F.initRow]
    refine wpAny_bind (sub.here ?_)
    simp only [Bool.not_true, Bool.false_eq_true, if_false]
    repeat (any_goals (first | (with_reducible refine wpAny_loadPart_at hx ?_) | (with_reducible refine wpAny_loadPart_at hC' ?_) | assumption | wp_step))
    rfl
  refine wpAny_call (codeAny_call_builtin F.init.plain F.initEntry (wpAny_mono hchk (fun _ s' e => ?_) fun _ _ z => z.elim))
  subst e
  unfold Builtin.«BaseException.__init__»
  show wpAny (model PG w) S.A.in1 (do
    let T ← newTuple [.str m t]
    Builtin.BaseException.bexcPut (.ref x) 0 T
    ret .none) _ _ _
  have x1 : St S { σ with led := (s'.heap.objs.size, tupObj [.str m t]) :: σ.led } _ := y.alloc rfl
  refine wpAny_bind (wpAny_newObj_type ?_)
  unfold Builtin.BaseException.bexcPut
  have hx1 := x1.led _ (.tail _ H.mem)
  refine wpAny_bind (wpAny_bind (wpAny_field hx1 rfl rfl (wpAny_bind (wpAny_setField hx1 rfl (Nat.le_of_ble_eq_true rfl) ?_))))
  have x2 := x1.put (o' := excO C none #[.ref s'.heap.objs.size, .none, .none, .none, .bool false, .none]) (.tail H) (Heap.SameBut.update ..) (Heap.get?_update_self (Obj.mapFields (·.setIfInBounds 0 (Value.ref s'.heap.objs.size))) hx1 rfl)
  have fin : ∀ E', wpAny (model PG w) S.A.in1 (match a0 with | .ref a => letGo [a0] | _ => Pure.pure ()) (fun _ s₂ => s₂ = ⟨(s'.heap.push (tupObj [.str m t])).update x (Obj.mapFields (·.setIfInBounds 0 (Value.ref s'.heap.objs.size))), s'.gens, s'.drawn, s'.toks, s'.os⟩) E' _ := fun E' => by
    split
    · exact wpAny_letGo rfl
    · exact wpAny_pure rfl
  refine wpAny_mono (fin _) (fun _ s₂ e => ?_) fun _ _ z => z
  subst e
  exact wpAny_pure ⟨_, _, _, rfl, x2, h _⟩
end
end
end Mine
namespace Mine
section
open Builtin Builtin.ObjectAttr
noncomputable section
variable {w : World} {fn : Fn} {S : Sit w fn} {σ : Sg} {α β : Type} {E : Value → Heap → Prop}

section
variable {A : Around} {h : Heap} {gg : Array GenState} {d : Drawn} {t : Nat} {os : OsState} {E : Value → Shared → Prop}
theorem exc_check_new {nm q : Str} {C N : Addr} {bs bm : List Value} {sub : List Value} {k0 k1 k2 k3 k5 : Option Value} {rest : List Value} {Q : Unit → Shared → Prop} (hC : h.get? C = some (excClassObj nm q C N bs bm true [] sub false none none k0 k1 k2 k3 k5 "Exception.__new__"))
    (hB : bm.contains (.type "Exception") = true) (hq : Q () ⟨h, gg, d, t, os⟩) : wpAny (model PG w) A (checkBuiltinCall "Exception.__new__" ⟨.ref C :: rest, []⟩) Q E ⟨h, gg, d, t, os⟩ := by
  have F := PySem.F.excBase_Exception
  have hcont : (Value.ref C :: bm).contains (.type "Exception") = true := by rw [List.contains_cons, hB, Bool.or_true]
  have hstar := F.noStar
  simp only [checkBuiltinCall, F.newKind, F.newSplit, F.newRow]
  repeat (first | refine wpAny_loadPart_at hC ?_ | (refine wpAny_isSubtype_exc hC ?_; rw [hcont]) | refine wpAny_staticBase_exc hC ?_ | refine wpAny_madeBy_exc hC ?_ | simp only [bne_self_eq_false, Bool.false_eq_true, if_false] | wp_step)
  exact hq
theorem exc_new {nm q : Str} {C N : Addr} {bs bm : List Value} {sub : List Value} {k0 k1 k2 k3 k5 : Option Value} {rest : List Value} {R : Result → Shared → Prop} (hC : h.get? C = some (excClassObj nm q C N bs bm true [] sub false none none k0 k1 k2 k3 k5 "Exception.__new__"))
    (hB : bm.contains (.type "Exception") = true) (hA : bm.contains (.type "AttributeError") = false) (hN : bm.contains (.type "NameError") = false)
    (hq : R (.ok (.ret (.ref (h.objs.size + 1)))) ⟨(h.push (tupObj rest)).push (excO C none #[.ref h.objs.size, .none, .none, .none, .bool false, .none]), gg, d, t, os⟩) (hrest : rest.length ≤ sizeLine) :
    codeAny (model PG w) A (.builtin "Exception.__new__" ⟨.ref C :: rest, []⟩) R ⟨h, gg, d, t, os⟩ := by
  have F := PySem.F.excBase_Exception
  have hends := F.ends
  have hcB : (Value.ref C :: bm).contains (.type "Exception") = true := by rw [List.contains_cons, hB, Bool.or_true]
  have hcA : (Value.ref C :: bm).contains (.type "AttributeError") = false := by rw [List.contains_cons, hA]; rfl
  have hcN : (Value.ref C :: bm).contains (.type "NameError") = false := by rw [List.contains_cons, hN]; rfl
  refine codeAny_builtinAt F.entry ?_
  unfold Builtin.«BaseException.__new__»
  refine PySem.wpAt_bind ?_
  show PySem.wpAt _ _ _ (stack >>= _) _ _ _
  refine PySem.wpAt_bind (PySem.wpAt_stack fun p below => PySem.wpAt_of_wpAny ?_)
  wp_walk
  refine PySem.wpAt_of_wpAny ?_
  rw [F.owner]
  repeat (first | with_reducible refine wpAny_madeHere_exc F.canon hC ?_ | with_reducible refine wpAny_loadPart_at hC ?_ | (with_reducible refine wpAny_isSubtype_exc hC ?_; first | rw [hcB] | rw [hcA] | rw [hcN]) | wp_step)
  show R _ _
  rw [Heap.size_push]
  exact hq
end
end
end
end Mine
namespace Mine
section
open Builtin Builtin.ObjectAttr
noncomputable section
variable {w : World} {fn : Fn} {S : Sit w fn} {σ : Sg} {α β : Type} {E : Value → Heap → Prop}

theorem exc_type_call {A : Around} {h : Heap} {gg : Array GenState} {d : Drawn} {t : Nat} {os : OsState} {E : Value → Shared → Prop} {nm q : Str} {C N fI : Addr} {bs bm : List Value} {sub : List Value} {k0 k1 k2 k3 k5 : Option Value} {rest : List Value} {oI : Obj} {Q : PySem.Fin → Shared → Prop}
    (hC : h.get? C = some (excClassObj nm q C N bs bm true [] sub false none none k0 k1 k2 k3 k5 "Exception.__new__"))
    (hB : bm.contains (.type "Exception") = true) (hA : bm.contains (.type "AttributeError") = false) (hN : bm.contains (.type "NameError") = false)
    (hi : Looks (model PG w) h (typeLookup (.ref C) "__init__") (some (.ref fI))) (hfI : h.get? fI = some oI) (hfc : oI.cls = .type "function") (hrest : rest.length ≤ sizeLine)
    (hq : wpAny (model PG w) A (call (.ref fI) (.ref (h.objs.size + 1) :: rest)) (fun r s' => r = .none ∧ Q (.done (.ret (.ref (h.objs.size + 1)))) s') E ⟨(h.push (tupObj rest)).push (excO C none #[.ref h.objs.size, .none, .none, .none, .bool false, .none]), gg, d, t, os⟩) :
    wpAny (model PG w) A (Builtin.«type.__call__» ⟨.ref C :: rest, []⟩) Q E ⟨h, gg, d, t, os⟩ := by
  have F := PySem.F.excBase_Exception
  repeat (first | with_reducible refine wpAny_loadPart_at hC ?_ | with_reducible refine wpAny_madeBy_exc hC ?_ | wp_step)
  refine codeAny_call_builtin_code (Code.quiet_builtin _ F.quiet) (exc_check_new hC hB ?_)
  refine exc_new hC hB hA hN ?_ hrest
  show wpAny _ _ _ _ _ _
  have k : ∀ b o, h.get? b = some o → ((h.push (tupObj rest)).push (excO C none #[.ref h.objs.size, .none, .none, .none, .bool false, .none])).get? b = some o := fun b o e => Heap.get?_push_of_some _ (Heap.get?_push_of_some _ e)
  have hC₁ := k _ _ hC
  have hfI₁ := k _ _ hfI
  have hi₁ := hi.keeps k
  have hget : ((h.push (tupObj rest)).push (excO C none #[.ref h.objs.size, .none, .none, .none, .bool false, .none])).get? (h.objs.size + 1) = some (excO C none #[.ref h.objs.size, .none, .none, .none, .bool false, .none]) := by heap_get
  have hcC : (Value.ref C :: bm).contains (.ref C) = true := by simp
  unfold isInstance
  repeat (first | with_reducible refine wpAny_loadPart_at hget ?_ | (with_reducible refine wpAny_isSubtype_exc hC₁ ?_; rw [hcC]) | wp_step)
  refine hi₁ _ _ _ _ (fun _ _ e => e) ?_
  refine wpAny_holding (wpAny_bind ?_)
  unfold bindSpecial
  refine wpAny_bind (wpAny_typeOf (T := "function") ⟨_, hfI₁, hfc⟩ ?_)
  rw [if_pos (by decide)]
  refine wpAny_pure (wpAny_bind (wpAny_mono hq (fun r s' hr => ?_) fun _ _ x => x))
  obtain ⟨rfl, hQ⟩ := hr
  wp_walk
  exact hQ
theorem exc_call {A : Around} {h : Heap} {gg : Array GenState} {d : Drawn} {t : Nat} {os : OsState} {E : Value → Shared → Prop} {nm q : Str} {C N fI : Addr} {bs bm : List Value} {sub : List Value} {k0 k1 k2 k3 k5 : Option Value} {rest : List Value} {oI : Obj} {Q : Value → Shared → Prop}
    (hC : h.get? C = some (excClassObj nm q C N bs bm true [] sub false none none k0 k1 k2 k3 k5 "Exception.__new__"))
    (hB : bm.contains (.type "Exception") = true) (hA : bm.contains (.type "AttributeError") = false) (hN : bm.contains (.type "NameError") = false)
    (hi : Looks (model PG w) h (typeLookup (.ref C) "__init__") (some (.ref fI))) (hfI : h.get? fI = some oI) (hfc : oI.cls = .type "function") (hrest : rest.length ≤ sizeLine)
    (hq : wpAny (model PG w) (A.under (.builtin "type.__call__" ⟨.ref C :: rest, []⟩)) (call (.ref fI) (.ref (h.objs.size + 1) :: rest)) (fun r s' => r = .none ∧ Q (.ref (h.objs.size + 1)) s') E ⟨(h.push (tupObj rest)).push (excO C none #[.ref h.objs.size, .none, .none, .none, .bool false, .none]), gg, d, t, os⟩) :
    wpAny (model PG w) A (call (.ref C) rest) Q E ⟨h, gg, d, t, os⟩ := by
  have f1 := tc_lookup
  have f2 := tc_bind (.ref C)
  have hT : (⟨h, gg, d, t, os⟩ : Shared).TypeIs (.ref C) "type" := ⟨_, hC, rfl⟩
  refine wpAny_call (codeAny_of_tree ?_)
  show wpAny _ _ (callAny (.ref C) _) _ _ _
  repeat (any_goals (first | assumption | with_reducible refine wpAny_loadPart_at hC ?_ | wp_step))
  refine ⟨rfl, ?_⟩
  refine codeAny_call_builtin_at (Code.quiet_builtin _ (by decide +kernel)) entry_typeCall (wpAny_check_type_call_sub hC (exc_type_call hC hB hA hN hi hfI hfc hrest ?_))
  exact hq
theorem w_newExc {C fI N : Addr} {nm q : Str} {bs bm : List Value} {sub : List Value} {k0 k1 k2 k3 k5 : Option Value} {name qual : Str} {params : Arguments} {body : List Stmt} {scope : Scope} {dV kV doc pm cdv ct oc : Value} {an od : Option Addr} {osl : Array (Option Value)} {vs : List Value} (mm : Addr → Loc) {Q : Value → Sg → Prop}
    (hC : (hd.heap_39 w.params).lookup C = some (excClassObj nm q C N bs bm true [] sub false none none k0 k1 k2 k3 k5 "Exception.__new__"))
    (hB : bm.contains (.type "Exception") = true) (hA : bm.contains (.type "AttributeError") = false) (hN : bm.contains (.type "NameError") = false)
    (hi : findIn (hd.heap_39 w.params) (.ref C) "__init__" = some (some (.ref fI))) (hoc : oc = .type "function")
    (ho : (hd.heap_39 w.params).lookup fI = some ⟨oc, od, .func (fnOf name qual params body scope dV kV doc pm an cdv ct), osl⟩) (hcd : codeIn (hd.heap_39 w.params) cdv qual = true) (hroom : S.dp + 1 < recursionLimit) (hz : vs.length ≤ sizeLine)
    (hbind : ∀ x, ∀ s : Shared, (hd.heap_39 w.params).In s.heap → BindsTo s (fnOf name qual params body scope dV kV doc pm an cdv ct) ⟨.ref x :: vs, []⟩ (mm x).reverse)
    (hkind : ∀ x, ((mm x).reverse.all fun y => scope.names.lookup y.1 == some .local || scope.names.lookup y.1 == some .cell) = true) (hnd : CellsNd scope)
    (hco : scope.isCoroutine = false) (hgen : scope.isGenerator = false) (hk : scope.kind = .function)
    (h : ∀ x T, ∀ S' : Sit w ⟨qual, scope, fI, cdv⟩, S'.dp = S.dp + 2 → W S' ⟨mm x, [], (x, excO C none #[.ref T, .none, .none, .none, .bool false, .none]) :: (T, tupObj vs) :: σ.led⟩ (execs body S'.env) (fun fl σ' => retOf fl = .none ∧ Q (.ref x) { σ with led := σ'.led }) (fun _ _ => False)) :
    W S σ (call (.ref C) vs) Q E := fun s x => by
  obtain ⟨hh, g, d, tk, os⟩ := s
  have x2 : St S _ _ := (x.alloc (o := tupObj vs) rfl).alloc (o := excO C none #[.ref hh.objs.size, .none, .none, .none, .bool false, .none]) rfl
  rw [Heap.size_push] at x2
  refine exc_call (x.KIn _ _ hC) hB hA hN (looks_findIn x.KIn hi) (x.KIn _ _ ho) hoc hz ?_
  have key : W (S.at (S.dp + 1) (S.un + 1)) { σ with led := (hh.objs.size + 1, excO C none #[.ref hh.objs.size, .none, .none, .none, .bool false, .none]) :: (hh.objs.size, tupObj vs) :: σ.led } (call (.ref fI) (.ref (hh.objs.size + 1) :: vs)) (fun v σ' => v = .none ∧ Q (.ref (hh.objs.size + 1)) σ') (fun _ _ => False) :=
    W.callDef (mm (hh.objs.size + 1)) ho hcd hroom (hbind _) (hkind _) hnd hco hgen hk fun S' a b => h _ _ S' a
  exact key.noRaise (s := ⟨_, g, d, tk, os⟩) x2.at fun v σ' h' tk' st q => ⟨q.1, σ', h', tk', rfl, st.unat, q.2⟩
end
end
end Mine
namespace Mine
section
open Builtin Builtin.ObjectAttr
noncomputable section
variable {w : World} {fn : Fn} {S : Sit w fn} {σ : Sg} {α β : Type} {E : Value → Heap → Prop}

abbrev excX (C : Addr) (d : Option Addr) (a0 : Value) : Obj := excO C d #[a0, .none, .none, .none, .bool false, .none]
/-- a raise of an own exception -/
theorem w_Raise {env : Env} {C N : Addr} {nm q : Str} {bs bm : List Value} {sub : List Value} {k0 k1 k2 k3 k5 : Option Value} {e : Expr} {pos : Pos} {Q : Flow → Sg → Prop}
    (hC : (hd.heap_39 w.params).lookup C = some (excClassObj nm q C N bs bm true [] sub false none none k0 k1 k2 k3 k5 "Exception.__new__"))
    (hB : bm.contains (.type "BaseException") = true)
    (h : W S σ (eval e env) (fun v σ₁ => ∃ x d a0, v = .ref x ∧ (x, excX C d a0) ∈ σ₁.led ∧ ∀ h', St S σ₁ h' → E (.ref x) h') E) : W S σ (exec (.Raise (some e) none pos) env) Q E := fun s y => by
  rw [arm_exec_Raise]
  refine wpAny_bind (wpAny_standAt ?_)
  show wpAny _ _ (raiseStmt env (some (do let v ← eval e env; PySem.standAt pos; Pure.pure v)) none) _ _ _
  unfold raiseStmt
  refine wpAny_bind (wpAny_bind (wpAny_mono (h s y) (fun v s₁ h₁ => ?_) fun _ _ z => z))
  obtain ⟨σ', h', tk', rfl, y', x, d, a0, rfl, hx, hE⟩ := h₁
  refine wpAny_bind (wpAny_standAt (wpAny_pure ?_))
  have he := y'.led _ hx
  have hC' := y'.KIn _ _ hC
  have hcB : (Value.ref C :: bm).contains (.type "BaseException") = true := by rw [List.contains_cons, hB, Bool.or_true]
  repeat (first | with_reducible refine wpAny_loadPart_at he ?_ | with_reducible refine wpAny_loadPart_at hC' ?_ | (with_reducible refine wpAny_isSubtype_exc hC' ?_; rw [hcB]) | wp_step)
  exact wpAny_raiseNew_none rfl ⟨h', tk', rfl, hE _ y'⟩

abbrev frs (l : List Env) : List Addr := l.filterMap (·.frame)
/-- made, not yet in flight -/
def MadeE (P : Led → Prop) (S : Sit w fn) (e : Value) (h : Heap) : Prop :=
  ∃ x D a0 m b led, e = .ref x ∧ St S ⟨m, b, (x, excX 59 D a0) :: led⟩ h ∧ P led
def Core (P : Led → Prop) (S : Sit w fn) (h1 : Heap) (B : Heap) (h : Heap) : Prop :=
  ∃ (m : Loc) (b : List (Addr × BlkE)) (led : Led) (fr : List Addr), St S ⟨m, b, led⟩ h1 ∧ P led ∧ (∀ b o, h1.get? b = some o → b ∉ fr → B.get? b = some o) ∧ (∀ p ∈ led, p.1 ∉ fr) ∧ (∀ b o, S.h₀.get? b = some o → b ∈ fr → b ∈ frs S.outer) ∧ h1.UpToSlots h
/-- in flight, in this frame -/
def FlyE (P : Led → Prop) (S : Sit w fn) (e : Value) (h : Heap) : Prop := ∃ x h1 B a0, e = .ref x ∧ Core P S h1 B h ∧ Heap.FlyingW B (S.env :: S.outer) x (.ref 59) a0 h
def HeldE (P : Led → Prop) (S : Sit w fn) (e : Value) (h : Heap) : Prop := ∃ x h1 B a0, e = .ref x ∧ Core P S h1 B h ∧ Heap.HeldW B (S.env :: S.outer) x (.ref 59) a0 S.L h
theorem Core.up {P : Led → Prop} {h1 B h h' : Heap} (c : Core P S h1 B h) (u : h.UpToSlots h') : Core P S h1 B h' :=
  let ⟨m, b, led, fr, q1, q0, q2, q3, q4, q5⟩ := c; ⟨m, b, led, fr, q1, q0, q2, q3, q4, q5.trans u⟩
theorem St.Fr {h : Heap} (x : St S σ h) : ∃ f, Fr S.h₀ S.L h f := let ⟨f, hn, _⟩ := x.fr; ⟨f, hn, x.keep, S.above⟩
theorem St.notLed {h : Heap} (x : St S σ h) {b : Addr} {o : Obj} (e : S.h₀.get? b = some o) : b ∉ σ.led.map (·.1) := fun q => by
  have := x.fresh b (by unfold own; exact .tail _ (List.mem_append_right _ (List.mem_append_right _ q)))
  rw [e] at this; cases this
theorem St.notL {h : Heap} (x : St S σ h) {b : Addr} {o : Obj} (e : S.h₀.get? b = some o) : b ≠ S.L := fun q => by
  have := x.fresh S.L (by unfold own; exact .head _)
  rw [← q, e] at this; cases this
/-- what the caller's ground says of the callee's -/
theorem St.into {h : Heap} {fn' : Fn} {S' : Sit w fn'} (x : St S σ h) (e : S'.h₀ = hideAll h (σ.led.map (·.1))) {b : Addr} {o : Obj} (hb : S.h₀.get? b = some o) : S'.h₀.get? b = some o := by
  rw [e]; exact hideAll_get _ (x.keep b o hb) (x.notLed hb)
theorem FunFrames.of_mem {h base : Heap} : ∀ {l : List Env}, h.FunFrames base l → ∀ {as : List Addr}, (∀ env ∈ l, ∀ a, env.frame = some a → a ∈ as) → ∀ {h' : Heap}, (∀ b o, h.get? b = some o → h'.get? b = some o) → h'.FunFrames (hideAll h' as) l
  | [], _, _, _, _, _ => trivial
  | env :: _, ⟨hk, ⟨L, o, hf, _, ho, hd⟩, hr⟩, _, hin, _, k => ⟨hk, ⟨L, o, hf, hideAll_none _ (hin env (.head _) L hf), k _ _ ho, hd⟩, FunFrames.of_mem hr (fun e he => hin e (.tail _ he)) k⟩
theorem leaves_made {P : Led → Prop} {fn' : Fn} {S' : Sit w fn'} {h : Heap} {s' : Shared} {e : Value} {E' : Value → Shared → Prop} (ho : S'.outer = S.env :: S.outer) (hh : S'.h₀ = hideAll h (σ.led.map (·.1))) (x : St S σ h) (m : MadeE P S' e s'.heap) :
    wpAny (model PG w) S'.A (leaving S'.env e) (fun _ s'' => ∃ h' tk', s'' = { s' with heap := h', toks := tk' } ∧ FlyE P S e h') E' s' := by
  obtain ⟨y, D, a0, mm, b, led, rfl, z, hP⟩ := m
  obtain ⟨f, F⟩ := z.Fr
  have fr0 : S'.h₀.FunFrames S'.base S'.outer := S'.B.frames
  have hin : ∀ env ∈ (S'.env :: S'.outer), ∀ a, env.frame = some a → a ∈ y :: frs (S'.env :: S'.outer) := fun env he a ha => .tail _ (List.mem_filterMap.mpr ⟨env, he, ha⟩)
  have hfr : s'.heap.FunFrames (hideAll s'.heap (y :: frs (S'.env :: S'.outer))) (S'.env :: S'.outer) := by
    obtain ⟨⟨ob, es, ep, hob, hd, _⟩⟩ : Nonempty (s'.heap.Ns S'.L f) := ⟨F.ns⟩
    refine ⟨by show fn'.cs.kind ≠ .module; rw [S'.hk]; decide, ⟨S'.L, ob, rfl, hideAll_none _ (hin _ (.head _) _ rfl), hob, fun vs q => by rw [hd] at q; cases q⟩, ?_⟩
    exact FunFrames.of_mem fr0 (fun env he => hin env (.tail _ he)) fun b o e => z.keep b o e
  refine wpAny_leaving_firstW (base := hideAll s'.heap (y :: frs (S'.env :: S'.outer))) (outer := S'.outer) (L := S'.L) rfl hfr rfl (z.led _ (.head _)) (fun b o q => of_hideAll _ q) (hideAll_none _ (.head _)) rfl rfl rfl fun h' hL => ?_
  obtain ⟨k1, ⟨_, _, k2⟩, k3, k4⟩ := hL
  refine ⟨h', s'.toks, rfl, y, s'.heap, _, a0, rfl, ?_, k1, hideAll_none _ (.head _), ho ▸ k2, k3⟩
  have zb := x.back (S' := S') hh z
  have zs : St S ⟨σ.m, σ.blk, led⟩ s'.heap := zb.sub (led' := led) (List.sublist_cons_self _ _)
  refine ⟨_, _, led, y :: frs (S'.env :: S'.outer), zs, hP, fun b o q nm => hideAll_get _ q nm, fun p hp q => ?_, fun b o q hb => ?_, k4⟩
  · have nd := z.ledNodup
    rcases List.mem_cons.mp q with q | q
    · exact (List.nodup_cons.mp nd).1 (List.mem_map.mpr ⟨p, hp, q⟩)
    · rcases List.mem_filterMap.mp q with ⟨env, he, hf⟩
      rcases List.mem_cons.mp he with rfl | he
      · have : p.1 = S'.L := (Option.some.inj hf).symm
        have nd' := z.nodup
        unfold own at nd'
        exact (List.nodup_cons.mp nd').1 (List.mem_append_right _ (List.mem_append_right _ (List.mem_map.mpr ⟨p, .tail _ hp, this⟩)))
      · obtain ⟨_, o, ho', _⟩ := fr0.mem (List.mem_filterMap.mpr ⟨env, he, hf⟩)
        exact z.notLed ho' (List.mem_map.mpr ⟨p, .tail _ hp, rfl⟩)
  · rcases List.mem_cons.mp hb with rfl | hb
    · exact absurd (.head _) (zb.notLed q)
    · have q' := St.into (S' := S') x hh q
      rcases List.mem_filterMap.mp hb with ⟨env, he, hf⟩
      rcases List.mem_cons.mp he with rfl | he
      · exact absurd (Option.some.inj hf).symm (z.notL q')
      · rw [ho] at he
        rcases List.mem_cons.mp he with rfl | he
        · exact absurd (Option.some.inj hf).symm (x.notL q)
        · exact List.mem_filterMap.mpr ⟨env, he, hf⟩
theorem leaves_held {P : Led → Prop} {fn' : Fn} {S' : Sit w fn'} {h : Heap} {s' : Shared} {e : Value} {E' : Value → Shared → Prop} (ho : S'.outer = S.env :: S.outer) (hh : S'.h₀ = hideAll h (σ.led.map (·.1))) (x : St S σ h) (m : HeldE P S' e s'.heap) :
    wpAny (model PG w) S'.A (leaving S'.env e) (fun _ s'' => ∃ h' tk', s'' = { s' with heap := h', toks := tk' } ∧ FlyE P S e h') E' s' := by
  obtain ⟨y, h1, B, a0, rfl, ⟨mm, b, led, fr, z, hP, q2, q3, q4, q5⟩, hfl⟩ := m
  unfold leaving
  refine wpAny_bind (wpAny_noteFrame_againW (L := S'.L) rfl hfl.2.2.2 ?_)
  refine wpAny_landsW hfl fun h' x1 x2 => ?_
  obtain ⟨k1, k2, ⟨_, _, k3⟩, k4⟩ := x1
  refine ⟨h', s'.toks, rfl, y, h1, B, a0, rfl, ⟨_, _, led, fr, x.back (S' := S') hh z, hP, q2, q3, fun b o q hb => ?_, q5.trans x2⟩, k1, k2, ho ▸ k3, k4⟩
  have := q4 b o (St.into (S' := S') x hh q) hb
  rw [ho] at this
  rcases List.mem_filterMap.mp this with ⟨env, he, hf⟩
  rcases List.mem_cons.mp he with rfl | he
  · exact absurd (Option.some.inj hf).symm (x.notL q)
  · exact List.mem_filterMap.mpr ⟨env, he, hf⟩
end
end
end Mine
namespace Mine
section
open Builtin Builtin.ObjectAttr
noncomputable section
variable {w : World} {fn : Fn} {S : Sit w fn} {σ : Sg} {α β : Type} {E : Value → Heap → Prop}

/-- what a walk says of the whole -/
theorem W.runE {t : Sem α} {Q : α → Sg → Prop} (h : W S σ t Q E) {s : Shared} (x : St S σ s.heap) {Q' : α → Shared → Prop} {E' : Value → Shared → Prop} (hq : ∀ v σ' h' tk', St S σ' h' → Q v σ' → Q' v { s with heap := h', toks := tk' })
    (he : ∀ e h' tk', E e h' → E' e { s with heap := h', toks := tk' }) : wpAny (model PG w) S.A t Q' E' s :=
  wpAny_mono (h s x) (fun _ _ ⟨σ', h', tk', e, y, q⟩ => e ▸ hq _ σ' h' tk' y q) fun _ _ ⟨h', tk', e, f⟩ => e ▸ he _ h' tk' f
/-- in flight out of a loop of the frame's -/
theorem fly_held {P : Led → Prop} {s : Shared} {e : Value} (m : FlyE P S e s.heap) {Q : Value → Shared → Prop} (hq : ∀ h', HeldE P S e h' → Q e { s with heap := h' }) :
    notedBy (model PG w) S.A S.env (cameBackBy (model PG w) S.A S.env Q) e s := by
  obtain ⟨y, h1, B, a0, rfl, c, hfl⟩ := m
  unfold notedBy
  refine wpAny_looks_onW (L := S.L) rfl rfl hfl fun h' hh u => ?_
  unfold cameBackBy
  obtain ⟨f1, f2, f3, oe, vs, T, oT, ts, he, hcls, hd, h1', hnT, hTe, hT, hdT, h3⟩ := hh
  refine wpAny_bind (wpAny_field he hd h1' ?_)
  rw [if_neg (show ¬ (Value.ref T == Value.none) = true from by simp)]
  unfold setFlight
  refine wpAny_bind (wpAny_field he hd h1' ?_)
  rw [if_pos (show (Value.ref T != Value.none) = true from by simp)]
  have hsz3 : 3 < ts.size := (Array.getElem?_eq_some_iff.mp h3).1
  refine wpAny_setField hT hdT hsz3 (hq _ ?_)
  have other : ∀ b, b ≠ T → (h'.update T (Obj.mapFields (·.setIfInBounds 3 ((some S.L).elim Value.none fun f => rawInt f)))).get? b = h'.get? b := fun b hb => Heap.get?_update_other _ _ (Ne.symm hb)
  have noRecord : ∀ b o, h'.get? b = some o → (∀ vs, o.data ≠ .fields vs) → b ≠ T := fun b o hb hnf q => by
    rw [q, hT] at hb; injection hb with hb; subst hb; exact hnf ts hdT
  refine ⟨y, h1, B, a0, rfl, c.up (u.trans fun b o hb hnf => ⟨o.slots, (other b (noRecord b o hb hnf)).trans hb⟩), fun b o hbo => (other b fun q => by rw [q, hnT] at hbo; cases hbo).trans (f1 b o hbo), f2,
    f3.of_keeps fun b o hb hnf => ⟨o, (other b (noRecord b o hb hnf)).trans hb, rfl⟩, oe, vs, T, _, _, (other y (Ne.symm hTe)).trans he, hcls, hd, h1', hnT, hTe, Heap.get?_update_self _ hT (Obj.isFreed_of_fields (Obj.data_mapFields hdT _)), Obj.data_mapFields hdT _, by simp only [Array.getElem?_setIfInBounds, hsz3, if_true]; rfl⟩
theorem W.While0E {P : Led → Prop} {test : Expr} {body : List Stmt} {pos : Pos} {Q : Flow → Sg → Prop} (Inv : Nat → Loc → Led → Led → Prop) (n : Nat) (A F : Led) (hc : Cn σ.led A F) (h0 : Inv n σ.m A F)
    (turn : ∀ n m A F, Inv n m A F → W S ⟨m, σ.blk, A ++ F⟩ (isTrue test S.env (eval test S.env)) (fun b σ₁ => if b = true then W S σ₁ (execs body S.env) (fun f σ₂ => σ₂.blk = σ.blk ∧ match f with
      | .next => ∃ A' F' k, Cn σ₂.led A' F' ∧ k < n ∧ Inv k σ₂.m A' F'
      | .cont => ∃ A' F' k, Cn σ₂.led A' F' ∧ k < n ∧ Inv k σ₂.m A' F'
      | .brk => Q .next σ₂
      | .ret u => Q (.ret u) σ₂) (FlyE P S) else Q .next σ₁) (FlyE P S)) : W S σ (exec (.While test body [] pos) S.env) Q (HeldE P S) := fun s x => by
  refine wpAny_While (codeAny_whileLoop (fun n s' => ∃ m A F led h' tk', s' = { s with heap := h', toks := tk' } ∧ led.Perm (A ++ F) ∧ Inv n m A F ∧ St S ⟨m, σ.blk, led⟩ h') ?_ n ⟨σ.m, A, F, σ.led, s.heap, s.toks, rfl, hc.perm, h0, x⟩)
  rintro n s' ⟨m, A, F, led, h', tk', rfl, hp, inv, y⟩
  have y := y.perm hp
  refine (turn n m A F inv).runE (s := { s with heap := h', toks := tk' }) y (fun b σ₁ h₁ tk₁ y₁ q₁ => ?_) fun e h₁ tk₁ q => fly_held (s := { s with heap := h₁, toks := tk₁ }) q fun h₂ q₂ => ⟨h₂, tk₁, rfl, q₂⟩
  cases b with
  | false =>
    simp only [Bool.false_eq_true, if_false] at q₁ ⊢
    exact wpAny_execs_nil ⟨_, h₁, tk₁, rfl, y₁, q₁⟩
  | true =>
    simp only [if_true] at q₁ ⊢
    refine q₁.runE (s := { s with heap := h₁, toks := tk₁ }) y₁ (fun f σ₂ h₂ tk₂ y₂ q₂ => ?_) fun e h₂ tk₂ q => fly_held (s := { s with heap := h₂, toks := tk₂ }) q fun h₃ q₃ => ⟨h₃, tk₂, rfl, q₃⟩
    obtain ⟨m₂, b₂, led₂⟩ := σ₂
    obtain ⟨rfl, q₂⟩ := q₂
    cases f with
    | next => obtain ⟨A', F', k, hc', hk, i⟩ := q₂; exact ⟨k, hk, m₂, A', F', led₂, h₂, tk₂, rfl, hc'.perm, i, y₂⟩
    | cont => obtain ⟨A', F', k, hc', hk, i⟩ := q₂; exact ⟨k, hk, m₂, A', F', led₂, h₂, tk₂, rfl, hc'.perm, i, y₂⟩
    | brk => exact ⟨_, h₂, tk₂, rfl, y₂, q₂⟩
    | ret u => exact ⟨_, h₂, tk₂, rfl, y₂, q₂⟩
end
end
end Mine
namespace Mine
section
open Builtin Builtin.ObjectAttr
noncomputable section
variable {w : World} {fn : Fn} {S : Sit w fn} {σ : Sg} {α β : Type} {E : Value → Heap → Prop}

theorem code_def00 {name qual : Str} {params : Arguments} {body : List Stmt} {scope : Scope} {dV kV doc pm cdv ct oc : Value} {an od : Option Addr} {osl : Array (Option Value)} {f : Addr} {vs : List Value} {binds : Loc} {R : Result → Shared → Prop} {s : Shared} (x : St S σ s.heap)
    (ho : (hd.heap_39 w.params).lookup f = some ⟨oc, od, .func (fnOf name qual params body scope dV kV doc pm an cdv ct), osl⟩) (hcd : codeIn (hd.heap_39 w.params) cdv qual = true) (hroom : S.dp < recursionLimit)
    (hbind : ∀ s : Shared, (hd.heap_39 w.params).In s.heap → BindsTo s (fnOf name qual params body scope dV kV doc pm an cdv ct) ⟨vs, []⟩ binds)
    (hkind : (binds.all fun y => scope.names.lookup y.1 == some .local || scope.names.lookup y.1 == some .cell) = true) (hnd : CellsNd scope)
    (hco : scope.isCoroutine = false) (hgen : scope.isGenerator = false) (hk : scope.kind = .function)
    (h : ∀ S' : Sit w ⟨qual, scope, f, cdv⟩, S'.dp = S.dp + 1 → S'.un = S.un + 3 → S'.outer = S.env :: S.outer → S'.base = S.base → S'.h₀ = hideAll s.heap (σ.led.map (·.1)) → ∀ s₁ : Shared, (∃ h' tk', s₁ = { s with heap := h', toks := tk' }) → St S' ⟨binds.reverse, [], σ.led⟩ s₁.heap →
      wpAny (model PG w) S'.A (execs body S'.env) (fun fl s' => R (.ok (.ret (retOf fl))) s') (fun e s' => wpAny (model PG w) S'.A (leaving S'.env e) (fun _ s'' => R (.error e) s'') (fun e' s'' => R (.error e') s'') s') s₁) :
    codeAny (model PG w) S.A (.call (.ref f) ⟨vs, []⟩) R s := by
  obtain ⟨fL, hnL, hfL⟩ := x.fr
  have F : Fr S.h₀ S.L s.heap fL := ⟨hnL, x.keep, S.above⟩
  obtain ⟨FG, BG, st, _⟩ := groundX (R := fun _ _ => True) (A := S.A) S.B F x.news rfl rfl S.hk
  have XK := S.X.keeps x.keep
  have st' : ∀ b o, S.h₀.get? b = some o → (hideAll s.heap (σ.led.map (·.1))).get? b = some o := st
  refine codeAny_call_function (fd := fnOf name qual params body scope dV kV doc pm an cdv ct) hroom (XK _ _ ho) rfl hco hgen rfl (codeRec_of XK hcd) (hbind s XK _ _ _ _ ?_)
  have hkk : ∀ y ∈ binds, scope.names.lookup y.1 = some .local ∨ (scope.names.lookup y.1 = some .cell ∧ ((cellsFrom (s.heap.objs.size + 1) scope.names []).lookup y.1).isSome = true) := by
    exact kindsX hkind _
  refine wpAny_newFunctionEnv_cells hk hkk fun env' he s' z => ?_
  subst he
  refine ⟨(S.T.nolimit.keeps x.keep).keeps z.toInCall.keep, codeAny_func ?_⟩
  obtain ⟨h₁, tk, rfl, hk₁⟩ := z.done
  let S' : Sit w ⟨qual, scope, f, cdv⟩ := ⟨S.mean, S.mg, S.mb, S.dp + 1, S.un + 3, S.gd, s.heap.objs.size, S.env :: S.outer, S.A, S.base, hideAll s.heap (σ.led.map (·.1)), BG, S.X.keeps st', S.T.keeps st', hk, Nat.le_of_eq (hideAll_size _ _)⟩
  have hndc : (S'.cl.map (·.1)).Nodup := cellsFrom_names scope.names 0 (s.heap.objs.size + 1) [] [] rfl ▸ hnd
  have y : St S' ⟨binds.reverse, [], σ.led⟩ h₁ := by
    refine ⟨⟨_, z.toInCall.ns, fun n v e k => bindL_get _ _ _ _ e k⟩, ?_, ?_, fun _ hp => (nomatch hp), fun p hp => hk₁ _ _ (x.led p hp), fun b o e => hk₁ b o (of_hideAll _ e), ?_, ?_, x.low⟩
    · intro n v e k
      have hm : n ∈ binds.map (·.1) := by
        have := mem_of_lookup e
        exact List.mem_map.mpr ⟨_, List.mem_reverse.mp this, rfl⟩
      obtain ⟨p, hp, rfl⟩ := List.mem_map.mp hm
      rcases hkk p hp with q | ⟨_, q⟩
      · have k' : scope.names.lookup p.1 = some .cell := k
        rw [q] at k'; cases k'
      · obtain ⟨c, hc⟩ := Option.isSome_iff_exists.mp q
        refine ⟨c, hc, ?_⟩
        have := z.cell p.1 c hc
        have e2 : bindC (envOfC qual scope s.heap.objs.size f cdv).kindOf binds (fun _ => none) p.1 = some v := bindC_get _ _ _ _ e k
        exact e2 ▸ this
    · intro p hp
      exact ⟨_, z.cell p.1 p.2 (lookup_mem_nodup hndc hp)⟩
    · show (s.heap.objs.size :: ((cellsFrom (s.heap.objs.size + 1) scope.names []).map (·.2) ++ ([] ++ σ.led.map (·.1)))).Nodup
      have hled : ∀ b ∈ σ.led.map (·.1), b < s.heap.objs.size := fun b hb => by
        obtain ⟨p, hp, rfl⟩ := List.mem_map.mp hb; exact Heap.lt_size (x.led p hp)
      have hcell : ∀ b ∈ (cellsFrom (s.heap.objs.size + 1) scope.names []).map (·.2), s.heap.objs.size < b := fun b hb => by
        obtain ⟨p, hp, rfl⟩ := List.mem_map.mp hb; exact z.above p.1 p.2 hp
      have ndl : (σ.led.map (·.1)).Nodup := by
        have nd := x.nodup
        unfold own at nd
        exact (List.nodup_append.mp (List.nodup_append.mp (List.nodup_cons.mp nd).2).2.1).2.1
      refine List.nodup_cons.mpr ⟨fun q => ?_, List.nodup_append.mpr ⟨List.pairwise_map.mpr z.apart, ndl, fun a ha b hb q => ?_⟩⟩
      · rcases List.mem_append.mp q with q | q
        · exact Nat.lt_irrefl _ (hcell _ q)
        · exact Nat.lt_irrefl _ (hled _ q)
      · subst q
        exact Nat.lt_asymm (hcell a ha) (hled a hb)
    · intro a ha
      have ha' : a = s.heap.objs.size ∨ a ∈ (cellsFrom (s.heap.objs.size + 1) scope.names []).map (·.2) ∨ a ∈ σ.led.map (·.1) := by
        unfold own at ha
        rcases List.mem_cons.mp ha with rfl | ha
        · exact .inl rfl
        rcases List.mem_append.mp ha with ha | ha
        · exact .inr (.inl ha)
        · exact .inr (.inr ha)
      show (hideAll s.heap (σ.led.map (·.1))).get? a = none
      rcases ha' with rfl | ha' | ha'
      · exact none_of_ge (Nat.le_of_eq (hideAll_size _ _))
      · obtain ⟨p, hp, rfl⟩ := List.mem_map.mp ha'
        exact none_of_ge (by rw [hideAll_size]; exact Nat.le_of_lt (z.above p.1 p.2 hp))
      · exact hideAll_none _ ha'
  exact h S' rfl rfl rfl rfl rfl _ ⟨h₁, tk, rfl⟩ y

/-- a def whose one try catches what its call raises, and hands back True -/
theorem w_callTry {N : Addr} {nm q : Str} {bs bm : List Value} {sub : List Value} {k0 k1 k2 k3 k5 : Option Value} {name qual : Str} {params : Arguments} {tb rest : List Stmt} {X : Str} {np p1 p2 p3 p4 : Pos} {kc : Nat} {scope : Scope} {dV kV doc pm cdv ct oc : Value} {an od : Option Addr} {osl : Array (Option Value)} {f : Addr} {vs : List Value} {binds : Loc} {Q : Value → Sg → Prop} (P : Led → Prop)
    (hout : frs S.outer = []) (hC : (hd.heap_39 w.params).lookup 59 = some (excClassObj nm q 59 N bs bm true [] sub false none none k0 k1 k2 k3 k5 "Exception.__new__")) (hB : bm.contains (.type "BaseException") = true)
    (ho : (hd.heap_39 w.params).lookup f = some ⟨oc, od, .func (fnOf name qual params (.Try tb [.ExceptHandler (some (.Name X np)) none [.Return (some (.Constant (.bool true) kc p1)) p2] p3] [] [] p4 :: rest) scope dV kV doc pm an cdv ct), osl⟩) (hcd : codeIn (hd.heap_39 w.params) cdv qual = true) (hroom : S.dp < recursionLimit)
    (hbind : ∀ s : Shared, (hd.heap_39 w.params).In s.heap → BindsTo s (fnOf name qual params (.Try tb [.ExceptHandler (some (.Name X np)) none [.Return (some (.Constant (.bool true) kc p1)) p2] p3] [] [] p4 :: rest) scope dV kV doc pm an cdv ct) ⟨vs, []⟩ binds)
    (hkind : (binds.all fun y => scope.names.lookup y.1 == some .local || scope.names.lookup y.1 == some .cell) = true) (hnd : CellsNd scope)
    (hco : scope.isCoroutine = false) (hgen : scope.isGenerator = false) (hk : scope.kind = .function)
    (hX : scope.names.lookup X = some .globalImplicit) (hv : nsIn (hd.heap_39 w.params) mainGlobals X = some (some (.ref 59))) (hdb : (X == ("__debug__" : Str)) = false)
    (hb : ∀ S' : Sit w ⟨qual, scope, f, cdv⟩, S'.dp = S.dp + 1 → S'.un = S.un + 3 → W S' ⟨binds.reverse, [], σ.led⟩ (execs tb S'.env) (fun _ _ => False) (FlyE P S'))
    (hq : ∀ led', P led' → Q (.bool true) { σ with led := led' }) : W S σ (call (.ref f) vs) Q E := fun s x => by
  refine wpAny_call (code_def00 x ho hcd hroom hbind hkind hnd hco hgen hk fun S' hdp hun hout' hbase hh₀ s₁ hs₁ y => ?_)
  obtain ⟨h₁, tk₁, rfl⟩ := hs₁
  refine wpAny_execs_cons (wpAny_Try_except ((hb S' hdp hun).runE (s := { s with heap := h₁, toks := tk₁ }) y (fun _ _ _ _ _ z => z.elim) fun e h₂ tk₂ m => ?_))
  obtain ⟨ex, h1, B, a0, rfl, ⟨mm, b, led, fr, z, hP, q2, q3, q4, q5⟩, hfl⟩ := m
  refine wpAny_looks_onW (L := S'.L) rfl rfl hfl fun h₃ hheld u3 => ?_
  refine wpAny_landsW hheld fun h₄ hfl4 u4 => ?_
  have hk4 : ∀ h', B.StaysIn h' → ∀ b o, S.h₀.get? b = some o → h'.get? b = some o := fun h' st b o q => by
    refine st b o (q2 b o (z.keep b o (St.into (S' := S') x hh₀ q)) fun hm => ?_)
    have := q4 b o (St.into (S' := S') x hh₀ q) hm
    rw [hout'] at this
    rcases List.mem_filterMap.mp this with ⟨env, he, hf⟩
    rcases List.mem_cons.mp he with rfl | he
    · exact absurd (Option.some.inj hf).symm (x.notL q)
    · have : b ∈ frs S.outer := List.mem_filterMap.mpr ⟨env, he, hf⟩
      rw [hout] at this; cases this
  refine wpAny_handleBy_cons (codeAny_handlers_test (Name_function_global (by exact hk) (by exact hX) (loadGlobal_global (env := S'.env) (S.T.g.keeps (hk4 _ hfl4.1)) (mg_of S.X S.T.g hv) ?_) hdb)) (by intro q; cases q)
  have hC4 := hk4 _ hfl4.1 _ _ (S.X _ _ hC)
  obtain ⟨oe, hoe, hcls⟩ := hfl4.there
  refine wpAny_excMatches_sub_self hC4 hoe hcls hB (codeAny_handlers_suite (lands_againW hfl4 fun h₅ hfl5 u5 => ?_))
  refine wpAny_execs_cons (wpAny_Return_some (wpAny_Constant_bool ?_))
  have xb := x.back (S' := S') hh₀ z
  have u := q5.trans (u3.trans (u4.trans u5))
  have mv : ∀ b o, h1.get? b = some o → b ∉ fr → h₅.get? b = some o := fun b o e nm => hfl5.1 b o (q2 b o e nm)
  have nd := x.nodup
  unfold own at nd
  have nf : ∀ b ∈ S.cl.map (·.2) ++ σ.blk.map (·.1), b ∉ fr := by
    intro b hb hm
    have hL : b ≠ S.L := fun e => (List.nodup_cons.mp nd).1 (by
      rw [← e]
      rcases List.mem_append.mp hb with hb | hb
      · exact List.mem_append_left _ hb
      · exact List.mem_append_right _ (List.mem_append_left _ hb))
    have nd2 := (List.nodup_cons.mp nd).2
    have hl : b ∉ σ.led.map (·.1) := fun q => by
      rcases List.mem_append.mp hb with hb | hb
      · exact (List.nodup_append.mp nd2).2.2 b hb b (List.mem_append_right _ q) rfl
      · exact (List.nodup_append.mp (List.nodup_append.mp nd2).2.1).2.2 b hb b q rfl
    have : ∃ o, s.heap.get? b = some o := by
      rcases List.mem_append.mp hb with hb | hb
      · obtain ⟨p, hp, rfl⟩ := List.mem_map.mp hb; obtain ⟨v, o, ho, _⟩ := x.cex p hp; exact ⟨o, ho⟩
      · obtain ⟨p, hp, rfl⟩ := List.mem_map.mp hb; exact (x.blk p hp).some
    obtain ⟨o, ho⟩ := this
    have hin := q4 b o (by rw [hh₀]; exact hideAll_get _ ho hl) hm
    rw [hout'] at hin
    rcases List.mem_filterMap.mp hin with ⟨env, he, hf⟩
    rcases List.mem_cons.mp he with rfl | he
    · exact hL (Option.some.inj hf).symm
    · have : b ∈ frs S.outer := List.mem_filterMap.mpr ⟨env, he, hf⟩
      rw [hout] at this; cases this
  have fin : St S { σ with led := led } h₅ := by
    refine ⟨?_, ?_, ?_, ?_, ?_, hk4 _ hfl5.1, xb.nodup, xb.fresh, xb.low⟩
    · obtain ⟨f, hn, hf⟩ := xb.fr; exact ⟨f, u.ns hn, hf⟩
    · intro n v e k
      obtain ⟨c, hc, o, ho, hd⟩ := xb.cel n v e k
      exact ⟨c, hc, o, mv _ _ ho (nf _ (List.mem_append_left _ (List.mem_map_of_mem (f := (·.2)) (mem_of_lookup hc)))), hd⟩
    · intro p hp
      obtain ⟨v, o, ho, hd⟩ := xb.cex p hp
      exact ⟨v, o, mv _ _ ho (nf _ (List.mem_append_left _ (List.mem_map_of_mem hp))), hd⟩
    · intro p hp
      exact (xb.blk p hp).grow fun o ho => mv _ _ ho (nf _ (List.mem_append_right _ (List.mem_map_of_mem hp)))
    · intro p hp
      exact mv _ _ (xb.led p hp) (q3 p hp)
  exact ⟨_, h₅, _, rfl, fin, hq led hP⟩
end
end
end Mine
namespace Mine
noncomputable section
variable {w : World} {fn : Fn} {S : Sit w fn} {σ : Sg} {α β : Type} {E : Value → Heap → Prop}

inductive All2 {α β : Type} (R : α → β → Prop) : List α → List β → Prop
  | nil : All2 R [] []
  | cons {a b as bs} : R a b → All2 R as bs → All2 R (a :: as) (b :: bs)
section
variable {α β : Type} {R R' : α → β → Prop} {as : List α} {bs : List β}
theorem All2.mono (h : All2 R as bs) (k : ∀ a b, R a b → R' a b) : All2 R' as bs := by
  induction h with
  | nil => exact .nil
  | cons a _ ih => exact .cons (k _ _ a) ih
theorem All2.snoc {a : α} {b : β} (h : All2 R as bs) (x : R a b) : All2 R (as ++ [a]) (bs ++ [b]) := by
  induction h with
  | nil => exact .cons x .nil
  | cons y _ ih => exact .cons y ih
theorem All2.length (h : All2 R as bs) : as.length = bs.length := by
  induction h with
  | nil => rfl
  | cons _ _ ih => simp [ih]
theorem All2.get (h : All2 R as bs) : ∀ {i : Nat} {a : α}, as[i]? = some a → ∃ b, bs[i]? = some b ∧ R a b := by
  induction h with
  | nil => intro i a e; simp at e
  | @cons a' b' as bs x _ ih =>
    intro i a e
    cases i with
    | zero => exact ⟨b', rfl, by simp at e; exact e ▸ x⟩
    | succ i => exact ih (by simpa using e)
theorem All2.get' (h : All2 R as bs) : ∀ {i : Nat} {b : β}, bs[i]? = some b → ∃ a, as[i]? = some a ∧ R a b := by
  induction h with
  | nil => intro i a e; simp at e
  | @cons a' b' as bs x _ ih =>
    intro i b e
    cases i with
    | zero => exact ⟨a', rfl, by simp at e; exact e ▸ x⟩
    | succ i => exact ih (by simpa using e)
theorem All2.app {as' : List α} {bs' : List β} (h : All2 R as bs) (h' : All2 R as' bs') : All2 R (as ++ as') (bs ++ bs') := by
  induction h with
  | nil => exact h'
  | cons x _ ih => exact .cons x ih
theorem All2.rev (h : All2 R as bs) : All2 R as.reverse bs.reverse := by
  induction h with
  | nil => exact .nil
  | cons x _ ih => rw [List.reverse_cons, List.reverse_cons]; exact ih.snoc x
theorem All2.unsnoc {b : β} : ∀ {as : List α} {bs : List β}, All2 R as (bs ++ [b]) → ∃ as' a, as = as' ++ [a] ∧ All2 R as' bs ∧ R a b
  | _, [], .cons x .nil => ⟨[], _, rfl, .nil, x⟩
  | _, _ :: _, .cons x r => let ⟨as', a, e, h1, h2⟩ := All2.unsnoc r; ⟨_ :: as', a, by rw [e]; rfl, .cons x h1, h2⟩
/-- a middle list -/
theorem All2.mid {γ : Type} {A : α → γ → Prop} {B : γ → β → Prop} (h : All2 (fun a b => ∃ c, A a c ∧ B c b) as bs) : ∃ cs, All2 A as cs ∧ All2 B cs bs := by
  induction h with
  | nil => exact ⟨[], .nil, .nil⟩
  | cons x _ ih =>
    obtain ⟨c, h1, h2⟩ := x
    obtain ⟨cs, h3, h4⟩ := ih
    exact ⟨c :: cs, .cons h1 h3, .cons h2 h4⟩
end
abbrev Tx := List ((Int × Int) × Str)
def txAt (tx : Tx) (k : Int × Int) : Str := ((tx.find? fun p => p.1 = k).map (·.2)).getD ""
abbrev noneHash : Int := reduceHash 0xFCA86420
/-- a dict whose keys are pairs of ints, whose values are strs -/
def TextsAt (w : World) (led : Led) (td : Addr) (tx : Tx) : Prop :=
  ∃ o es ep xs, (td, o) ∈ led ∧ o.ExactDict ∧ o.data = .dict es ep ∧ es.toList = xs.map (entryOfKey (tupleKind (intKind PG w))) ∧ (xs.map (·.1)).Nodup ∧
    All2 (fun (x : List Int × Addr × Value) (p : (Int × Int) × Str) => x.1 = [p.1.1, p.1.2] ∧ (∃ t t', (x.2.1, tupObj [.int p.1.1 t, .int p.1.2 t']) ∈ led) ∧ ∃ t, x.2.2 = .str p.2 t) xs tx ∧ ∀ p ∈ tx, tupleKeyHash (intKind PG w) [p.1.1, p.1.2] ≠ noneHash
theorem TextsAt.grow {led led' : Led} {td : Addr} {tx : Tx} (h : TextsAt w led td tx) (s : led <:+ led') : TextsAt w led' td tx :=
  let ⟨o, es, ep, xs, h1, h2, h3, h4, h5, h6, h7⟩ := h
  ⟨o, es, ep, xs, s.subset h1, h2, h3, h4, h5, h6.mono fun _ _ ⟨e, ⟨t, t', m⟩, q⟩ => ⟨e, ⟨t, t', s.subset m⟩, q⟩, h7⟩
theorem pair_key {led : Led} {h : Heap} (hl : ∀ p ∈ led, h.get? p.1 = some p.2) {a : Addr} {i j : Int} {t t' : Tok} (m : (a, tupObj [.int i t, .int j t']) ∈ led) : (tupleKind (intKind PG w)).is h [i, j] a :=
  ⟨_, _, 0, hl _ m, rfl, rfl, .cons is_int (.cons is_int .nil)⟩
theorem TextsAt.dict {led : Led} {h : Heap} (hl : ∀ p ∈ led, h.get? p.1 = some p.2) {td : Addr} {tx : Tx} (T : TextsAt w led td tx) : ∃ xs, h.DictOfH (tupleKind (intKind PG w)) td xs ∧
    All2 (fun (x : List Int × Addr × Value) (p : (Int × Int) × Str) => x.1 = [p.1.1, p.1.2] ∧ ∃ t, x.2.2 = .str p.2 t) xs tx ∧ ∀ p ∈ tx, tupleKeyHash (intKind PG w) [p.1.1, p.1.2] ≠ noneHash := by
  obtain ⟨o, es, ep, xs, h1, h2, h3, h4, h5, h6, h7⟩ := T
  refine ⟨xs, ⟨o, es, ep, hl _ h1, h2, h3, h4, fun x hx => ?_, h5⟩, h6.mono fun _ _ ⟨e, _, q⟩ => ⟨e, q⟩, h7⟩
  obtain ⟨i, hi⟩ := List.mem_iff_getElem?.mp hx
  obtain ⟨p, hp, e, ⟨t, t', m⟩, _⟩ := h6.get hi
  rw [e]
  exact pair_key hl m
theorem atKey_tx {xs : List (List Int × Addr × Value)} {tx : Tx} (h : All2 (fun (x : List Int × Addr × Value) (p : (Int × Int) × Str) => x.1 = [p.1.1, p.1.2] ∧ ∃ t, x.2.2 = .str p.2 t) xs tx) (i j : Int) (t0 : Tok) : ∃ t, ((atKey xs [i, j]).map (·.2)).getD (.str "" t0) = .str (txAt tx (i, j)) t := by
  induction h with
  | nil => exact ⟨t0, rfl⟩
  | @cons x p xs tx hx _ ih =>
    obtain ⟨e1, t, e2⟩ := hx
    obtain ⟨⟨p1, p2⟩, y⟩ := p
    by_cases q : (p1, p2) = (i, j)
    · obtain ⟨rfl, rfl⟩ := Prod.mk.inj q
      refine ⟨t, ?_⟩
      simp only at e1 e2
      simp [atKey, txAt, e1, e2]
    · obtain ⟨t', ih⟩ := ih
      refine ⟨t', ?_⟩
      have q' : ¬ x.1 = [i, j] := fun z => q (by rw [e1] at z; simp at z; rw [z.1, z.2])
      have a1 : atKey (x :: xs) [i, j] = atKey xs [i, j] := by unfold atKey; rw [List.find?_cons]; simp [q']
      have a2 : txAt (((p1, p2), y) :: tx) (i, j) = txAt tx (i, j) := by unfold txAt; rw [List.find?_cons]; simp only [q, decide_false]
      rw [a1, a2]; exact ih
theorem W.tMeth {td : Addr} {tx : Tx} {pl : Sem Bool} {Q : Value × List Value → Sg → Prop} (T : TextsAt w σ.led td tx) (h : Q (.builtin "dict.get", [.ref td]) σ) : W S σ (getMethod (.ref td) "get" pl) Q E := fun s x => by
  obtain ⟨xs, hd, _⟩ := T.dict (h := s.heap) x.led
  exact getMethod_builtin hd.typeIs PySem.F.plainAttrs_dict PySem.F.slot_dict_get PySem.F.type_dict_get (dictOfH_noDict hd) ⟨σ, s.heap, s.toks, rfl, x, h⟩
theorem W.tGetT {td D : Addr} {tx : Tx} {i j : Int} {t t' t0 : Tok} {Q : Value → Sg → Prop} (T : TextsAt w σ.led td tx) (hu : S.un + 1 < cLine) (m : (D, tupObj [.int i t, .int j t']) ∈ σ.led) (h : ∀ u, Q (.str (txAt tx (i, j)) u) σ) : W S σ (call (.builtin "dict.get") [.ref td, .ref D, .str "" t0]) Q E := fun s x => by
  obtain ⟨xs, hd, hx, _⟩ := T.dict (h := s.heap) x.led
  have lo : (td == sysModules) = false := x.low _ T.choose_spec.choose_spec.choose_spec.choose_spec.1
  refine call_meetsIn PySem.F.slot_dict_get hd.typeIs PySem.F.entry_dict_get (PySem.F.args_dict_get_3 _ _ _) (meetsH_dict_get_default (tupleKind (intKind PG w)) td D lo (.str "" t0)) ⟨tupleKind_room_in1 hu, [i, j], xs, pair_key x.led m, hd, ?_⟩
  obtain ⟨u, e⟩ := atKey_tx hx i j t0
  rw [e]
  exact ⟨σ, s.heap, _, rfl, x, h u⟩
theorem W.tGetN {td : Addr} {tx : Tx} {t0 : Tok} {Q : Value → Sg → Prop} (T : TextsAt w σ.led td tx) (h : Q (.str "" t0) σ) : W S σ (call (.builtin "dict.get") [.ref td, .none, .str "" t0]) Q E := fun s x => by
  obtain ⟨xs, hd, hx, hn⟩ := T.dict (h := s.heap) x.led
  have lo : (td == sysModules) = false := x.low _ T.choose_spec.choose_spec.choose_spec.choose_spec.1
  refine wpAny_call_entry PySem.F.slot_dict_get hd.typeIs PySem.F.entry_dict_get ?_ (PySem.F.args_dict_get_3 _ _ _)
  obtain ⟨o, es, ep, ho, hc, hdt, he, his, hnd⟩ := hd
  show wpAny _ _ (dictGet td .none >>= _) _ _ s
  refine wpAny_bind ?_
  unfold dictGet
  try with_reducible refine wpAny_holding ?_
  refine wpAny_bind ?_
  refine pyHash_slot (T := "NoneType") rfl PySem.F.slot_NoneType_hash PySem.F.entry_NoneType_hash (PySem.F.args_NoneType_hash_1 _) (beq_builtin_none _) (.inl rfl) (wpAny_bind (wpAny_pure (wpAny_bind (wpAny_mkInt (wpAny_pure ⟨_, _, rfl, ?_⟩)))))
  refine wpAny_bind ?_
  unfold dictFind
  try with_reducible refine wpAny_holding ?_
  refine wpAny_bind (wpAny_dictEntries (s := { s with toks := s.toks + 1 }) ho hdt ?_)
  have hp : PySem.placesWithHash es.size (fun i => es[i]?.map (·.hash)) noneHash = [] := by
    unfold PySem.placesWithHash
    rw [List.filter_eq_nil_iff]
    intro i hi q
    have hi' : i < es.size := List.mem_range.mp hi
    have e1 : es[i]? = xs[i]?.map (entryOfKey (tupleKind (intKind PG w))) := by
      rw [← List.getElem?_map, ← he, Array.getElem?_toList]
    dsimp only at q
    cases ex : xs[i]? with
    | none => rw [e1, ex] at q; simp at q
    | some y =>
      obtain ⟨p, hp, e2, _⟩ := hx.get ex
      rw [e1, ex] at q
      have q' : (tupleKind (intKind PG w)).hash y.1 = noneHash := by simpa [entryOfKey] using q
      rw [e2] at q'
      exact hn p (List.mem_of_getElem? hp) q'
  show wpAny _ _ (if (Value.none :: (List.filterMap (fun i => es[i]?.map (·.key)) (PySem.placesWithHash es.size (fun i => es[i]?.map (·.hash)) noneHash))).all carriedByValue = true then dictWalkPlain td .none noneHash es (PySem.placesWithHash es.size (fun i => es[i]?.map (·.hash)) noneHash) else _) _ _ _
  rw [hp]
  refine wpAny_of_eq (if_pos (by rfl)) ?_
  refine wpAny_pure ?_
  show wpAny _ _ (Builtin.Dict.missed td .none >>= _) _ _ _
  exact wpAny_bind (wpAny_missed_other lo (wpAny_pure ⟨_, rfl, σ, s.heap, _, rfl, x, h⟩))
theorem keys_of {es : List (List Int × Addr × Value)} {tx : Tx} (h : All2 (fun (x : List Int × Addr × Value) (p : (Int × Int) × Str) => x.1 = [p.1.1, p.1.2]) es tx) : es.map (·.1) = (tx.map (·.1)).map fun k => [k.1, k.2] := by
  induction h with
  | nil => rfl
  | cons x _ ih => rw [List.map_cons, List.map_cons, List.map_cons, ih, x]
/-- pairs ((i, j), text), as they stand -/
abbrev TPairs (led : Led) (vs : List Value) (tx : Tx) : Prop := All2 (fun v (p : (Int × Int) × Str) => ∃ t k u a b, v = .ref t ∧ (t, tupObj [.ref k, .str p.2 u]) ∈ led ∧ (k, tupObj [.int p.1.1 a, .int p.1.2 b]) ∈ led) vs tx
theorem W.dictOfT {l : Addr} {xs : List Value} {nl : Nat} {tx : Tx} {Q : Value → Sg → Prop} (hl : (l, lstObj xs nl) ∈ σ.led) (hp : TPairs σ.led xs tx) (hn : (tx.map (·.1)).Nodup) (hz : tx.length ≤ sizeLine) (hu : S.un + 20 < cLine)
    (hnone : ∀ p ∈ tx, tupleKeyHash (intKind PG w) [p.1.1, p.1.2] ≠ noneHash)
    (h : ∀ D o, TextsAt w ((D, o) :: σ.led) D tx → Q (.ref D) { σ with led := (D, o) :: σ.led }) : W S σ (call (.type "dict") [.ref l]) Q E := fun s x => by
  have hmid : All2 (fun v (p : (Int × Int) × Str) => ∃ e : List Int × Addr × Value, (∃ t, v = .ref t ∧ (t, tupObj [.ref e.2.1, e.2.2]) ∈ σ.led) ∧ (e.1 = [p.1.1, p.1.2] ∧ (∃ t t', (e.2.1, tupObj [.int p.1.1 t, .int p.1.2 t']) ∈ σ.led) ∧ ∃ t, e.2.2 = .str p.2 t)) xs tx := hp.mono fun v p ⟨t, k, u, a, b, e, m1, m2⟩ => ⟨([p.1.1, p.1.2], k, .str p.2 u), ⟨t, e, m1⟩, rfl, ⟨a, b, m2⟩, u, rfl⟩
  obtain ⟨es, h1, h2⟩ := hmid.mid
  have hkey : ∀ (h' : Heap), (∀ p ∈ σ.led, h'.get? p.1 = some p.2) → ∀ e ∈ es, (tupleKind (intKind PG w)).is h' e.1 e.2.1 := fun h' hl' e he => by
    obtain ⟨i, hi⟩ := List.mem_iff_getElem?.mp he
    obtain ⟨p, _, e1, ⟨t, t', m⟩, _⟩ := h2.get hi
    rw [e1]; exact pair_key hl' m
  have hnod : (es.map (·.1)).Nodup := by
    have : es.map (·.1) = (tx.map (·.1)).map fun k => [k.1, k.2] := keys_of (h2.mono fun _ _ q => q.1)
    rw [this]
    refine List.pairwise_map.mpr (hn.imp fun {a b} q z => q ?_)
    simp at z
    exact Prod.ext z.1 z.2
  refine call_dict_pairs rfl (x.led _ hl) (fun j h' => (∀ b o, (s.heap.get? b = some o) → h'.get? b = some o) ∧ h'.DictOfH (tupleKind (intKind PG w)) s.heap.objs.size (es.take j)) (fun h' hk => ⟨fun b o e => hk _ _ (Heap.get?_push_of_some _ e), ?_⟩) (fun j hj => ?_) (fun I j h h' hI hI0 ⟨a, b⟩ hk => ⟨fun b' o e => hk b' o (fun q => by (rw [q, hI0] at e; cases e)) (a b' o e), ?_⟩) (fun h' tk hk ⟨_, hD⟩ => ?_)
  · refine ⟨_, #[], 0, hk _ _ (Heap.get?_push_size _ rfl), ⟨rfl, rfl, rfl⟩, rfl, rfl, fun _ hx => (nomatch hx), List.nodup_nil⟩
  · have hj' : j < xs.length := by simpa using hj
    obtain ⟨e, he, ⟨t, ev, mt⟩⟩ := h1.get (i := j) (a := xs[j]) (by simp [hj'])
    refine ⟨t, .ref e.2.1, e.2.2, by simpa using ev, ⟨_, x.led _ mt, rfl, 0, rfl⟩, fun A' s' Q E hA hu' hb ⟨hb2, hD⟩ hQ => ?_⟩
    have hke := hkey s'.heap (fun p hp => hb _ _ (x.led p hp)) e (List.mem_of_getElem? he)
    have hlen : (es.take j).length ≤ sizeLine := by
      have := h2.length
      rw [List.length_take]; omega
    have hab : atKey (es.take j) e.1 = none := by
      refine atKey_none_of_get fun i p hi => ?_
      have hij : i < j := by
        have := (List.getElem?_eq_some_iff.mp hi).1
        rw [List.length_take] at this; omega
      rw [List.getElem?_take_of_lt hij] at hi
      have hi2 : (es.map (·.1))[i]? = some e.1 := by rw [List.getElem?_map, hi]; rfl
      have hj2 : (es.map (·.1))[j]? = some e.1 := by rw [List.getElem?_map, he]; rfl
      have := (List.getElem?_inj (List.getElem?_eq_some_iff.mp hi2).1 hnod).mp (hi2.trans hj2.symm)
      omega
    refine wpAny_dictSet_heap (hsz := hlen) (knd := tupleKind (intKind PG w)) (show A'.units < cLine from Nat.lt_of_le_of_lt hu' (show S.un + 10 < cLine by omega)) hke hD fun h' hD' hs => hQ h' _ ⟨fun b' o e => (hs.2 b' (Nat.ne_of_lt (Heap.lt_size e))).trans (hb2 b' o e), ?_⟩ hs
    rw [storedH_new hab] at hD'
    rw [List.take_add_one, he]
    exact hD'
  · obtain ⟨o, es', ep, ho, hc, hd, he, his, hn'⟩ := b
    exact ⟨o, es', ep, hk _ _ (Ne.symm hI) ho, hc, hd, he, fun y hy => hkey h' (fun p hp => by
      have := x.led p hp
      exact hk _ _ (fun q => by rw [q, hI0] at this; cases this) (a _ _ this)) y (List.mem_of_mem_take hy), hn'⟩
  · have e3 : xs.toArray.size = es.length := by simpa using h1.length
    rw [e3, List.take_length] at hD
    obtain ⟨o, es', ep, ho, hc, hd, he, his, hn'⟩ := hD
    have y : St S σ h' := x.grow hk
    have na : s.heap.objs.size ∉ own S σ := fun q => Nat.lt_irrefl _ (x.lt _ q)
    exact ⟨_, h', tk, rfl, y.addNew ho na x.size, h _ o ⟨o, es', ep, es, .head _, hc, hd, he, hn', h2.mono fun _ _ ⟨e, ⟨t, t', m⟩, q⟩ => ⟨e, ⟨t, t', .tail _ m⟩, q⟩, hnone⟩⟩
end
end Mine
namespace Mine
noncomputable section
variable {w : World} {fn : Fn} {S : Sit w fn} {σ : Sg} {α β : Type} {E : Value → Heap → Prop}

theorem W.noRaiseR {t : Sem α} {Q : α → Sg → Prop} (h : W S σ t Q (fun _ _ => False)) {s : Shared} (x : St S σ s.heap) {Q' : α → Shared → Prop} {E' : Value → Shared → Prop} (hq : ∀ v σ' h' tk', St S σ' h' → Q v σ' → Q' v { s with heap := h', toks := tk' }) : wpAny (model PG w) S.A t Q' E' s := h.noRaise x hq
/-- a def that does not raise; what stood ahead stands in the callee's ground -/
theorem W.callFB {name qual : Str} {params : Arguments} {body : List Stmt} {scope : Scope} {dV kV doc pm cdv ct oc : Value} {an od : Option Addr} {osl : Array (Option Value)} {f : Addr} {vs : List Value} (mm : Loc) {A F : Led} {Q : Value → Sg → Prop} (hc : σ.led.Perm (A ++ F))
    (ho : (hd.heap_39 w.params).lookup f = some ⟨oc, od, .func (fnOf name qual params body scope dV kV doc pm an cdv ct), osl⟩) (hcd : codeIn (hd.heap_39 w.params) cdv qual = true) (hroom : S.dp < recursionLimit)
    (hbind : ∀ s : Shared, (hd.heap_39 w.params).In s.heap → BindsTo s (fnOf name qual params body scope dV kV doc pm an cdv ct) ⟨vs, []⟩ mm.reverse)
    (hkind : (mm.reverse.all fun y => scope.names.lookup y.1 == some .local || scope.names.lookup y.1 == some .cell) = true) (hnd : CellsNd scope)
    (hco : scope.isCoroutine = false) (hgen : scope.isGenerator = false) (hk : scope.kind = .function)
    (h : ∀ S' : Sit w ⟨qual, scope, f, cdv⟩, S'.dp = S.dp + 1 → S'.un = S.un + 3 → (∀ b o, S.h₀.get? b = some o → S'.h₀.get? b = some o) → W S' ⟨mm, [], A ++ F⟩ (execs body S'.env) (fun fl σ' => ∃ A' F', Cn σ'.led A' F' ∧ Q (retOf fl) { σ with led := A' ++ F' }) (fun _ _ => False)) :
    W S σ (call (.ref f) vs) Q E := by
  refine W.perm hc fun s x => wpAny_call (code_def00 x ho hcd hroom hbind hkind hnd hco hgen hk fun S' hdp hun hout' hbase hh₀ s₁ hs₁ y => ?_)
  obtain ⟨h₁, tk₁, rfl⟩ := hs₁
  rw [List.reverse_reverse] at y
  refine (h S' hdp hun fun b o q => St.into (S' := S') x hh₀ q).noRaise (s := { s with heap := h₁, toks := tk₁ }) y fun fl σ' h' tk' y' ⟨A', F', hc', q⟩ => ?_
  exact ⟨_, h', tk', rfl, (x.back (S' := S') hh₀ y').perm hc'.perm, q⟩
/-- l[:k] -/
theorem W.sliceTo {env : Env} {value e : Expr} {p pos : Pos} {Q : Value → Sg → Prop}
    (h : W S σ (eval value env) (fun o σ₁ => W S σ₁ (eval e env) (fun u σ₂ => ∃ (l : Addr) (vs : List Value) (k : Nat) (t : Tok), o = .ref l ∧ u = .int (k : Int) t ∧ (∀ h, St S σ₂ h → h.IsList l vs.toArray) ∧ vs.length ≤ sizeLine ∧ ∀ D SL, Q (.ref D) { σ₂ with led := (D, lstObj (vs.take k) 0) :: SL :: σ₂.led }) E) E)
    (ht : ∀ o r, letTemporaryGo value o r = Pure.pure () := by intro _ _; rfl) : W S σ (eval (.Subscript value (.Slice none (some e) none p) pos) env) Q E := fun s x => by
  refine wpAny_Subscript_list_slice (wpAny_mono (h s x) (fun o s₁ h₁ => ?_) fun _ _ z => z) ht
  obtain ⟨σ₁, h₁', tk₁, rfl, y1, q1⟩ := h₁
  refine wpAny_pure (wpAny_mono (q1 _ y1) (fun u s₂ h₂ => ?_) fun e s₂ ⟨h₂', tk₂, e', z⟩ => ⟨h₂', tk₂, e', z⟩)
  obtain ⟨σ₂, h₂', tk₂, rfl, y, l, vs, k, t, rfl, rfl, hl, hz, hq⟩ := h₂
  refine ⟨l, vs.toArray, none, some (k : Int), rfl, hl _ y, by simpa using hz, .none, .int _ _, ?_⟩
  have y1 := y.alloc (o := { cls := .type "slice", data := .fields #[.none, .int (k : Int) t, .none] }) rfl
  have y2 := y1.alloc (o := { cls := .type "list", data := .seq (slicePick vs.toArray none (some (k : Int)) none) }) rfl
  rw [Heap.size_push] at y2
  refine ⟨_, _, tk₂, rfl, y2, ?_⟩
  have e1 : slicePick vs.toArray none (some (k : Int)) none = (vs.take k).toArray := by rw [slicePick_upto']
  rw [e1]
  exact hq _ _
section
variable {K : Type} [DecidableEq K]
theorem valueAt_cons (p : K × Value) (r : List (K × Value)) (x : K) : valueAt (p :: r) x = if p.1 = x then some p.2 else valueAt r x := by
  unfold valueAt
  rw [List.find?_cons]
  by_cases q : p.1 = x <;> simp [q]
theorem valueAt_app (a b : List (K × Value)) (x : K) : valueAt (a ++ b) x = (valueAt a x).or (valueAt b x) := by
  unfold valueAt
  rw [List.find?_append, Option.map_or]
theorem valueAt_put (kvs : List (K × Value)) (k x : K) (v : Value) : valueAt (kvs.map (fun kv => if kv.1 = k then (kv.1, v) else kv)) x = if x = k then (valueAt kvs x).map (fun _ => v) else valueAt kvs x := by
  induction kvs with
  | nil => simp [valueAt]
  | cons p r ih =>
    rw [List.map_cons, valueAt_cons, ih, valueAt_cons]
    by_cases q : p.1 = k
    · by_cases q2 : x = k
      · subst q2; simp [q]
      · have : ¬ p.1 = x := fun z => q2 (z.symm.trans q)
        have hkx : ¬ k = x := fun z => q2 z.symm
        simp [q, q2, hkx]
    · by_cases q3 : p.1 = x
      · subst q3; simp [q]
      · simp [q, q3]
theorem valueAt_any {kvs : List (K × Value)} {k : K} : (kvs.any fun kv => decide (kv.1 = k)) = (valueAt kvs k).isSome := by
  induction kvs with
  | nil => rfl
  | cons p r ih =>
    rw [List.any_cons, ih, valueAt_cons]
    by_cases q : p.1 = k <;> simp [q]
theorem valueAt_stored (kvs : List (K × Value)) (k x : K) (v : Value) : valueAt (stored kvs k v) x = if x = k then some v else valueAt kvs x := by
  unfold stored
  rw [valueAt_any]
  cases e : (valueAt kvs k).isSome with
  | true =>
    simp only [if_true]
    rw [valueAt_put]
    by_cases q : x = k
    · subst q
      obtain ⟨u, hu⟩ := Option.isSome_iff_exists.mp e
      simp [hu]
    · simp [q]
  | false =>
    simp only [Bool.false_eq_true, if_false]
    rw [valueAt_app, valueAt_cons]
    by_cases q : x = k
    · subst q
      have : valueAt kvs x = none := by simpa using e
      simp [this]
    · have : ¬ k = x := fun z => q z.symm
      simp [q, this, valueAt]
theorem stored_len (kvs : List (K × Value)) (k : K) (v : Value) : (stored kvs k v).length ≤ kvs.length + 1 := by
  unfold stored
  split
  · simp
  · simp
theorem valueAt_without (kvs : List (K × Value)) (k x : K) : valueAt (without kvs k) x = if x = k then none else valueAt kvs x := by
  unfold without
  induction kvs with
  | nil => simp [valueAt]
  | cons p r ih =>
    rw [List.filter_cons]
    by_cases q : p.1 = k
    · simp only [q, ne_eq, not_true_eq_false, decide_false, Bool.false_eq_true, if_false]
      rw [ih, valueAt_cons, q]
      by_cases q2 : x = k
      · simp [q2]
      · have : ¬ k = x := fun z => q2 z.symm
        simp [q2, this]
    · simp only [q, ne_eq, not_false_eq_true, decide_true, if_true]
      rw [valueAt_cons, ih, valueAt_cons]
      by_cases q2 : p.1 = x
      · subst q2; simp [q]
      · simp [q2]
theorem without_len (kvs : List (K × Value)) (k : K) : (without kvs k).length ≤ kvs.length := List.length_filter_le _ _
end
end
end Mine
namespace Mine
noncomputable section
variable {w : World} {fn : Fn} {S : Sit w fn} {σ : Sg} {α β : Type} {E : Value → Heap → Prop}

/-- a, b = x, y: the stores are swapped -/
theorem W.AssignSwap2 {env : Env} {a b : Str} {elts : List Expr} {k : Nat} {tpos pos : Pos} {value : Expr} {Q : Flow → Sg → Prop}
    (h : W S σ (eval value env) (fun v σ₁ => ∃ t x y, v = .ref t ∧ (t, tupObj [x, y]) ∈ σ₁.led ∧ W S σ₁ (storeName env b y) (fun _ σ₂ => W S σ₂ (storeName env a x) (fun _ σ₃ => Q .next σ₃) E) E) E)
    (hs : swapsWithSole [.Tuple elts k tpos] value pos.line env = Pure.pure false)
    (hw : swappedStores [.Tuple elts k tpos] value env = Pure.pure (some [a, b])) : W S σ (exec (.Assign [.Tuple elts k tpos] value pos) env) Q E := fun s y => by
  refine Assign_Tuple_swapped (names := [a, b]) (wpAny_mono (h s y) (fun v s₁ h₁ => ?_) fun _ _ z => z) hs hw
  obtain ⟨σ₁, h₁', tk₁, rfl, y1, t, x, z, rfl, ht, q⟩ := h₁
  have hu : ∀ {Q' : List Value → Shared → Prop} {E' : Value → Shared → Prop}, (∀ h', Heap.ExtBut h₁'.objs.size h₁' h' ∨ True → St S σ₁ h' → Q' [x, z] ⟨h', s.gens, s.drawn, tk₁, s.os⟩) → wpAny (model PG w) S.A (unpackItems (.ref t) 2 none) Q' E' ⟨h₁', s.gens, s.drawn, tk₁, s.os⟩ := by
    intro Q' E' hq
    exact unpackItems_tuple (items := [x, z].toArray) (show S.A.handled = none from rfl) (y1.isTup ht) fun h' he => hq h' (.inr trivial) (y1.grow fun b o e => he b o (Nat.ne_of_lt (Heap.lt_size e)) e)
  refine hu fun h' _ y2 => ?_
  have key : W S σ₁ (assignInOrder [PySem.bindName env b, PySem.bindName env a] [z, x]) (fun _ σ₃ => Q .next σ₃) E :=
    W.aoCons (W.bindName (W.mono q fun _ _ h₁ => W.aoCons (W.bindName (W.mono h₁ fun _ _ h₂ => W.aoNil h₂))))
  show wpAny (model PG w) S.A (assignInOrder [PySem.bindName env b, PySem.bindName env a] [z, x]) _ _ _
  exact key.runE (s := ⟨h', s.gens, s.drawn, tk₁, s.os⟩) y2 (fun _ σ' h'' tk' st q' => ⟨σ', h'', tk', rfl, st, q'⟩) fun e h'' tk' q' => ⟨h'', tk', rfl, q'⟩
end
end Mine
namespace Mine
noncomputable section
variable {w : World} {fn : Fn} {S : Sit w fn} {σ : Sg} {α β : Type} {E : Value → Heap → Prop}

theorem compTurn_two0 (elt t1 i1 t2 i2 : Expr) (scope : Scope) (pos : Pos) (it acc : Value) (env : Env) :
    compTurn (.ListComp elt [⟨t1, i1, [], 0⟩, ⟨t2, i2, [], 0⟩] scope pos) 0 it acc env = (standAt i1.pos >>= fun _ => pyNext it >>= fun r => match r with
      | none => Pure.pure (.done .next)
      | some v => letOwnedTupleGo t1 it v >>= fun _ => assign t1 env v >>= fun _ =>
        eval i2 env >>= fun x => standAt i2.pos >>= fun _ => foldedSetIterable i2 env x >>= fun x => holding [x] (pyIter x) >>= fun y => runOwn (.compStart (.ListComp elt [⟨t1, i1, [], 0⟩, ⟨t2, i2, [], 0⟩] scope pos) 1 y acc env) env >>= fun _ =>
          again (.compLoop (.ListComp elt [⟨t1, i1, [], 0⟩, ⟨t2, i2, [], 0⟩] scope pos) 0 it acc env)) := by rfl
theorem compTurn_two1 (elt t1 i1 t2 i2 : Expr) (scope : Scope) (pos : Pos) (it acc : Value) (env : Env) :
    compTurn (.ListComp elt [⟨t1, i1, [], 0⟩, ⟨t2, i2, [], 0⟩] scope pos) 1 it acc env = (standAt i2.pos >>= fun _ => pyNext it >>= fun r => match r with
      | none => Pure.pure (.done .next)
      | some v => letOwnedTupleGo t2 it v >>= fun _ => assign t2 env v >>= fun _ =>
        (eval elt env >>= fun x => call (.builtin "list.append") [acc, x] >>= fun _ => Pure.pure ()) >>= fun _ =>
          again (.compLoop (.ListComp elt [⟨t1, i1, [], 0⟩, ⟨t2, i2, [], 0⟩] scope pos) 1 it acc env)) := by rfl
section
variable {elt t1 i1 t2 i2 : Expr} {scope : Scope} {pos : Pos} {it acc : Value} {env : Env}
theorem compStart_two1 {A : Around} {R : Result → Shared → Prop} {s : Shared}
    (h0 : codeAny (model PG w) A (.compLoop (.ListComp elt [⟨t1, i1, [], 0⟩, ⟨t2, i2, [], 0⟩] scope pos) 1 it acc env) R s)
    (h : wpAny (model PG w) A (pyIter it) (fun it' s' => codeAny (model PG w) A (.compLoop (.ListComp elt [⟨t1, i1, [], 0⟩, ⟨t2, i2, [], 0⟩] scope pos) 1 it' acc env) R s')
      (notedBy (model PG w) A env fun x s' => R (.error x) s') s) :
    codeAny (model PG w) A (.compStart (.ListComp elt [⟨t1, i1, [], 0⟩, ⟨t2, i2, [], 0⟩] scope pos) 1 it acc env) R s := by
  refine codeAny_of_tree ?_
  show wpAny _ _ ((compStart (.ListComp elt [⟨t1, i1, [], 0⟩, ⟨t2, i2, [], 0⟩] scope pos) 1 it acc env).onRaise (fun x => do noteFrame x env; standAt theWindowsPlace)) _ _ s
  refine wpAny_notedAt ?_
  unfold compStart
  show wpAny _ _ (ask >>= _) _ _ s
  refine wpAny_bind (wpAny_askSetting (wpAny_ite ?_))
  split
  · first
      | exact wpAny_bind (wpAny_pure (wpAny_pure (And.intro rfl h0)))
      | exact wpAny_pure (And.intro rfl h0)
  · first
      | exact wpAny_bind (wpAny_rule (wpAny_bind (wpAny_standAt (wpAny_bind (wpAny_mono h (fun it' s' h' => wpAny_pure (And.intro rfl h')) fun _ _ x => x)))))
      | (refine wpAny_bind (wpAny_rule ?_); show wpAny _ _ (standAt i2.pos >>= _) _ _ s; exact wpAny_bind (wpAny_standAt (wpAny_bind (wpAny_mono h (fun it' s' h' => wpAny_pure (And.intro rfl h')) fun _ _ x => x))))
theorem compLoop_two1 {A : Around} {R : Result → Shared → Prop} {s : Shared} (I : Nat → Shared → Prop)
    (turn : ∀ n s, I n s → wpAny (model PG w) A (pyNext it) (fun r s₁ => match r with
      | none => R (.ok .next) s₁
      | some v => wpAny (model PG w) A (letOwnedTupleGo t2 it v) (fun _ s₁' => wpAny (model PG w) A (assign t2 env v) (fun _ s₂ => wpAny (model PG w) A (eval elt env) (fun x s₄ =>
              wpAny (model PG w) A (call (.builtin "list.append") [acc, x]) (fun _ s₅ => ∃ m, m < n ∧ I m s₅) (notedBy (model PG w) A env fun e s' => R (.error e) s') s₄) (notedBy (model PG w) A env fun e s' => R (.error e) s') s₂) (notedBy (model PG w) A env fun e s' => R (.error e) s') s₁') (notedBy (model PG w) A env fun e s' => R (.error e) s') s₁) (notedBy (model PG w) A env fun e s' => R (.error e) s') s)
    (n : Nat) (h : I n s) :
    codeAny (model PG w) A (.compLoop (.ListComp elt [⟨t1, i1, [], 0⟩, ⟨t2, i2, [], 0⟩] scope pos) 1 it acc env) R s := by
  refine codeAny_loop rfl I (fun n s hI => ?_) n h
  show wpAny _ A ((compTurn (.ListComp elt [⟨t1, i1, [], 0⟩, ⟨t2, i2, [], 0⟩] scope pos) 1 it acc env).onRaise (fun x => do noteFrame x env; theTreesLotGoes x)) _ _ s
  refine wpAny_noted ?_
  rw [compTurn_two1]
  refine wpAny_bind (wpAny_standAt (wpAny_bind (wpAny_mono (turn n s hI) (fun r s₁ h₁ => ?_) fun _ _ h' => h')))
  cases r with
  | none => exact wpAny_pure h₁
  | some v =>
    refine wpAny_bind (wpAny_mono h₁ (fun _ s₁' h₁' => ?_) fun _ _ h' => h')
    exact wpAny_bind (wpAny_mono h₁' (fun _ s₂ h₂ => wpAny_bind (wpAny_bind (wpAny_mono h₂ (fun x s₄ h₄ => wpAny_bind (wpAny_mono h₄ (fun _ s₅ h₅ => wpAny_pure (wpAny_pure ⟨rfl, h₅⟩)) fun _ _ h' => h')) fun _ _ h' => h'))) fun _ _ h' => h')
theorem compLoop_two0 {A : Around} {R : Result → Shared → Prop} {s : Shared} (I : Nat → Shared → Prop) (hs : ∀ x, foldedSetIterable i2 env x = Pure.pure x)
    (turn : ∀ n s, I n s → wpAny (model PG w) A (pyNext it) (fun r s₁ => match r with
      | none => R (.ok .next) s₁
      | some v => wpAny (model PG w) A (letOwnedTupleGo t1 it v) (fun _ s₁' => wpAny (model PG w) A (assign t1 env v) (fun _ s₂ => wpAny (model PG w) A (eval i2 env) (fun x s₃ => wpAny (model PG w) A (pyIter x) (fun y s₄ =>
              codeAny (model PG w) A (.compStart (.ListComp elt [⟨t1, i1, [], 0⟩, ⟨t2, i2, [], 0⟩] scope pos) 1 y acc env) (fun r s₅ => match r with | .ok _ => ∃ m, m < n ∧ I m s₅ | .error _ => False) s₄) (notedBy (model PG w) A env fun e s' => R (.error e) s') s₃) (notedBy (model PG w) A env fun e s' => R (.error e) s') s₂) (notedBy (model PG w) A env fun e s' => R (.error e) s') s₁') (notedBy (model PG w) A env fun e s' => R (.error e) s') s₁) (notedBy (model PG w) A env fun e s' => R (.error e) s') s)
    (n : Nat) (h : I n s) :
    codeAny (model PG w) A (.compLoop (.ListComp elt [⟨t1, i1, [], 0⟩, ⟨t2, i2, [], 0⟩] scope pos) 0 it acc env) R s := by
  refine codeAny_loop rfl I (fun n s hI => ?_) n h
  show wpAny _ A ((compTurn (.ListComp elt [⟨t1, i1, [], 0⟩, ⟨t2, i2, [], 0⟩] scope pos) 0 it acc env).onRaise (fun x => do noteFrame x env; theTreesLotGoes x)) _ _ s
  refine wpAny_noted ?_
  rw [compTurn_two0]
  refine wpAny_bind (wpAny_standAt (wpAny_bind (wpAny_mono (turn n s hI) (fun r s₁ h₁ => ?_) fun _ _ h' => h')))
  cases r with
  | none => exact wpAny_pure h₁
  | some v =>
    refine wpAny_bind (wpAny_mono h₁ (fun _ s₁' h₁' => ?_) fun _ _ h' => h')
    refine wpAny_bind (wpAny_mono h₁' (fun _ s₂ h₂ => wpAny_bind (wpAny_mono h₂ (fun x s₃ h₃ => wpAny_bind (wpAny_standAt (wpAny_bind (wpAny_of_eq (hs x) (wpAny_bind (wpAny_holding (wpAny_mono h₃ (fun y s₄ h₄ => ?_) fun _ _ h' => h'))))))) fun _ _ h' => h')) fun _ _ h' => h')
    refine wpAny_bind (wpAny_runOwn (h := none) ?_)
    rw [Around.mark_none]
    refine codeAny_mono h₄ fun r s₅ h₅ => ?_
    cases r with
    | ok _ => exact wpAny_pure ⟨rfl, h₅⟩
    | error _ => exact h₅.elim
/-- the inner loop; D gathers -/
theorem inner_itr {n : Nat} {item : Nat → Value → Prop} {P : Nat → Obj → Prop} {ok : Led → Prop} (K : Itr S n item P ok) {I D C : Addr} {r : List (Addr × BlkE)} {base m : Loc} {led0 : Led} {vs0 : List Value} {k0 : Nat}
    (Inv : Nat → List Value → Led → Prop) (hD : (D == sysModules) = false) (hz : vs0.length + n ≤ sizeLine) (hok : ∀ i vs led, Inv i vs led → ok led)
    (turn : ∀ i v vs led k, i < n → item i v → Inv i vs led → vs.length = vs0.length + i → W S ⟨m, (D, .inr fun o => o = lstObj vs k) :: (C, .inl base) :: (I, .inr (P (i+1))) :: r, led⟩ (assign t2 env v) (fun _ σ₁ =>
      W S σ₁ (eval elt env) (fun y σ₃ => (∃ mb, σ₃.blk = (D, .inr fun o => o = lstObj vs k) :: (C, .inl mb) :: (I, .inr (P (i+1))) :: r ∧ Has base mb) ∧ σ₃.m = m ∧ Inv (i+1) (vs ++ [y]) σ₃.led) (fun _ _ => False)) (fun _ _ => False))
    {s : Shared} (x : St S ⟨m, (I, .inr (P 0)) :: (D, .inr fun o => o = lstObj vs0 k0) :: (C, .inl base) :: r, led0⟩ s.heap) (h0 : Inv 0 vs0 led0) {R : Result → Shared → Prop}
    (stop : ∀ vs k led h' tk', vs.length = vs0.length + n → Inv n vs led → St S ⟨m, (D, .inr fun o => o = lstObj vs k) :: (C, .inl base) :: r, led⟩ h' → R (.ok .next) { s with heap := h', toks := tk' }) :
    codeAny (model PG w) S.A (.compStart (.ListComp elt [⟨t1, i1, [], 0⟩, ⟨t2, i2, [], 0⟩] scope pos) 1 (.ref I) (.ref D) env) R s := by
  have weakB : ∀ {h : Heap} {m : Loc} {led : Led} {d : BlkE} {mb : Loc} {r : List (Addr × BlkE)}, St S ⟨m, (D, d) :: (C, .inl mb) :: r, led⟩ h → Has base mb → St S ⟨m, (D, d) :: (C, .inl base) :: r, led⟩ h := by
    intro h m led d mb r x hb
    refine ⟨x.fr, x.cel, x.cex, fun p q => ?_, x.led, x.keep, x.nodup, x.fresh, x.low⟩
    rcases List.mem_cons.mp q with rfl | q
    · exact x.blk _ (.head _)
    · rcases List.mem_cons.mp q with rfl | q
      · obtain ⟨f, hn, hf⟩ := x.blk _ (.tail _ (.head _))
        exact ⟨f, hn, fun y v e => hf y v (hb y v e)⟩
      · exact x.blk _ (.tail _ (.tail _ q))
  have go : codeAny (model PG w) S.A (.compLoop (.ListComp elt [⟨t1, i1, [], 0⟩, ⟨t2, i2, [], 0⟩] scope pos) 1 (.ref I) (.ref D) env) R s := by
    refine compLoop_two1 (fun c s' => ∃ i vs kk led h' tk', c = n - i ∧ i ≤ n ∧ vs.length = vs0.length + i ∧ s' = { s with heap := h', toks := tk' } ∧ Inv i vs led ∧ St S ⟨m, (D, .inr fun o => o = lstObj vs kk) :: (C, .inl base) :: (I, .inr (P i)) :: r, led⟩ h') ?_ n ?_
    · rintro c s' ⟨i, vs, kk, led, h', tk', rfl, hi, hvl, rfl, inv, y⟩
      have y' : St S ⟨m, (I, .inr (P i)) :: (D, .inr fun o => o = lstObj vs kk) :: (C, .inl base) :: r, led⟩ h' := y.permB perm3
      by_cases hlt : i < n
      · refine K.next _ m led I _ i _ _ hlt (hok _ _ _ inv) y' fun v h₁ tk₁ hv y₁ => ?_
        dsimp only
        obtain ⟨oi, hoi, hpi⟩ := y₁.blk _ (.head _)
        obtain ⟨ci, hci, hni⟩ := K.cls _ _ hpi
        refine letGo_any (s := { s with heap := h₁, toks := tk₁ }) hoi hci hni ?_
        have y₁' := St.permB y₁ (perm3.symm)
        refine (turn i v vs led kk hlt hv inv hvl).noRaise (s := { s with heap := h₁, toks := tk₁ }) y₁' fun _ σ₁ h₂ tk₂ y₂ q₂ => ?_
        refine q₂.noRaise (s := { s with heap := h₂, toks := tk₂ }) y₂ fun z σ₃ h₄ tk₄ y₄ q₄ => ?_
        obtain ⟨m₃, b₃, led₃⟩ := σ₃
        obtain ⟨⟨mb', rfl, hb'⟩, e₃, inv'⟩ := q₄
        obtain rfl : m = m₃ := e₃.symm
        have y₄ := weakB y₄ hb'
        obtain ⟨o, rfl, y₅⟩ := St.toLed (σ := ⟨m, (C, .inl base) :: (I, .inr (P (i+1))) :: r, led₃⟩) y₄ hD
        have ap := W.appendL (S := S) (σ := ⟨m, (C, .inl base) :: (I, .inr (P (i+1))) :: r, (D, lstObj vs kk) :: led₃⟩) (l := D) (y := z) (Q := fun _ σ' => σ' = ⟨m, (C, .inl base) :: (I, .inr (P (i+1))) :: r, (D, lstObj (vs ++ [z]) (kk + 1)) :: led₃⟩) (E := fun _ _ => False) Hole.head (by omega) rfl
        refine ap.noRaise (s := { s with heap := h₄, toks := tk₄ }) y₅ fun _ σ₆ h₆ tk₆ y₆ q₆ => ?_
        subst q₆
        exact ⟨n - (i+1), by omega, i+1, vs ++ [z], kk+1, led₃, h₆, tk₆, rfl, by omega, by simp; omega, rfl, inv', St.toBlk (σ := ⟨m, (C, .inl base) :: (I, .inr (P (i+1))) :: r, led₃⟩) y₆ rfl⟩
      · obtain rfl : i = n := by omega
        exact K.stop _ m led I _ _ _ (hok _ _ _ inv) y' fun h₁ tk₁ y₁ => stop vs kk led h₁ tk₁ hvl inv y₁
    · exact ⟨0, vs0, k0, led0, s.heap, s.toks, by omega, by omega, by simp, rfl, h0, x.permB perm3.symm⟩
  exact compStart_two1 go (K.self s _ led0 I _ 0 _ _ x go)
end

def CLoop2 (S : Sit w fn) (σ : Sg) (it : Value) (elt t1 i1 t2 i2 : Expr) (scope : Scope) (pos : Pos) (env : Env) (cl : List (Str × Addr)) (Q : Value → Sg → Prop) : Prop :=
  ∀ (s : Shared) (D C : Addr), (D == sysModules) = false → St S { σ with blk := (D, .inr fun o => o = lstObj [] 0) :: (C, .inl []) :: σ.blk } s.heap →
    codeAny (model PG w) S.A (.compLoop (.ListComp elt [⟨t1, i1, [], 0⟩, ⟨t2, i2, [], 0⟩] scope pos) 0 it (.ref D) (compEnvC scope cl C env)) (fun (r : Result) (s' : Shared) => match r with
      | .ok _ => ∃ (vs : List Value) (k : Nat) (mb : Loc) (σ' : Sg) (h' : Heap) (tk' : Nat), s' = { s with heap := h', toks := tk' } ∧ St S { σ' with blk := (C, .inl mb) :: σ'.blk, led := (D, lstObj vs k) :: σ'.led } h' ∧ Q (.ref D) { σ' with led := (D, lstObj vs k) :: σ'.led }
      | .error _ => False) s
def CStart2 (S : Sit w fn) (σ : Sg) (it : Value) (elt t1 i1 t2 i2 : Expr) (scope : Scope) (pos : Pos) (env : Env) (cl : List (Str × Addr)) (Q : Value → Sg → Prop) : Prop :=
  ∃ I P r, it = .ref I ∧ σ.blk = (I, .inr P) :: r ∧ (∀ (s : Shared) (m : Loc) (led : Led) (I : Addr) r (Q : Value → Shared → Prop) (E : Value → Shared → Prop), St S ⟨m, (I, .inr P) :: r, led⟩ s.heap → Q (.ref I) s → wpAny (model PG w) S.A (pyIter (.ref I)) Q E s) ∧ CLoop2 S σ it elt t1 i1 t2 i2 scope pos env cl Q
theorem comp_core2 {elt t1 i1 t2 i2 : Expr} {scope : Scope} {pos : Pos} {env : Env} {cl : List (Str × Addr)} {Q : Value → Sg → Prop} {I : Addr} {r : List (Addr × BlkE)} {P : Obj → Prop} {m : Loc} {led : Led} (hI : σ = ⟨m, (I, .inr P) :: r, led⟩)
    (hself : ∀ (s : Shared) (m : Loc) (led : Led) (I : Addr) r (Q : Value → Shared → Prop) (E : Value → Shared → Prop), St S ⟨m, (I, .inr P) :: r, led⟩ s.heap → Q (.ref I) s → wpAny (model PG w) S.A (pyIter (.ref I)) Q E s)
    (hcell : ∀ y ∈ scope.names, y.2 ≠ .cell) (hkind : scope.kind = .function) (q : CLoop2 S σ (.ref I) elt t1 i1 t2 i2 scope pos env cl Q) {s : Shared} (x : St S σ s.heap) {RR : Value → Addr → Result → Shared → Prop} {E' : Value → Shared → Prop}
    (hRR : ∀ (D C : Addr) (vs : List Value) (k : Nat) (mb : Loc) (σ' : Sg) (h' : Heap) (tk' : Nat), St S { σ' with blk := (C, .inl mb) :: σ'.blk, led := (D, lstObj vs k) :: σ'.led } h' → Q (.ref D) { σ' with led := (D, lstObj vs k) :: σ'.led } → RR (.ref D) C (.ok .next) { s with heap := h', toks := tk' })
    (hRf : ∀ v C f s, RR v C (.ok .next) s → RR v C (.ok f) s) :
    wpAny (model PG w) S.A (newList []) (fun acc s₃ => wpAny (model PG w) S.A (newFunctionEnv scope env.globals cl [] env.qual none .none (some env)) (fun cenv s₄ =>
      codeAny (model PG w) S.A (.compStart (.ListComp elt [⟨t1, i1, [], 0⟩, ⟨t2, i2, [], 0⟩] scope pos) 0 (.ref I) acc { cenv with scope := relabel scope env }) (RR acc cenv.locals) s₄) E' s₃) E' s := by
  subst hI
  refine wpAny_newObj_type (wpAny_newFunctionEnv hcell (by intro y hy; simp at hy) (fun h₁ hns₁ hsb₁ => ?_) hkind)
  dsimp only at hns₁ hsb₁ ⊢
  generalize hH2 : s.heap.push { cls := .type "list", dict := none, data := .seq ([] : List Value).toArray } = H2 at hns₁ hsb₁ ⊢
  have x1 : St S ⟨m, (I, .inr P) :: r, (s.heap.objs.size, lstObj [] 0) :: led⟩ H2 := hH2 ▸ x.alloc (o := lstObj [] 0) rfl
  have hD : (s.heap.objs.size == sysModules) = false := x1.low _ (.head _)
  have x2 := x1.newBlk rfl hsb₁ hns₁
  have x3 := St.toBlk (σ := ⟨m, (H2.objs.size, .inl []) :: (I, .inr P) :: r, led⟩) (P := fun o => o = lstObj [] 0) x2 rfl
  have go : ∀ s₃ : Shared, s₃ = { s with heap := h₁, toks := s.toks + ([] : List (Str × Value)).length } →
      codeAny (model PG w) S.A (.compLoop (.ListComp elt [⟨t1, i1, [], 0⟩, ⟨t2, i2, [], 0⟩] scope pos) 0 (.ref I) (.ref s.heap.objs.size) (compEnvC scope cl H2.objs.size env)) (RR (.ref s.heap.objs.size) H2.objs.size) s₃ := by
    rintro s₃ rfl
    refine codeAny_mono (q { s with heap := h₁, toks := s.toks + ([] : List (Str × Value)).length } _ _ hD x3) fun rr s' z => ?_
    cases rr with
    | ok f =>
      obtain ⟨vs, k, mb, σ', h', tk', rfl, y, qq⟩ := z
      exact hRf _ _ _ _ (hRR _ _ vs k mb σ' h' tk' y qq)
    | error _ => exact z.elim
  have xs : St S ⟨m, (I, .inr P) :: r, (s.heap.objs.size, lstObj [] 0) :: led⟩ h₁ := St.drop (r := (I, .inr P) :: r) x2 fun _ _ _ e => e
  refine codeAny_compStart_list (go _ rfl) (hself _ _ _ _ _ _ _ xs (go _ rfl))

theorem W.ListComp2 {elt t1 i1 t2 i2 : Expr} {scope : Scope} {pos : Pos} {env : Env} {cl : List (Str × Addr)} {Q : Value → Sg → Prop}
    (hclos : closureFor scope env = Pure.pure cl) (hcell : ∀ y ∈ scope.names, y.2 ≠ .cell) (hkind : scope.kind = .function) (hnames : ∀ y ∈ scope.names, y.2 = .local → scope.names.lookup y.1 = some .local)
    (h : W S σ (eval i1 env) (fun x σ₁ => W S σ₁ (pyIter x) (fun it σ₂ => CStart2 S σ₂ it elt t1 i1 t2 i2 scope pos env cl Q) E) E)
    (hs : ∀ x, foldedSetIterable i1 env x = Pure.pure x := by intro _; rfl) : W S σ (eval (.ListComp elt [⟨t1, i1, [], 0⟩, ⟨t2, i2, [], 0⟩] scope pos) env) Q E := fun s x => by
  rw [eval_ListComp]
  refine wpAny_comprehension_free (use := none) rfl hs hclos hkind hnames (wpAny_mono (h s x) (fun v s₁ h₁ => ?_) fun _ _ e => e)
  obtain ⟨σ', h', tk', rfl, y, q⟩ := h₁
  refine wpAny_mono (q _ y) (fun it s₂ h₂ => ?_) (fun e s₂ h₂ => ?_)
  · obtain ⟨σ₂, h'', tk'', rfl, z, I, P, r, rfl, hb, hself, q'⟩ := h₂
    refine comp_core2 (σ := σ₂) (m := σ₂.m) (led := σ₂.led) (I := I) (P := P) (r := r) (by rw [← hb]) hself hcell hkind q' z (RR := fun acc C => compPost (model PG w) S.A _ none _ acc C) (fun D C vs k mb σ₃ h₃ tk₃ y₃ q₃ => ?_) (fun v C f s z => z)
    obtain ⟨f, hn, _⟩ := y₃.blk _ (.head _)
    exact ⟨f, hn, fun h₄ hs₄ => ⟨_, h₄, tk₃, rfl, St.drop (led := (D, lstObj vs k) :: σ₃.led) (r := σ₃.blk) y₃ fun a o ha e => hs₄.extBut a o ha e, q₃⟩⟩
  · obtain ⟨h'', tk'', rfl, q'⟩ := h₂; exact ⟨h'', tk'', rfl, q'⟩


theorem CStart2.itr {n : Nat} {item : Nat → Value → Prop} {P : Nat → Obj → Prop} {ok : Led → Prop} (K : Itr S n item P ok) {I : Addr} {r : List (Addr × BlkE)} {elt t1 i1 t2 i2 : Expr} {scope : Scope} {pos : Pos} {env : Env} {cl : List (Str × Addr)} {Q : Value → Sg → Prop}
    (Inv : Nat → List Value → Led → Prop) (hb : σ.blk = (I, .inr (P 0)) :: r) (hok : ∀ i vs led, Inv i vs led → ok led) (hs : ∀ C x, foldedSetIterable i2 (compEnvC scope cl C env) x = Pure.pure x)
    (turn : ∀ i v vs led D C k, (D == sysModules) = false → i < n → item i v → Inv i vs led → W S ⟨σ.m, (D, .inr fun o => o = lstObj vs k) :: (C, .inl []) :: (I, .inr (P (i+1))) :: r, led⟩ (assign t1 (compEnvC scope cl C env) v) (fun _ σ₁ => W S σ₁ (eval i2 (compEnvC scope cl C env)) (fun x σ₂ => W S σ₂ (pyIter x) (fun y σ₃ =>
      ∀ s, St S σ₃ s.heap → codeAny (model PG w) S.A (.compStart (.ListComp elt [⟨t1, i1, [], 0⟩, ⟨t2, i2, [], 0⟩] scope pos) 1 y (.ref D) (compEnvC scope cl C env)) (fun r₁ s₅ => match r₁ with
        | .ok _ => ∃ vs' k' mb led' h' tk', s₅ = { s with heap := h', toks := tk' } ∧ St S ⟨σ.m, (D, .inr fun o => o = lstObj vs' k') :: (C, .inl mb) :: (I, .inr (P (i+1))) :: r, led'⟩ h' ∧ Inv (i+1) vs' led'
        | .error _ => False) s) (fun _ _ => False)) (fun _ _ => False)) (fun _ _ => False))
    (stop : ∀ D vs k led, Inv n vs led → Q (.ref D) ⟨σ.m, r, (D, lstObj vs k) :: led⟩) (h0 : Inv 0 [] σ.led) : CStart2 S σ (.ref I) elt t1 i1 t2 i2 scope pos env cl Q := by
  refine ⟨I, P 0, r, rfl, hb, fun s m led I r Q E x q => K.self s m led I r 0 Q E x q, fun s D C hD x => ?_⟩
  refine compLoop_two0 (fun c s' => ∃ i vs kk mb led h' tk', c = n - i ∧ i ≤ n ∧ s' = { s with heap := h', toks := tk' } ∧ Inv i vs led ∧ St S ⟨σ.m, (D, .inr fun o => o = lstObj vs kk) :: (C, .inl mb) :: (I, .inr (P i)) :: r, led⟩ h') (hs C) ?_ n ?_
  · rintro c s' ⟨i, vs, kk, mb, led, h', tk', rfl, hi, rfl, inv, y⟩
    have y' : St S ⟨σ.m, (I, .inr (P i)) :: (D, .inr fun o => o = lstObj vs kk) :: (C, .inl mb) :: r, led⟩ h' := y.permB perm3
    by_cases hlt : i < n
    · refine K.next _ σ.m led I _ i _ _ hlt (hok _ _ _ inv) y' fun v h₁ tk₁ hv y₁ => ?_
      dsimp only
      obtain ⟨oi, hoi, hpi⟩ := y₁.blk _ (.head _)
      obtain ⟨ci, hci, hni⟩ := K.cls _ _ hpi
      refine letGo_any (s := { s with heap := h₁, toks := tk₁ }) hoi hci hni ?_
      have y₁' := (St.permB y₁ (perm3.symm)).forgetB
      refine (turn i v vs led D C kk hD hlt hv inv).noRaise (s := { s with heap := h₁, toks := tk₁ }) y₁' fun _ σ₁ h₂ tk₂ y₂ q₂ => ?_
      refine q₂.noRaise (s := { s with heap := h₂, toks := tk₂ }) y₂ fun xx σ₂ h₃ tk₃ y₃ q₃ => ?_
      refine q₃.noRaise (s := { s with heap := h₃, toks := tk₃ }) y₃ fun yy σ₃ h₄ tk₄ y₄ q₄ => ?_
      refine codeAny_mono (q₄ { s with heap := h₄, toks := tk₄ } y₄) fun r₁ s₅ h₅ => ?_
      cases r₁ with
      | error _ => exact h₅
      | ok _ =>
        obtain ⟨vs', k', mb', led', h₆, tk₆, rfl, y₆, inv'⟩ := h₅
        exact ⟨n - (i+1), by omega, i+1, vs', k', mb', led', h₆, tk₆, rfl, by omega, rfl, inv', y₆⟩
    · obtain rfl : i = n := by omega
      refine K.stop _ σ.m led I _ _ _ (hok _ _ _ inv) y' fun h₁ tk₁ y₁ => ?_
      obtain ⟨o, rfl, y₅⟩ := St.toLed (σ := ⟨σ.m, (C, .inl mb) :: r, led⟩) y₁ hD
      exact ⟨vs, kk, mb, ⟨σ.m, r, led⟩, h₁, tk₁, rfl, y₅, stop D vs kk led inv⟩
  · obtain ⟨m, b, led⟩ := σ
    obtain rfl : b = (I, .inr (P 0)) :: r := hb
    exact ⟨0, [], 0, [], led, s.heap, s.toks, by omega, by omega, rfl, h0, x⟩
end
end Mine
namespace Mine
noncomputable section
variable {w : World} {fn : Fn} {S : Sit w fn} {σ : Sg} {α β : Type} {E : Value → Heap → Prop}

theorem str_ext {a b : Str} (h : a.cps.toList = b.cps.toList) : a = b := by
  cases a; cases b
  exact congrArg Str.mk (Array.toList_inj.mp h)
theorem joinE_cps : ∀ ys : List Str, (Txt.join "" ys).cps.toList = (ys.map (·.cps.toList)).flatten := by
  intro ys
  show (Builtin.Str.glued (Str.ofString "") ys).cps.toList = _
  rw [StrLaws.glued_eq_join]
  induction ys with
  | nil => rfl
  | cons a r ih =>
    cases r with
    | nil => show a.cps.toList = _; simp
    | cons b r =>
      show (a ++ Str.ofString "" ++ Str.join (Str.ofString "") (b :: r)).cps.toList = _
      rw [Str.cps_append, Str.cps_append, Array.toList_append, Array.toList_append, ih]
      have z : (Str.ofString "").cps.toList = [] := by decide
      rw [z]
      simp
theorem joinE_eq {ys zs : List Str} (h : (ys.map (·.cps.toList)).flatten = (zs.map (·.cps.toList)).flatten) : Txt.join "" ys = Txt.join "" zs := str_ext (by rw [joinE_cps, joinE_cps, h])
theorem joinE_len (ys : List Str) : (Txt.join "" ys).length = (ys.map (·.length)).sum := by
  have h := congrArg List.length (joinE_cps ys)
  rw [List.length_flatten, List.map_map, Array.length_toList] at h
  show (Txt.join "" ys).cps.size = _
  rw [h]
  rfl
def strOkL (x : Str) : Prop := ∀ c ∈ x.cps.toList, c < 0x110000
theorem strOk_of {x : Str} (h : strOkL x) : (PyData.str x).canLay0 = true := by
  show x.cps.all (· < 0x110000) = true
  rw [← Array.all_toList, List.all_eq_true]
  exact fun c hc => decide_eq_true (h c hc)
theorem strOkL_join {ys : List Str} (h : ∀ y ∈ ys, strOkL y) : strOkL (Txt.join "" ys) := by
  intro c hc
  rw [joinE_cps] at hc
  obtain ⟨l, hl, hc⟩ := List.mem_flatten.mp hc
  obtain ⟨y, hy, rfl⟩ := List.mem_map.mp hl
  exact h y hy c hc
-- what compares equal
theorem canLay_list {ds : List PyData} (h : ∀ d ∈ ds, d.canLay0 = true) : PyData.canLayAll0 ds = true := by
  induction ds with
  | nil => rfl
  | cons d ds ih => rw [PyData.canLayAll0, h d (.head _), ih fun d hd => h d (.tail _ hd)]; rfl
theorem depth_list {ds : List PyData} {n : Nat} (h : ∀ d ∈ ds, d.depth ≤ n) : PyData.depthAll ds ≤ n := by
  induction ds with
  | nil => rw [PyData.depthAll]; exact Nat.zero_le _
  | cons d ds ih => rw [PyData.depthAll]; exact Nat.max_le.mpr ⟨h d (.head _), ih fun d hd => h d (.tail _ hd)⟩
theorem shaped_of {d : PyData} (h : d.canLay0 = true) (hd : d.depth ≤ 64) : SeqAt.shaped d = true := by
  unfold SeqAt.shaped
  rw [h, decide_eq_true hd]; rfl
theorem W.neSame {a b : Value} {d : PyData} {Q : Value → Sg → Prop} (ra : RV σ.led a d) (rb : RV σ.led b d) (hc : d.canLay0 = true) (hdd : d.depth ≤ 64) (hu : S.un + 64 < cLine) (h : Q (.bool false) σ) : W S σ (compareOp .NotEq a b) Q E :=
  W.neRV ra rb (shaped_of hc hdd) (shaped_of hc hdd) hu (by rw [PySem.SeqAt.eqv_refl d hc]; exact h)
end
end Mine
namespace Mine
noncomputable section
theorem fillK (P : Params) : hd.heap_39 P = hd.heap_39 P ∧ PySem.Challenge.rw_pb0491_01 = PySem.Challenge.rw_pb0491_01 := by
  k_fill
  exact ⟨rfl, rfl⟩
-- MACROS: the walk's lines (printed by mkmac.py)
local macro_rules | `(tactic| kst_p2) => `(tactic| first | assumption | exact Hole.head | exact Hole.again (by assumption) | (apply Hole.tail; kst_p2) | (apply Hole.app; kst_p2) | (apply Hole.suf <;> first | assumption | kst_p2))
local macro_rules | `(tactic| k_upd) => `(tactic| first | exact List.mem_cons_self | (refine List.mem_cons_of_mem _ ?_; k_upd) | (refine List.mem_append_right _ ?_; k_upd) | assumption | (refine sufmem (by assumption) ?_; k_upd))
local macro_rules | `(tactic| walk_at "w") => `(tactic| repeat (first
  | (with_reducible refine' W.sNext ?_)
  | (with_reducible refine' W.sRet ?_)
  | (with_reducible refine' W.sBrk ?_)
  | ((with_reducible show W _ _ (eval _ _) _ _); first
    | ((with_reducible show W _ _ (eval (Expr.Name _ _) _) _ _); first
      | ((with_reducible refine' W.Name (W.nameL ?c1 ?c2 ?_) ?c3); (case c1 => rfl); (case c2 => rfl); (case c3 => decide))
      | ((with_reducible refine' W.nameG ?c1 ?c2 ?c3 ?c4 ?_ ?c5); (case c1 => rfl); (case c2 => rfl); (case c3 => rfl); (case c4 => k_dflt k_is); (case c5 => decide))
      | ((with_reducible refine' W.nameBI ?c1 ?c2 ?c3 ?c4 ?c5 ?c6 ?c7 ?_ ?c8); (case c1 => rfl); (case c2 => rfl); (case c3 => rfl); (case c4 => rfl); (case c5 => k_dflt k_is); (case c6 => boot_fast); (case c7 => decide); (case c8 => decide))
      | ((with_reducible refine' W.Name (W.nameC ?c1 ?c2 ?_) ?c3); (case c1 => rfl); (case c2 => rfl); (case c3 => decide))
      | ((with_reducible refine' W.Name (W.nameB ?c0 ?c1 ?cm ?c2 ?_) ?c3); (case c0 => rfl); (case c1 => rfl); (case cm => k_upd); (case c2 => rfl); (case c3 => decide))
      | ((with_reducible refine' W.Name (W.nameBC ?c0 ?c1 ?cc ?cS ?cl ?c2 ?_) ?c3); (case c0 => rfl); (case c1 => rfl); (case cc => rfl); (case cS => rfl); (case cl => rfl); (case c2 => rfl); (case c3 => decide)))
    | ((with_reducible refine' W.cInt ?_); intro _)
    | ((with_reducible refine' W.cStr ?_); intro _)
    | ((with_reducible refine' W.cBytes ?_); intro _)
    | (with_reducible refine' W.cBool ?_)
    | (with_reducible refine' W.cNone ?_)
    | (with_reducible refine' W.BinOp ?_)
    | ((with_reducible refine' W.Compare1 ?_ ?c1); (case c1 => with_unfolding_all rfl))
    | ((with_reducible refine' W.sliceTo ?_ ?c1); (case c1 => intro _ _; rfl))
    | (with_reducible refine' W.Subscript ?_)
    | ((with_reducible refine' W.Attr ?_ ?c1); (case c1 => with_unfolding_all rfl))
    | (with_reducible refine' W.Call ?_)
    | ((with_reducible refine' W.MCall ?_ ?c1); (case c1 => rfl))
    | (with_reducible refine' W.IfExp ?_)
    | (with_reducible refine' W.UnaryOp ?_)
    | (with_reducible refine' W.And2 ?_)
    | (with_reducible refine' W.Or2 ?_)
    | (with_reducible refine' W.TupleE ?_)
    | (with_reducible refine' W.ListE ?_)
    | ((with_reducible refine' W.DictNil ?_); intro _ _ _ _; (try dsimp only))
    | ((with_reducible refine' W.DictS ?c1 ?_ ?c2 ?c3 ?c4 ?c5); (case c1 => rfl); (case c2 => rfl); (case c3 => rfl); (case c4 => exact List.cons_ne_nil _ _); (case c5 => decide); intro _; (try dsimp only))
    | ((with_reducible refine' W.DictI ?c1 ?_ ?c2 ?c3 ?c4 ?c5); (case c1 => rfl); (case c2 => rfl); (case c3 => rfl); (case c4 => exact List.cons_ne_nil _ _); (case c5 => decide); intro _; (try dsimp only))
    | ((with_reducible refine' W.ListComp ?c1 ?c2 ?c3 ?c4 ?_ ?c5); (case c1 => rfl); (case c2 => decide); (case c3 => rfl); (case c4 => decide); (case c5 => intro _; rfl)))
  | ((with_reducible show W _ _ (exec _ _) _ _); first
    | ((with_reducible refine' W.AssignName ?_ ?c1); (case c1 => rfl))
    | ((with_reducible refine' W.AssignOne ?c1 ?_); (case c1 => rfl))
    | (with_reducible refine' W.If ?_)
    | ((with_reducible refine' W.For ?_ ?c1); (case c1 => intro _; rfl))
    | ((with_reducible refine' W.AssignComp ?c0 ?c1 ?c2 ?c3 ?c4 ?_ ?c5); (case c0 => rfl); (case c1 => rfl); (case c2 => decide); (case c3 => rfl); (case c4 => decide); (case c5 => intro _; rfl))
    | (with_reducible refine' W.Return ?_)
    | (with_reducible refine' W.Pass ?_)
    | (with_reducible refine' W.Break ?_)
    | ((with_reducible refine' W.ExprA ?_ ?c1 ?c2); (case c1 => rfl); (case c2 => rfl)))
  | ((with_reducible show W _ _ (isTrue _ _ _) _ _); first
    | ((with_reducible refine' W.tCmp2 ?_ ?c1); (case c1 => with_unfolding_all rfl))
    | ((with_reducible refine' W.tCmp ?_ ?c1); (case c1 => with_unfolding_all rfl))
    | (with_reducible refine' W.tNot ?_)
    | (with_reducible refine' W.tBool1 ?_)
    | ((with_reducible refine' W.tVal ?_ ?c1); (case c1 => rfl)))
  | ((with_reducible show W _ _ (callWith _ _ _ _ _) _ _); first
    | ((with_reducible refine' W.cwBn ?_ ?c2 ?c3); (case c2 => rfl); (case c3 => rfl))
    | ((with_reducible refine' W.cwB1 ?_ ?c2 ?c3); (case c2 => rfl); (case c3 => rfl))
    | (with_reducible refine' W.cwB0 ?_)
    | ((with_reducible refine' W.cwT ?_ ?c2 ?c3); (case c2 => rfl); (case c3 => rfl))
    | ((with_reducible refine' W.cwKn ?c1 ?_ ?c2 ?c3); (case c1 => k_dflt k_is); (case c2 => rfl); (case c3 => rfl))
    | ((with_reducible refine' W.cwK1 ?c1 ?_ ?c2 ?c3); (case c1 => k_dflt k_is); (case c2 => rfl); (case c3 => rfl))
    | ((with_reducible refine' W.cwK0n ?c1 ?_); (case c1 => k_dflt k_is))
    | ((with_reducible refine' W.cwK01 ?c1 ?_); (case c1 => k_dflt k_is)))
  | ((with_reducible show W _ _ (spliced _) _ _); first
    | (with_reducible refine' W.spNil ?_)
    | ((with_reducible refine' W.spCons ?_ ?c2); (case c2 => rfl)))
  | ((with_reducible show W _ _ (storeName _ _ _) _ _); first
    | ((with_reducible refine' W.storeL ?c1 ?_); (case c1 => rfl); (try dsimp only))
    | ((with_reducible refine' W.storeC ?c1 ?c2 ?_); (case c1 => rfl); (case c2 => rfl); (try dsimp only))
    | ((with_reducible refine' W.storeB ?c1 ?c2 ?c3 ?_); (case c1 => rfl); (case c2 => rfl); (case c3 => kst_p2); (try dsimp only)))
  | ((with_reducible show W _ _ (binaryOp _ _ _) _ _); first
    | ((with_reducible refine' W.addL ?m ?b ?z ?_); (case m => k_upd); (case b => k_upd); (case z => first | assumption | exact Nat.le_of_ble_eq_true rfl); intro _; (try dsimp only))
    | ((with_reducible refine' W.addT0 ?m ?b ?z ?_); (case m => k_upd); (case b => k_upd); (case z => first | assumption | exact Nat.le_of_ble_eq_true rfl))
    | ((with_reducible refine' W.addI ?_); intro _)
    | ((with_reducible refine' W.subI ?_); intro _)
    | ((with_reducible refine' W.mulI ?c1 ?_); (case c1 => mul_fits); intro _))
  | ((with_reducible show W _ _ (compareOp _ _ _) _ _); first
    | ((with_reducible refine' W.inTupI ?m ?i ?_); (case m => k_upd); (case i => repeat constructor))
    | ((with_reducible refine' W.neNil ?m ?b ?u ?_); (case m => k_upd); (case b => k_upd); (case u => omega))
    | ((with_reducible refine' W.eqNil ?m ?b ?u ?_); (case m => k_upd); (case b => k_upd); (case u => omega))
    | (with_reducible refine' W.eqI ?_)
    | (with_reducible refine' W.neI ?_)
    | (with_reducible refine' W.ltI ?_)
    | (with_reducible refine' W.gtI ?_)
    | (with_reducible refine' W.leI ?_)
    | (with_reducible refine' W.geI ?_)
    | (with_reducible refine' W.eqS ?_)
    | (with_reducible refine' W.neS ?_)
    | (with_reducible refine' W.isNone ?_)
    | (with_reducible refine' W.isNotNone ?_)
    | ((with_reducible refine' W.dInS ?m ?d ?l ?_); (case m => k_upd); (case d => first | (with_reducible assumption) | assumption); (case l => first | assumption | rfl))
    | ((with_reducible refine' W.dInI ?m ?d ?l ?_); (case m => k_upd); (case d => first | (with_reducible assumption) | assumption); (case l => first | assumption | rfl))
    | ((with_reducible refine' W.dNotInS ?m ?d ?l ?_); (case m => k_upd); (case d => first | (with_reducible assumption) | assumption); (case l => first | assumption | rfl))
    | ((with_reducible refine' W.dNotInI ?m ?d ?l ?_); (case m => k_upd); (case d => first | (with_reducible assumption) | assumption); (case l => first | assumption | rfl)))
  | ((with_reducible show W _ _ (subscriptTail _ _ _ _) _ _); first
    | ((with_reducible refine' W.dItemS ?m ?d ?l ?_ ?c5 ?c6); (case m => k_upd); (case d => first | (with_reducible assumption) | assumption); (case l => first | assumption | rfl); (case c5 => with_unfolding_all rfl); (case c6 => intro _; with_unfolding_all rfl))
    | ((with_reducible refine' W.dItemI ?m ?d ?l ?_ ?c5 ?c6); (case m => k_upd); (case d => first | (with_reducible assumption) | assumption); (case l => first | assumption | rfl); (case c5 => with_unfolding_all rfl); (case c6 => intro _; with_unfolding_all rfl))
    | ((with_reducible refine' W.itemL ?c1 ?c2 ?c3 ?c4 ?_ ?c5); (case c1 => k_upd); (case c2 => decide); (case c3 => decide); (case c4 => rfl); (case c5 => with_unfolding_all rfl))
    | ((with_reducible refine' W.itemT ?c1 ?c2 ?c3 ?c4 ?c6 ?_ ?c5); (case c1 => k_upd); (case c2 => decide); (case c3 => decide); (case c4 => rfl); (case c6 => rfl); (case c5 => with_unfolding_all rfl)))
  | ((with_reducible show W _ _ (assign _ _ _) _ _); first
    | ((with_reducible refine' W.aTup2 ?m ?_); (case m => k_upd))
    | ((with_reducible refine' W.aTup3 ?m ?_); (case m => k_upd))
    | (with_reducible refine' W.assignName ?_)
    | (with_reducible refine' W.aAttr ?_)
    | (with_reducible refine' W.aSub ?_))
  | ((with_reducible show W _ _ (setItem _ _ _) _ _); first
    | ((with_reducible refine' W.dSetS ?m ?d ?z ?_); (case m => kst_p2); (case d => first | (with_reducible assumption) | assumption); (case z => first | assumption | exact Nat.le_of_ble_eq_true rfl); intro _ _; (try dsimp only))
    | ((with_reducible refine' W.dSetI ?m ?d ?z ?_); (case m => kst_p2); (case d => first | (with_reducible assumption) | assumption); (case z => first | assumption | exact Nat.le_of_ble_eq_true rfl); intro _ _; (try dsimp only))
    | ((with_reducible refine' W.setItemL ?c1 ?c2 ?c3 ?c4 ?_); (case c1 => kst_p2); (case c2 => decide); (case c3 => decide); (case c4 => first | decide | (simp; done) | (simp; omega)); (try dsimp only)))
  | ((with_reducible show W _ _ (unaryOp _ _) _ _); first
    | ((with_reducible refine' W.negI ?_); intro _)
    | (with_reducible refine' W.notV ?_))
  | ((with_reducible show W _ _ (allTrue _ _ _) _ _); first
    | (with_reducible refine' W.tAnd ?_)
    | (with_reducible refine' W.tOr ?_)
    | (with_reducible refine' W.tAndNil ?_)
    | (with_reducible refine' W.tOrNil ?_))
  | ((with_reducible show W _ _ (getAttr _ _ _) _ _); first
    | ((with_reducible refine' W.getA ?m1 ?m2 ?k1 ?k2 ?k3 ?k4 ?l ?c ?_); (case m1 => k_upd); (case m2 => k_upd); (case k1 => k_dflt k_is); (case k2 => k_dflt k_is); (case k3 => k_dflt k_is); (case k4 => k_dflt k_is); (case l => rfl); (case c => rfl)))
  | ((with_reducible show W _ _ (setAttr _ _ _) _ _); first
    | ((with_reducible refine' W.setA ?m1 ?m2 ?k1 ?k2 ?k3 ?k4 ?l ?c ?_); (case m1 => k_upd); (case m2 => kst_p2); (case k1 => k_dflt k_is); (case k2 => k_dflt k_is); (case k3 => k_dflt k_is); (case k4 => k_dflt k_is); (case l => rfl); (case c => exact Nat.le_of_ble_eq_true rfl); intro _; (try dsimp only)))
  | ((with_reducible show W _ _ (getMethod _ _ _) _ _); first
    | (with_reducible refine' W.bMeth ?_)
    | ((with_reducible refine' W.methL (id := "list.pop") ?m PySem.F.slot_list_pop ?t ?_); (case m => k_upd); (case t => exact PySem.F.type_list_pop))
    | ((with_reducible refine' W.methL (id := "list.extend") ?m PySem.F.slot_list_extend ?t ?_); (case m => k_upd); (case t => exact PySem.F.type_list_extend))
    | ((with_reducible refine' W.methL (id := "list.insert") ?m PySem.F.slot_list_insert ?t ?_); (case m => k_upd); (case t => exact PySem.F.type_list_insert))
    | (with_reducible refine' W.methS PySem.F.slot_str_join PySem.F.type_str_join ?_)
    | ((with_reducible refine' W.methI ?m1 ?m2 ?k1 ?k2 ?k3 ?l ?_); (case m1 => k_upd); (case m2 => k_upd); (case k1 => k_dflt k_is); (case k2 => k_dflt k_is); (case k3 => k_dflt k_is); (case l => rfl))
    | ((with_reducible refine' W.methL (id := "list.append") ?m PySem.F.slot_list_append ?t ?_); (case m => k_upd); (case t => exact PySem.F.type_list_append))
    | ((with_reducible refine' W.dMethS ?m ?d PySem.F.slot_dict_get PySem.F.type_dict_get ?_); (case m => k_upd); (case d => first | (with_reducible assumption) | assumption))
    | ((with_reducible refine' W.dMethI ?m ?d PySem.F.slot_dict_get PySem.F.type_dict_get ?_); (case m => k_upd); (case d => first | (with_reducible assumption) | assumption))
    | ((with_reducible refine' W.dMethS ?m ?d PySem.F.slot_dict_pop PySem.F.type_dict_pop ?_); (case m => k_upd); (case d => first | (with_reducible assumption) | assumption))
    | ((with_reducible refine' W.dMethI ?m ?d PySem.F.slot_dict_pop PySem.F.type_dict_pop ?_); (case m => k_upd); (case d => first | (with_reducible assumption) | assumption)))
  | ((with_reducible show W _ _ (call _ _) _ _); first
    | (with_reducible refine' W.bStarts ?_)
    | ((with_reducible refine' W.enumL ?m ?_); (case m => k_upd); intro _ _; (try dsimp only))
    | ((with_reducible refine' W.popC1 ?m ?_); (case m => kst_p2); (try dsimp only))
    | ((with_reducible refine' W.popC2 ?m ?_); (case m => kst_p2); (try dsimp only))
    | ((with_reducible refine' W.popL0 ?m ?z ?_); (case m => kst_p2); (case z => first | assumption | exact Nat.le_of_ble_eq_true rfl); (try dsimp only))
    | ((with_reducible refine' W.insertL0 ?m ?z ?_); (case m => kst_p2); (case z => first | assumption | exact Nat.le_of_ble_eq_true rfl); (try dsimp only))
    | ((with_reducible refine' W.extendL ?m ?b ?z ?_); (case m => kst_p2); (case b => k_upd); (case z => first | assumption | exact Nat.le_of_ble_eq_true rfl); intro _; (try dsimp only))
    | ((with_reducible refine' W.range1 ?_); intro _ _ _ _; (try dsimp only))
    | ((with_reducible refine' W.lenL ?m ?z ?_); (case m => k_upd); (case z => first | assumption | exact Nat.le_of_ble_eq_true rfl); intro _)
    | ((with_reducible refine' W.tupL ?m ?z ?_); (case m => k_upd); (case z => first | assumption | exact Nat.le_of_ble_eq_true rfl); intro _; (try dsimp only))
    | ((with_reducible refine' W.iterRev ?m ?_); (case m => k_upd); intro _; (try dsimp only))
    | ((with_reducible refine' W.absI ?_); intro _)
    | (with_reducible refine' W.intI ?_)
    | ((with_reducible refine' W.intB ?_); intro _)
    | ((with_reducible refine' W.appendL ?m ?z ?_); (case m => kst_p2); (case z => first | assumption | exact Nat.le_of_ble_eq_true rfl | omega); (try dsimp only))
    | ((with_reducible refine' W.dGet1S ?m ?d ?l ?_); (case m => k_upd); (case d => first | (with_reducible assumption) | assumption); (case l => first | assumption | rfl))
    | ((with_reducible refine' W.dGet1I ?m ?d ?l ?_); (case m => k_upd); (case d => first | (with_reducible assumption) | assumption); (case l => first | assumption | rfl))
    | ((with_reducible refine' W.dGet2S ?m ?d ?l ?_); (case m => k_upd); (case d => first | (with_reducible assumption) | assumption); (case l => first | assumption | rfl))
    | ((with_reducible refine' W.dGet2I ?m ?d ?l ?_); (case m => k_upd); (case d => first | (with_reducible assumption) | assumption); (case l => first | assumption | rfl))
    | ((with_reducible refine' W.dCopyS ?m ?d ?z ?_); (case m => k_upd); (case d => first | (with_reducible assumption) | assumption); (case z => first | assumption | exact Nat.le_of_ble_eq_true rfl); intro _ _ _; (try dsimp only))
    | ((with_reducible refine' W.dCopyI ?m ?d ?z ?_); (case m => k_upd); (case d => first | (with_reducible assumption) | assumption); (case z => first | assumption | exact Nat.le_of_ble_eq_true rfl); intro _ _ _; (try dsimp only))
    | ((with_reducible refine' W.dPopS ?m ?d ?l ?z ?_); (case m => kst_p2); (case d => first | (with_reducible assumption) | assumption); (case l => first | assumption | rfl); (case z => first | assumption | exact Nat.le_of_ble_eq_true rfl); intro _ _; (try dsimp only))
    | ((with_reducible refine' W.dPopI ?m ?d ?l ?z ?_); (case m => kst_p2); (case d => first | (with_reducible assumption) | assumption); (case l => first | assumption | rfl); (case z => first | assumption | exact Nat.le_of_ble_eq_true rfl); intro _ _; (try dsimp only))
    | ((with_reducible refine' W.isiInt ?e ?_); (case e => kit_is))
    | ((with_reducible refine' W.isiStr ?e ?_); (case e => kit_is))
    | ((with_reducible refine' W.isiNone ?e ?_); (case e => kit_is))
    | ((with_reducible refine' W.isiList ?m ?e ?_); (case m => k_upd); (case e => kit_is))
    | ((with_reducible refine' W.isiOwn ?m1 ?m2 ?k1 ?k2 ?k3 ?k4 ?k5 ?k6 ?e ?_); (case m1 => k_upd); (case m2 => k_upd); (case k1 => k_dflt k_is); (case k2 => k_dflt k_is); (case k3 => k_dflt k_is); (case k4 => k_dflt k_is); (case k5 => k_dflt k_is); (case k6 => k_dflt k_is); (case e => kit_is))
    | ((with_reducible refine' W.isiDictS ?m ?d ?e ?_); (case m => k_upd); (case d => first | (with_reducible assumption) | assumption); (case e => kit_is); (try dsimp only)))
  | ((with_reducible show W _ _ (evalPairs _) _ _); first
    | (with_reducible refine' W.prNil ?_)
    | (with_reducible refine' W.prCons ?_))
  | ((with_reducible show W _ _ (pyIter _) _ _); first
    | ((with_reducible refine' W.iterEn ?h ?_); (case h => rfl))
    | ((with_reducible refine' W.iterRev2 ?h ?_); (case h => rfl); (try dsimp only))
    | ((with_reducible refine' W.iterL ?m ?_); (case m => k_upd); intro _; (try dsimp only))
    | ((with_reducible refine' W.iterT ?m ?_); (case m => k_upd); intro _; (try dsimp only))
    | ((with_reducible refine' W.iterTK ?k ?_); (case k => k_dflt k_is); intro _; (try dsimp only)))
  | ((with_reducible show W _ _ (assignInOrder _ _) _ _); first
    | (with_reducible refine' W.aoNil ?_)
    | (with_reducible refine' W.aoCons ?_))
  | ((with_reducible show W _ _ (truthy _) _ _); first
    | (with_reducible refine' W.tBool ?_)
    | ((with_reducible refine' W.truL ?m ?z ?_); (case m => k_upd); (case z => first | assumption | exact Nat.le_of_ble_eq_true rfl)))
  | (with_reducible refine' W.xCons ?_)
  | (with_reducible refine' W.xNil ?_)
  | (with_reducible refine' Ifs.cons ?_)
  | (with_reducible refine' Ifs.nil ?_)
  | ((with_reducible refine' ite_t ?c ?_); (case c => rfl))
  | ((with_reducible refine' ite_f ?c ?_); (case c => rfl))
  | ((with_reducible refine' TDone.mk ?c1 ?_); (case c1 => exact Nat.le_of_ble_eq_true rfl); intro _; (try dsimp only))
  | ((with_reducible refine' DDone.str ?c1 ?c2 ?c3 ?_); (case c1 => rfl); (case c2 => exact of_decide_eq_true (by rfl)); (case c3 => rfl); intro _ _; (try dsimp only))
  | ((with_reducible refine' DDone.int ?c1 ?c2 ?c3 ?_); (case c1 => rfl); (case c2 => exact of_decide_eq_true (by rfl)); (case c3 => rfl); intro _ _; (try dsimp only))
  | (dsimp only [List.cons_append, Option.getD_none, Option.getD_some, Option.isSome_none, Option.isSome_some, List.nil_append, Bool.not_true, Bool.not_false])))
local macro_rules | `(tactic| walk_at "ws") => `(tactic| repeat (first
  | (with_reducible refine' W.sNext ?_)
  | (with_reducible refine' W.sRet ?_)
  | (with_reducible refine' W.sBrk ?_)
  | ((with_reducible show W _ _ (eval _ _) _ _); first
    | ((with_reducible show W _ _ (eval (Expr.Name _ _) _) _ _); first
      | ((with_reducible refine' W.Name (W.nameL ?c1 ?c2 ?_) ?c3); (case c1 => rfl); (case c2 => rfl); (case c3 => decide))
      | ((with_reducible refine' W.nameG ?c1 ?c2 ?c3 ?c4 ?_ ?c5); (case c1 => rfl); (case c2 => rfl); (case c3 => rfl); (case c4 => k_dflt k_is); (case c5 => decide))
      | ((with_reducible refine' W.nameBI ?c1 ?c2 ?c3 ?c4 ?c5 ?c6 ?c7 ?_ ?c8); (case c1 => rfl); (case c2 => rfl); (case c3 => rfl); (case c4 => rfl); (case c5 => k_dflt k_is); (case c6 => boot_fast); (case c7 => decide); (case c8 => decide))
      | ((with_reducible refine' W.Name (W.nameC ?c1 ?c2 ?_) ?c3); (case c1 => rfl); (case c2 => rfl); (case c3 => decide))
      | ((with_reducible refine' W.Name (W.nameB ?c0 ?c1 ?cm ?c2 ?_) ?c3); (case c0 => rfl); (case c1 => rfl); (case cm => k_upd); (case c2 => rfl); (case c3 => decide))
      | ((with_reducible refine' W.Name (W.nameBC ?c0 ?c1 ?cc ?cS ?cl ?c2 ?_) ?c3); (case c0 => rfl); (case c1 => rfl); (case cc => rfl); (case cS => rfl); (case cl => rfl); (case c2 => rfl); (case c3 => decide)))
    | ((with_reducible refine' W.cInt ?_); intro _)
    | ((with_reducible refine' W.cStr ?_); intro _)
    | ((with_reducible refine' W.cBytes ?_); intro _)
    | (with_reducible refine' W.cBool ?_)
    | (with_reducible refine' W.cNone ?_)
    | (with_reducible refine' W.BinOp ?_)
    | ((with_reducible refine' W.Compare1 ?_ ?c1); (case c1 => with_unfolding_all rfl))
    | ((with_reducible refine' W.sliceTo ?_ ?c1); (case c1 => intro _ _; rfl))
    | (with_reducible refine' W.Subscript ?_)
    | ((with_reducible refine' W.Attr ?_ ?c1); (case c1 => with_unfolding_all rfl))
    | (with_reducible refine' W.Call ?_)
    | ((with_reducible refine' W.MCall ?_ ?c1); (case c1 => rfl))
    | (with_reducible refine' W.IfExp ?_)
    | (with_reducible refine' W.UnaryOp ?_)
    | (with_reducible refine' W.And2 ?_)
    | (with_reducible refine' W.Or2 ?_)
    | (with_reducible refine' W.TupleE ?_)
    | (with_reducible refine' W.ListE ?_)
    | ((with_reducible refine' W.DictNil ?_); intro _ _ _ _; (try dsimp only))
    | ((with_reducible refine' W.DictS ?c1 ?_ ?c2 ?c3 ?c4 ?c5); (case c1 => rfl); (case c2 => rfl); (case c3 => rfl); (case c4 => exact List.cons_ne_nil _ _); (case c5 => decide); intro _; (try dsimp only))
    | ((with_reducible refine' W.DictI ?c1 ?_ ?c2 ?c3 ?c4 ?c5); (case c1 => rfl); (case c2 => rfl); (case c3 => rfl); (case c4 => exact List.cons_ne_nil _ _); (case c5 => decide); intro _; (try dsimp only))
    | ((with_reducible refine' W.ListComp ?c1 ?c2 ?c3 ?c4 ?_ ?c5); (case c1 => rfl); (case c2 => decide); (case c3 => rfl); (case c4 => decide); (case c5 => intro _; rfl)))
  | ((with_reducible show W _ _ (exec _ _) _ _); first
    | ((with_reducible refine' W.AssignName ?_ ?c1); (case c1 => rfl))
    | ((with_reducible refine' W.AssignOne ?c1 ?_); (case c1 => rfl))
    | (with_reducible refine' W.If ?_)
    | ((with_reducible refine' W.For ?_ ?c1); (case c1 => intro _; rfl))
    | ((with_reducible refine' W.AssignComp ?c0 ?c1 ?c2 ?c3 ?c4 ?_ ?c5); (case c0 => rfl); (case c1 => rfl); (case c2 => decide); (case c3 => rfl); (case c4 => decide); (case c5 => intro _; rfl))
    | (with_reducible refine' W.Return ?_)
    | (with_reducible refine' W.Pass ?_)
    | (with_reducible refine' W.Break ?_)
    | ((with_reducible refine' W.ExprA ?_ ?c1 ?c2); (case c1 => rfl); (case c2 => rfl)))
  | ((with_reducible show W _ _ (isTrue _ _ _) _ _); first
    | ((with_reducible refine' W.tCmp2 ?_ ?c1); (case c1 => with_unfolding_all rfl))
    | ((with_reducible refine' W.tCmp ?_ ?c1); (case c1 => with_unfolding_all rfl))
    | (with_reducible refine' W.tNot ?_)
    | (with_reducible refine' W.tBool1 ?_)
    | ((with_reducible refine' W.tVal ?_ ?c1); (case c1 => rfl)))
  | ((with_reducible show W _ _ (callWith _ _ _ _ _) _ _); first
    | ((with_reducible refine' W.cwBn ?_ ?c2 ?c3); (case c2 => rfl); (case c3 => rfl))
    | ((with_reducible refine' W.cwB1 ?_ ?c2 ?c3); (case c2 => rfl); (case c3 => rfl))
    | (with_reducible refine' W.cwB0 ?_)
    | ((with_reducible refine' W.cwT ?_ ?c2 ?c3); (case c2 => rfl); (case c3 => rfl))
    | ((with_reducible refine' W.cwKn ?c1 ?_ ?c2 ?c3); (case c1 => k_dflt k_is); (case c2 => rfl); (case c3 => rfl))
    | ((with_reducible refine' W.cwK1 ?c1 ?_ ?c2 ?c3); (case c1 => k_dflt k_is); (case c2 => rfl); (case c3 => rfl))
    | ((with_reducible refine' W.cwK0n ?c1 ?_); (case c1 => k_dflt k_is))
    | ((with_reducible refine' W.cwK01 ?c1 ?_); (case c1 => k_dflt k_is)))
  | ((with_reducible show W _ _ (spliced _) _ _); first
    | (with_reducible refine' W.spNil ?_)
    | ((with_reducible refine' W.spCons ?_ ?c2); (case c2 => rfl)))
  | ((with_reducible show W _ _ (storeName _ _ _) _ _); first
    | ((with_reducible refine' W.storeL ?c1 ?_); (case c1 => rfl); (try dsimp only))
    | ((with_reducible refine' W.storeC ?c1 ?c2 ?_); (case c1 => rfl); (case c2 => rfl); (try dsimp only))
    | ((with_reducible refine' W.storeB ?c1 ?c2 ?c3 ?_); (case c1 => rfl); (case c2 => rfl); (case c3 => kst_p2); (try dsimp only)))
  | ((with_reducible show W _ _ (binaryOp _ _ _) _ _); first
    | ((with_reducible refine' W.addL ?m ?b ?z ?_); (case m => k_upd); (case b => k_upd); (case z => first | assumption | exact Nat.le_of_ble_eq_true rfl); intro _; (try dsimp only))
    | ((with_reducible refine' W.addT0 ?m ?b ?z ?_); (case m => k_upd); (case b => k_upd); (case z => first | assumption | exact Nat.le_of_ble_eq_true rfl))
    | ((with_reducible refine' W.addI ?_); intro _)
    | ((with_reducible refine' W.subI ?_); intro _)
    | ((with_reducible refine' W.mulI ?c1 ?_); (case c1 => mul_fits); intro _))
  | ((with_reducible show W _ _ (compareOp _ _ _) _ _); first
    | ((with_reducible refine' W.inTupI ?m ?i ?_); (case m => k_upd); (case i => repeat constructor))
    | ((with_reducible refine' W.neNil ?m ?b ?u ?_); (case m => k_upd); (case b => k_upd); (case u => omega))
    | ((with_reducible refine' W.eqNil ?m ?b ?u ?_); (case m => k_upd); (case b => k_upd); (case u => omega))
    | (with_reducible refine' W.eqI ?_)
    | (with_reducible refine' W.neI ?_)
    | (with_reducible refine' W.ltI ?_)
    | (with_reducible refine' W.gtI ?_)
    | (with_reducible refine' W.leI ?_)
    | (with_reducible refine' W.geI ?_)
    | (with_reducible refine' W.eqS ?_)
    | (with_reducible refine' W.neS ?_)
    | (with_reducible refine' W.isNone ?_)
    | (with_reducible refine' W.isNotNone ?_)
    | ((with_reducible refine' W.dInS ?m ?d ?l ?_); (case m => k_upd); (case d => first | (with_reducible assumption) | assumption); (case l => first | assumption | rfl))
    | ((with_reducible refine' W.dInI ?m ?d ?l ?_); (case m => k_upd); (case d => first | (with_reducible assumption) | assumption); (case l => first | assumption | rfl))
    | ((with_reducible refine' W.dNotInS ?m ?d ?l ?_); (case m => k_upd); (case d => first | (with_reducible assumption) | assumption); (case l => first | assumption | rfl))
    | ((with_reducible refine' W.dNotInI ?m ?d ?l ?_); (case m => k_upd); (case d => first | (with_reducible assumption) | assumption); (case l => first | assumption | rfl)))
  | ((with_reducible show W _ _ (subscriptTail _ _ _ _) _ _); first
    | ((with_reducible refine' W.dItemS ?m ?d ?l ?_ ?c5 ?c6); (case m => k_upd); (case d => first | (with_reducible assumption) | assumption); (case l => first | assumption | rfl); (case c5 => with_unfolding_all rfl); (case c6 => intro _; with_unfolding_all rfl))
    | ((with_reducible refine' W.dItemI ?m ?d ?l ?_ ?c5 ?c6); (case m => k_upd); (case d => first | (with_reducible assumption) | assumption); (case l => first | assumption | rfl); (case c5 => with_unfolding_all rfl); (case c6 => intro _; with_unfolding_all rfl))
    | ((with_reducible refine' W.itemL ?c1 ?c2 ?c3 ?c4 ?_ ?c5); (case c1 => k_upd); (case c2 => decide); (case c3 => decide); (case c4 => rfl); (case c5 => with_unfolding_all rfl))
    | ((with_reducible refine' W.itemT ?c1 ?c2 ?c3 ?c4 ?c6 ?_ ?c5); (case c1 => k_upd); (case c2 => decide); (case c3 => decide); (case c4 => rfl); (case c6 => rfl); (case c5 => with_unfolding_all rfl)))
  | ((with_reducible show W _ _ (assign _ _ _) _ _); first
    | ((with_reducible refine' W.aTup2 ?m ?_); (case m => k_upd))
    | ((with_reducible refine' W.aTup3 ?m ?_); (case m => k_upd))
    | (with_reducible refine' W.assignName ?_)
    | (with_reducible refine' W.aAttr ?_)
    | (with_reducible refine' W.aSub ?_))
  | ((with_reducible show W _ _ (setItem _ _ _) _ _); first
    | ((with_reducible refine' W.dSetS ?m ?d ?z ?_); (case m => kst_p2); (case d => first | (with_reducible assumption) | assumption); (case z => first | assumption | exact Nat.le_of_ble_eq_true rfl); intro _ _; (try dsimp only))
    | ((with_reducible refine' W.dSetI ?m ?d ?z ?_); (case m => kst_p2); (case d => first | (with_reducible assumption) | assumption); (case z => first | assumption | exact Nat.le_of_ble_eq_true rfl); intro _ _; (try dsimp only))
    | ((with_reducible refine' W.setItemL ?c1 ?c2 ?c3 ?c4 ?_); (case c1 => kst_p2); (case c2 => decide); (case c3 => decide); (case c4 => first | decide | (simp; done) | (simp; omega)); (try dsimp only)))
  | ((with_reducible show W _ _ (unaryOp _ _) _ _); first
    | ((with_reducible refine' W.negI ?_); intro _)
    | (with_reducible refine' W.notV ?_))
  | ((with_reducible show W _ _ (allTrue _ _ _) _ _); first
    | (with_reducible refine' W.tAnd ?_)
    | (with_reducible refine' W.tOr ?_)
    | (with_reducible refine' W.tAndNil ?_)
    | (with_reducible refine' W.tOrNil ?_))
  | ((with_reducible show W _ _ (getAttr _ _ _) _ _); first
    | ((with_reducible refine' W.getA ?m1 ?m2 ?k1 ?k2 ?k3 ?k4 ?l ?c ?_); (case m1 => k_upd); (case m2 => k_upd); (case k1 => k_dflt k_is); (case k2 => k_dflt k_is); (case k3 => k_dflt k_is); (case k4 => k_dflt k_is); (case l => rfl); (case c => rfl)))
  | ((with_reducible show W _ _ (setAttr _ _ _) _ _); first
    | ((with_reducible refine' W.setA ?m1 ?m2 ?k1 ?k2 ?k3 ?k4 ?l ?c ?_); (case m1 => k_upd); (case m2 => kst_p2); (case k1 => k_dflt k_is); (case k2 => k_dflt k_is); (case k3 => k_dflt k_is); (case k4 => k_dflt k_is); (case l => rfl); (case c => exact Nat.le_of_ble_eq_true rfl); intro _; (try dsimp only)))
  | ((with_reducible show W _ _ (getMethod _ _ _) _ _); first
    | (with_reducible refine' W.bMeth ?_)
    | ((with_reducible refine' W.methL (id := "list.pop") ?m PySem.F.slot_list_pop ?t ?_); (case m => k_upd); (case t => exact PySem.F.type_list_pop))
    | ((with_reducible refine' W.methL (id := "list.extend") ?m PySem.F.slot_list_extend ?t ?_); (case m => k_upd); (case t => exact PySem.F.type_list_extend))
    | ((with_reducible refine' W.methL (id := "list.insert") ?m PySem.F.slot_list_insert ?t ?_); (case m => k_upd); (case t => exact PySem.F.type_list_insert))
    | (with_reducible refine' W.methS PySem.F.slot_str_join PySem.F.type_str_join ?_)
    | ((with_reducible refine' W.methI ?m1 ?m2 ?k1 ?k2 ?k3 ?l ?_); (case m1 => k_upd); (case m2 => k_upd); (case k1 => k_dflt k_is); (case k2 => k_dflt k_is); (case k3 => k_dflt k_is); (case l => rfl))
    | ((with_reducible refine' W.methL (id := "list.append") ?m PySem.F.slot_list_append ?t ?_); (case m => k_upd); (case t => exact PySem.F.type_list_append))
    | ((with_reducible refine' W.dMethS ?m ?d PySem.F.slot_dict_get PySem.F.type_dict_get ?_); (case m => k_upd); (case d => first | (with_reducible assumption) | assumption))
    | ((with_reducible refine' W.dMethI ?m ?d PySem.F.slot_dict_get PySem.F.type_dict_get ?_); (case m => k_upd); (case d => first | (with_reducible assumption) | assumption))
    | ((with_reducible refine' W.dMethS ?m ?d PySem.F.slot_dict_pop PySem.F.type_dict_pop ?_); (case m => k_upd); (case d => first | (with_reducible assumption) | assumption))
    | ((with_reducible refine' W.dMethI ?m ?d PySem.F.slot_dict_pop PySem.F.type_dict_pop ?_); (case m => k_upd); (case d => first | (with_reducible assumption) | assumption)))
  | ((with_reducible show W _ _ (call _ _) _ _); first
    | (with_reducible refine' W.bStarts ?_)
    | ((with_reducible refine' W.enumL ?m ?_); (case m => k_upd); intro _ _; (try dsimp only))
    | ((with_reducible refine' W.popC1 ?m ?_); (case m => kst_p2); (try dsimp only))
    | ((with_reducible refine' W.popC2 ?m ?_); (case m => kst_p2); (try dsimp only))
    | ((with_reducible refine' W.popL0 ?m ?z ?_); (case m => kst_p2); (case z => first | assumption | exact Nat.le_of_ble_eq_true rfl); (try dsimp only))
    | ((with_reducible refine' W.insertL0 ?m ?z ?_); (case m => kst_p2); (case z => first | assumption | exact Nat.le_of_ble_eq_true rfl); (try dsimp only))
    | ((with_reducible refine' W.extendL ?m ?b ?z ?_); (case m => kst_p2); (case b => k_upd); (case z => first | assumption | exact Nat.le_of_ble_eq_true rfl); intro _; (try dsimp only))
    | ((with_reducible refine' W.range1 ?_); intro _ _ _ _; (try dsimp only))
    | ((with_reducible refine' W.lenL ?m ?z ?_); (case m => k_upd); (case z => first | assumption | exact Nat.le_of_ble_eq_true rfl); intro _)
    | ((with_reducible refine' W.tupL ?m ?z ?_); (case m => k_upd); (case z => first | assumption | exact Nat.le_of_ble_eq_true rfl); intro _; (try dsimp only))
    | ((with_reducible refine' W.iterRev ?m ?_); (case m => k_upd); intro _; (try dsimp only))
    | ((with_reducible refine' W.absI ?_); intro _)
    | (with_reducible refine' W.intI ?_)
    | ((with_reducible refine' W.intB ?_); intro _)
    | ((with_reducible refine' W.appendL ?m ?z ?_); (case m => kst_p2); (case z => first | assumption | exact Nat.le_of_ble_eq_true rfl | omega); (try dsimp only))
    | ((with_reducible refine' W.dGet1S ?m ?d ?l ?_); (case m => k_upd); (case d => first | (with_reducible assumption) | assumption); (case l => first | assumption | rfl))
    | ((with_reducible refine' W.dGet1I ?m ?d ?l ?_); (case m => k_upd); (case d => first | (with_reducible assumption) | assumption); (case l => first | assumption | rfl))
    | ((with_reducible refine' W.dGet2S ?m ?d ?l ?_); (case m => k_upd); (case d => first | (with_reducible assumption) | assumption); (case l => first | assumption | rfl))
    | ((with_reducible refine' W.dGet2I ?m ?d ?l ?_); (case m => k_upd); (case d => first | (with_reducible assumption) | assumption); (case l => first | assumption | rfl))
    | ((with_reducible refine' W.dCopyS ?m ?d ?z ?_); (case m => k_upd); (case d => first | (with_reducible assumption) | assumption); (case z => first | assumption | exact Nat.le_of_ble_eq_true rfl); intro _ _ _; (try dsimp only))
    | ((with_reducible refine' W.dCopyI ?m ?d ?z ?_); (case m => k_upd); (case d => first | (with_reducible assumption) | assumption); (case z => first | assumption | exact Nat.le_of_ble_eq_true rfl); intro _ _ _; (try dsimp only))
    | ((with_reducible refine' W.dPopS ?m ?d ?l ?z ?_); (case m => kst_p2); (case d => first | (with_reducible assumption) | assumption); (case l => first | assumption | rfl); (case z => first | assumption | exact Nat.le_of_ble_eq_true rfl); intro _ _; (try dsimp only))
    | ((with_reducible refine' W.dPopI ?m ?d ?l ?z ?_); (case m => kst_p2); (case d => first | (with_reducible assumption) | assumption); (case l => first | assumption | rfl); (case z => first | assumption | exact Nat.le_of_ble_eq_true rfl); intro _ _; (try dsimp only))
    | ((with_reducible refine' W.isiInt ?e ?_); (case e => kit_is))
    | ((with_reducible refine' W.isiStr ?e ?_); (case e => kit_is))
    | ((with_reducible refine' W.isiNone ?e ?_); (case e => kit_is))
    | ((with_reducible refine' W.isiList ?m ?e ?_); (case m => k_upd); (case e => kit_is))
    | ((with_reducible refine' W.isiOwn ?m1 ?m2 ?k1 ?k2 ?k3 ?k4 ?k5 ?k6 ?e ?_); (case m1 => k_upd); (case m2 => k_upd); (case k1 => k_dflt k_is); (case k2 => k_dflt k_is); (case k3 => k_dflt k_is); (case k4 => k_dflt k_is); (case k5 => k_dflt k_is); (case k6 => k_dflt k_is); (case e => kit_is))
    | ((with_reducible refine' W.isiDictS ?m ?d ?e ?_); (case m => k_upd); (case d => first | (with_reducible assumption) | assumption); (case e => kit_is); (try dsimp only)))
  | ((with_reducible show W _ _ (evalPairs _) _ _); first
    | (with_reducible refine' W.prNil ?_)
    | (with_reducible refine' W.prCons ?_))
  | ((with_reducible show W _ _ (pyIter _) _ _); first
    | ((with_reducible refine' W.iterEn ?h ?_); (case h => rfl))
    | ((with_reducible refine' W.iterRev2 ?h ?_); (case h => rfl); (try dsimp only))
    | ((with_reducible refine' W.iterL ?m ?_); (case m => k_upd); intro _; (try dsimp only))
    | ((with_reducible refine' W.iterT ?m ?_); (case m => k_upd); intro _; (try dsimp only))
    | ((with_reducible refine' W.iterTK ?k ?_); (case k => k_dflt k_is); intro _; (try dsimp only)))
  | ((with_reducible show W _ _ (assignInOrder _ _) _ _); first
    | (with_reducible refine' W.aoNil ?_)
    | (with_reducible refine' W.aoCons ?_))
  | ((with_reducible show W _ _ (truthy _) _ _); first
    | (with_reducible refine' W.tBool ?_)
    | ((with_reducible refine' W.truL ?m ?z ?_); (case m => k_upd); (case z => first | assumption | exact Nat.le_of_ble_eq_true rfl)))
  | (with_reducible refine' W.xNil ?_)
  | (with_reducible refine' Ifs.cons ?_)
  | (with_reducible refine' Ifs.nil ?_)
  | ((with_reducible refine' ite_t ?c ?_); (case c => rfl))
  | ((with_reducible refine' ite_f ?c ?_); (case c => rfl))
  | ((with_reducible refine' TDone.mk ?c1 ?_); (case c1 => exact Nat.le_of_ble_eq_true rfl); intro _; (try dsimp only))
  | ((with_reducible refine' DDone.str ?c1 ?c2 ?c3 ?_); (case c1 => rfl); (case c2 => exact of_decide_eq_true (by rfl)); (case c3 => rfl); intro _ _; (try dsimp only))
  | ((with_reducible refine' DDone.int ?c1 ?c2 ?c3 ?_); (case c1 => rfl); (case c2 => exact of_decide_eq_true (by rfl)); (case c3 => rfl); intro _ _; (try dsimp only))
  | (dsimp only [List.cons_append, Option.getD_none, Option.getD_some, Option.isSome_none, Option.isSome_some, List.nil_append, Bool.not_true, Bool.not_false])))
local macro_rules | `(tactic| walk_at "wx") => `(tactic| repeat (first
  | (with_reducible refine' W.sNext ?_)
  | (with_reducible refine' W.sRet ?_)
  | (with_reducible refine' W.sBrk ?_)
  | ((with_reducible show W _ _ (eval _ _) _ _); first
    | ((with_reducible show W _ _ (eval (Expr.Name _ _) _) _ _); first
      | ((with_reducible refine' W.Name (W.nameL ?c1 ?c2 ?_) ?c3); (case c1 => rfl); (case c2 => rfl); (case c3 => decide))
      | ((with_reducible refine' W.nameG ?c1 ?c2 ?c3 ?c4 ?_ ?c5); (case c1 => rfl); (case c2 => rfl); (case c3 => rfl); (case c4 => k_dflt k_is); (case c5 => decide))
      | ((with_reducible refine' W.nameBI ?c1 ?c2 ?c3 ?c4 ?c5 ?c6 ?c7 ?_ ?c8); (case c1 => rfl); (case c2 => rfl); (case c3 => rfl); (case c4 => rfl); (case c5 => k_dflt k_is); (case c6 => boot_fast); (case c7 => decide); (case c8 => decide))
      | ((with_reducible refine' W.Name (W.nameC ?c1 ?c2 ?_) ?c3); (case c1 => rfl); (case c2 => rfl); (case c3 => decide))
      | ((with_reducible refine' W.Name (W.nameB ?c0 ?c1 ?cm ?c2 ?_) ?c3); (case c0 => rfl); (case c1 => rfl); (case cm => k_upd); (case c2 => rfl); (case c3 => decide))
      | ((with_reducible refine' W.Name (W.nameBC ?c0 ?c1 ?cc ?cS ?cl ?c2 ?_) ?c3); (case c0 => rfl); (case c1 => rfl); (case cc => rfl); (case cS => rfl); (case cl => rfl); (case c2 => rfl); (case c3 => decide)))
    | ((with_reducible refine' W.cInt ?_); intro _)
    | ((with_reducible refine' W.cStr ?_); intro _)
    | ((with_reducible refine' W.cBytes ?_); intro _)
    | (with_reducible refine' W.cBool ?_)
    | (with_reducible refine' W.cNone ?_)
    | (with_reducible refine' W.BinOp ?_)
    | ((with_reducible refine' W.Compare1 ?_ ?c1); (case c1 => with_unfolding_all rfl))
    | ((with_reducible refine' W.sliceTo ?_ ?c1); (case c1 => intro _ _; rfl))
    | (with_reducible refine' W.Subscript ?_)
    | ((with_reducible refine' W.Attr ?_ ?c1); (case c1 => with_unfolding_all rfl))
    | (with_reducible refine' W.Call ?_)
    | ((with_reducible refine' W.MCall ?_ ?c1); (case c1 => rfl))
    | (with_reducible refine' W.UnaryOp ?_)
    | (with_reducible refine' W.And2 ?_)
    | (with_reducible refine' W.Or2 ?_)
    | (with_reducible refine' W.TupleE ?_)
    | (with_reducible refine' W.ListE ?_)
    | ((with_reducible refine' W.DictNil ?_); intro _ _ _ _; (try dsimp only))
    | ((with_reducible refine' W.DictS ?c1 ?_ ?c2 ?c3 ?c4 ?c5); (case c1 => rfl); (case c2 => rfl); (case c3 => rfl); (case c4 => exact List.cons_ne_nil _ _); (case c5 => decide); intro _; (try dsimp only))
    | ((with_reducible refine' W.DictI ?c1 ?_ ?c2 ?c3 ?c4 ?c5); (case c1 => rfl); (case c2 => rfl); (case c3 => rfl); (case c4 => exact List.cons_ne_nil _ _); (case c5 => decide); intro _; (try dsimp only))
    | ((with_reducible refine' W.ListComp ?c1 ?c2 ?c3 ?c4 ?_ ?c5); (case c1 => rfl); (case c2 => decide); (case c3 => rfl); (case c4 => decide); (case c5 => intro _; rfl)))
  | ((with_reducible show W _ _ (exec _ _) _ _); first
    | ((with_reducible refine' W.AssignName ?_ ?c1); (case c1 => rfl))
    | ((with_reducible refine' W.AssignOne ?c1 ?_); (case c1 => rfl))
    | (with_reducible refine' W.If ?_)
    | ((with_reducible refine' W.For ?_ ?c1); (case c1 => intro _; rfl))
    | ((with_reducible refine' W.AssignComp ?c0 ?c1 ?c2 ?c3 ?c4 ?_ ?c5); (case c0 => rfl); (case c1 => rfl); (case c2 => decide); (case c3 => rfl); (case c4 => decide); (case c5 => intro _; rfl))
    | (with_reducible refine' W.Return ?_)
    | (with_reducible refine' W.Pass ?_)
    | (with_reducible refine' W.Break ?_)
    | ((with_reducible refine' W.ExprA ?_ ?c1 ?c2); (case c1 => rfl); (case c2 => rfl)))
  | ((with_reducible show W _ _ (isTrue _ _ _) _ _); first
    | ((with_reducible refine' W.tCmp2 ?_ ?c1); (case c1 => with_unfolding_all rfl))
    | ((with_reducible refine' W.tCmp ?_ ?c1); (case c1 => with_unfolding_all rfl))
    | (with_reducible refine' W.tNot ?_)
    | (with_reducible refine' W.tBool1 ?_)
    | ((with_reducible refine' W.tVal ?_ ?c1); (case c1 => rfl)))
  | ((with_reducible show W _ _ (callWith _ _ _ _ _) _ _); first
    | ((with_reducible refine' W.cwBn ?_ ?c2 ?c3); (case c2 => rfl); (case c3 => rfl))
    | ((with_reducible refine' W.cwB1 ?_ ?c2 ?c3); (case c2 => rfl); (case c3 => rfl))
    | (with_reducible refine' W.cwB0 ?_)
    | ((with_reducible refine' W.cwT ?_ ?c2 ?c3); (case c2 => rfl); (case c3 => rfl))
    | ((with_reducible refine' W.cwKn ?c1 ?_ ?c2 ?c3); (case c1 => k_dflt k_is); (case c2 => rfl); (case c3 => rfl))
    | ((with_reducible refine' W.cwK1 ?c1 ?_ ?c2 ?c3); (case c1 => k_dflt k_is); (case c2 => rfl); (case c3 => rfl))
    | ((with_reducible refine' W.cwK0n ?c1 ?_); (case c1 => k_dflt k_is))
    | ((with_reducible refine' W.cwK01 ?c1 ?_); (case c1 => k_dflt k_is)))
  | ((with_reducible show W _ _ (spliced _) _ _); first
    | (with_reducible refine' W.spNil ?_)
    | ((with_reducible refine' W.spCons ?_ ?c2); (case c2 => rfl)))
  | ((with_reducible show W _ _ (storeName _ _ _) _ _); first
    | ((with_reducible refine' W.storeL ?c1 ?_); (case c1 => rfl); (try dsimp only))
    | ((with_reducible refine' W.storeC ?c1 ?c2 ?_); (case c1 => rfl); (case c2 => rfl); (try dsimp only))
    | ((with_reducible refine' W.storeB ?c1 ?c2 ?c3 ?_); (case c1 => rfl); (case c2 => rfl); (case c3 => kst_p2); (try dsimp only)))
  | ((with_reducible show W _ _ (binaryOp _ _ _) _ _); first
    | ((with_reducible refine' W.addL ?m ?b ?z ?_); (case m => k_upd); (case b => k_upd); (case z => first | assumption | exact Nat.le_of_ble_eq_true rfl); intro _; (try dsimp only))
    | ((with_reducible refine' W.addT0 ?m ?b ?z ?_); (case m => k_upd); (case b => k_upd); (case z => first | assumption | exact Nat.le_of_ble_eq_true rfl))
    | ((with_reducible refine' W.addI ?_); intro _)
    | ((with_reducible refine' W.subI ?_); intro _)
    | ((with_reducible refine' W.mulI ?c1 ?_); (case c1 => mul_fits); intro _))
  | ((with_reducible show W _ _ (compareOp _ _ _) _ _); first
    | ((with_reducible refine' W.inTupI ?m ?i ?_); (case m => k_upd); (case i => repeat constructor))
    | ((with_reducible refine' W.neNil ?m ?b ?u ?_); (case m => k_upd); (case b => k_upd); (case u => omega))
    | ((with_reducible refine' W.eqNil ?m ?b ?u ?_); (case m => k_upd); (case b => k_upd); (case u => omega))
    | (with_reducible refine' W.eqI ?_)
    | (with_reducible refine' W.neI ?_)
    | (with_reducible refine' W.ltI ?_)
    | (with_reducible refine' W.gtI ?_)
    | (with_reducible refine' W.leI ?_)
    | (with_reducible refine' W.geI ?_)
    | (with_reducible refine' W.eqS ?_)
    | (with_reducible refine' W.neS ?_)
    | (with_reducible refine' W.isNone ?_)
    | (with_reducible refine' W.isNotNone ?_)
    | ((with_reducible refine' W.dInS ?m ?d ?l ?_); (case m => k_upd); (case d => first | (with_reducible assumption) | assumption); (case l => first | assumption | rfl))
    | ((with_reducible refine' W.dInI ?m ?d ?l ?_); (case m => k_upd); (case d => first | (with_reducible assumption) | assumption); (case l => first | assumption | rfl))
    | ((with_reducible refine' W.dNotInS ?m ?d ?l ?_); (case m => k_upd); (case d => first | (with_reducible assumption) | assumption); (case l => first | assumption | rfl))
    | ((with_reducible refine' W.dNotInI ?m ?d ?l ?_); (case m => k_upd); (case d => first | (with_reducible assumption) | assumption); (case l => first | assumption | rfl)))
  | ((with_reducible show W _ _ (subscriptTail _ _ _ _) _ _); first
    | ((with_reducible refine' W.dItemS ?m ?d ?l ?_ ?c5 ?c6); (case m => k_upd); (case d => first | (with_reducible assumption) | assumption); (case l => first | assumption | rfl); (case c5 => with_unfolding_all rfl); (case c6 => intro _; with_unfolding_all rfl))
    | ((with_reducible refine' W.dItemI ?m ?d ?l ?_ ?c5 ?c6); (case m => k_upd); (case d => first | (with_reducible assumption) | assumption); (case l => first | assumption | rfl); (case c5 => with_unfolding_all rfl); (case c6 => intro _; with_unfolding_all rfl))
    | ((with_reducible refine' W.itemL ?c1 ?c2 ?c3 ?c4 ?_ ?c5); (case c1 => k_upd); (case c2 => decide); (case c3 => decide); (case c4 => rfl); (case c5 => with_unfolding_all rfl))
    | ((with_reducible refine' W.itemT ?c1 ?c2 ?c3 ?c4 ?c6 ?_ ?c5); (case c1 => k_upd); (case c2 => decide); (case c3 => decide); (case c4 => rfl); (case c6 => rfl); (case c5 => with_unfolding_all rfl)))
  | ((with_reducible show W _ _ (assign _ _ _) _ _); first
    | ((with_reducible refine' W.aTup2 ?m ?_); (case m => k_upd))
    | ((with_reducible refine' W.aTup3 ?m ?_); (case m => k_upd))
    | (with_reducible refine' W.assignName ?_)
    | (with_reducible refine' W.aAttr ?_)
    | (with_reducible refine' W.aSub ?_))
  | ((with_reducible show W _ _ (setItem _ _ _) _ _); first
    | ((with_reducible refine' W.dSetS ?m ?d ?z ?_); (case m => kst_p2); (case d => first | (with_reducible assumption) | assumption); (case z => first | assumption | exact Nat.le_of_ble_eq_true rfl); intro _ _; (try dsimp only))
    | ((with_reducible refine' W.dSetI ?m ?d ?z ?_); (case m => kst_p2); (case d => first | (with_reducible assumption) | assumption); (case z => first | assumption | exact Nat.le_of_ble_eq_true rfl); intro _ _; (try dsimp only))
    | ((with_reducible refine' W.setItemL ?c1 ?c2 ?c3 ?c4 ?_); (case c1 => kst_p2); (case c2 => decide); (case c3 => decide); (case c4 => first | decide | (simp; done) | (simp; omega)); (try dsimp only)))
  | ((with_reducible show W _ _ (unaryOp _ _) _ _); first
    | ((with_reducible refine' W.negI ?_); intro _)
    | (with_reducible refine' W.notV ?_))
  | ((with_reducible show W _ _ (allTrue _ _ _) _ _); first
    | (with_reducible refine' W.tAnd ?_)
    | (with_reducible refine' W.tOr ?_)
    | (with_reducible refine' W.tAndNil ?_)
    | (with_reducible refine' W.tOrNil ?_))
  | ((with_reducible show W _ _ (getAttr _ _ _) _ _); first
    | ((with_reducible refine' W.getA ?m1 ?m2 ?k1 ?k2 ?k3 ?k4 ?l ?c ?_); (case m1 => k_upd); (case m2 => k_upd); (case k1 => k_dflt k_is); (case k2 => k_dflt k_is); (case k3 => k_dflt k_is); (case k4 => k_dflt k_is); (case l => rfl); (case c => rfl)))
  | ((with_reducible show W _ _ (setAttr _ _ _) _ _); first
    | ((with_reducible refine' W.setA ?m1 ?m2 ?k1 ?k2 ?k3 ?k4 ?l ?c ?_); (case m1 => k_upd); (case m2 => kst_p2); (case k1 => k_dflt k_is); (case k2 => k_dflt k_is); (case k3 => k_dflt k_is); (case k4 => k_dflt k_is); (case l => rfl); (case c => exact Nat.le_of_ble_eq_true rfl); intro _; (try dsimp only)))
  | ((with_reducible show W _ _ (getMethod _ _ _) _ _); first
    | (with_reducible refine' W.bMeth ?_)
    | ((with_reducible refine' W.methL (id := "list.pop") ?m PySem.F.slot_list_pop ?t ?_); (case m => k_upd); (case t => exact PySem.F.type_list_pop))
    | ((with_reducible refine' W.methL (id := "list.extend") ?m PySem.F.slot_list_extend ?t ?_); (case m => k_upd); (case t => exact PySem.F.type_list_extend))
    | ((with_reducible refine' W.methL (id := "list.insert") ?m PySem.F.slot_list_insert ?t ?_); (case m => k_upd); (case t => exact PySem.F.type_list_insert))
    | (with_reducible refine' W.methS PySem.F.slot_str_join PySem.F.type_str_join ?_)
    | ((with_reducible refine' W.methI ?m1 ?m2 ?k1 ?k2 ?k3 ?l ?_); (case m1 => k_upd); (case m2 => k_upd); (case k1 => k_dflt k_is); (case k2 => k_dflt k_is); (case k3 => k_dflt k_is); (case l => rfl))
    | ((with_reducible refine' W.methL (id := "list.append") ?m PySem.F.slot_list_append ?t ?_); (case m => k_upd); (case t => exact PySem.F.type_list_append))
    | ((with_reducible refine' W.dMethS ?m ?d PySem.F.slot_dict_get PySem.F.type_dict_get ?_); (case m => k_upd); (case d => first | (with_reducible assumption) | assumption))
    | ((with_reducible refine' W.dMethI ?m ?d PySem.F.slot_dict_get PySem.F.type_dict_get ?_); (case m => k_upd); (case d => first | (with_reducible assumption) | assumption))
    | ((with_reducible refine' W.dMethS ?m ?d PySem.F.slot_dict_pop PySem.F.type_dict_pop ?_); (case m => k_upd); (case d => first | (with_reducible assumption) | assumption))
    | ((with_reducible refine' W.dMethI ?m ?d PySem.F.slot_dict_pop PySem.F.type_dict_pop ?_); (case m => k_upd); (case d => first | (with_reducible assumption) | assumption)))
  | ((with_reducible show W _ _ (call _ _) _ _); first
    | (with_reducible refine' W.bStarts ?_)
    | ((with_reducible refine' W.enumL ?m ?_); (case m => k_upd); intro _ _; (try dsimp only))
    | ((with_reducible refine' W.popC1 ?m ?_); (case m => kst_p2); (try dsimp only))
    | ((with_reducible refine' W.popC2 ?m ?_); (case m => kst_p2); (try dsimp only))
    | ((with_reducible refine' W.popL0 ?m ?z ?_); (case m => kst_p2); (case z => first | assumption | exact Nat.le_of_ble_eq_true rfl); (try dsimp only))
    | ((with_reducible refine' W.insertL0 ?m ?z ?_); (case m => kst_p2); (case z => first | assumption | exact Nat.le_of_ble_eq_true rfl); (try dsimp only))
    | ((with_reducible refine' W.extendL ?m ?b ?z ?_); (case m => kst_p2); (case b => k_upd); (case z => first | assumption | exact Nat.le_of_ble_eq_true rfl); intro _; (try dsimp only))
    | ((with_reducible refine' W.range1 ?_); intro _ _ _ _; (try dsimp only))
    | ((with_reducible refine' W.lenL ?m ?z ?_); (case m => k_upd); (case z => first | assumption | exact Nat.le_of_ble_eq_true rfl); intro _)
    | ((with_reducible refine' W.tupL ?m ?z ?_); (case m => k_upd); (case z => first | assumption | exact Nat.le_of_ble_eq_true rfl); intro _; (try dsimp only))
    | ((with_reducible refine' W.iterRev ?m ?_); (case m => k_upd); intro _; (try dsimp only))
    | ((with_reducible refine' W.absI ?_); intro _)
    | (with_reducible refine' W.intI ?_)
    | ((with_reducible refine' W.intB ?_); intro _)
    | ((with_reducible refine' W.appendL ?m ?z ?_); (case m => kst_p2); (case z => first | assumption | exact Nat.le_of_ble_eq_true rfl | omega); (try dsimp only))
    | ((with_reducible refine' W.dGet1S ?m ?d ?l ?_); (case m => k_upd); (case d => first | (with_reducible assumption) | assumption); (case l => first | assumption | rfl))
    | ((with_reducible refine' W.dGet1I ?m ?d ?l ?_); (case m => k_upd); (case d => first | (with_reducible assumption) | assumption); (case l => first | assumption | rfl))
    | ((with_reducible refine' W.dGet2S ?m ?d ?l ?_); (case m => k_upd); (case d => first | (with_reducible assumption) | assumption); (case l => first | assumption | rfl))
    | ((with_reducible refine' W.dGet2I ?m ?d ?l ?_); (case m => k_upd); (case d => first | (with_reducible assumption) | assumption); (case l => first | assumption | rfl))
    | ((with_reducible refine' W.dCopyS ?m ?d ?z ?_); (case m => k_upd); (case d => first | (with_reducible assumption) | assumption); (case z => first | assumption | exact Nat.le_of_ble_eq_true rfl); intro _ _ _; (try dsimp only))
    | ((with_reducible refine' W.dCopyI ?m ?d ?z ?_); (case m => k_upd); (case d => first | (with_reducible assumption) | assumption); (case z => first | assumption | exact Nat.le_of_ble_eq_true rfl); intro _ _ _; (try dsimp only))
    | ((with_reducible refine' W.dPopS ?m ?d ?l ?z ?_); (case m => kst_p2); (case d => first | (with_reducible assumption) | assumption); (case l => first | assumption | rfl); (case z => first | assumption | exact Nat.le_of_ble_eq_true rfl); intro _ _; (try dsimp only))
    | ((with_reducible refine' W.dPopI ?m ?d ?l ?z ?_); (case m => kst_p2); (case d => first | (with_reducible assumption) | assumption); (case l => first | assumption | rfl); (case z => first | assumption | exact Nat.le_of_ble_eq_true rfl); intro _ _; (try dsimp only))
    | ((with_reducible refine' W.isiInt ?e ?_); (case e => kit_is))
    | ((with_reducible refine' W.isiStr ?e ?_); (case e => kit_is))
    | ((with_reducible refine' W.isiNone ?e ?_); (case e => kit_is))
    | ((with_reducible refine' W.isiList ?m ?e ?_); (case m => k_upd); (case e => kit_is))
    | ((with_reducible refine' W.isiOwn ?m1 ?m2 ?k1 ?k2 ?k3 ?k4 ?k5 ?k6 ?e ?_); (case m1 => k_upd); (case m2 => k_upd); (case k1 => k_dflt k_is); (case k2 => k_dflt k_is); (case k3 => k_dflt k_is); (case k4 => k_dflt k_is); (case k5 => k_dflt k_is); (case k6 => k_dflt k_is); (case e => kit_is))
    | ((with_reducible refine' W.isiDictS ?m ?d ?e ?_); (case m => k_upd); (case d => first | (with_reducible assumption) | assumption); (case e => kit_is); (try dsimp only)))
  | ((with_reducible show W _ _ (evalPairs _) _ _); first
    | (with_reducible refine' W.prNil ?_)
    | (with_reducible refine' W.prCons ?_))
  | ((with_reducible show W _ _ (pyIter _) _ _); first
    | ((with_reducible refine' W.iterEn ?h ?_); (case h => rfl))
    | ((with_reducible refine' W.iterRev2 ?h ?_); (case h => rfl); (try dsimp only))
    | ((with_reducible refine' W.iterL ?m ?_); (case m => k_upd); intro _; (try dsimp only))
    | ((with_reducible refine' W.iterT ?m ?_); (case m => k_upd); intro _; (try dsimp only))
    | ((with_reducible refine' W.iterTK ?k ?_); (case k => k_dflt k_is); intro _; (try dsimp only)))
  | ((with_reducible show W _ _ (assignInOrder _ _) _ _); first
    | (with_reducible refine' W.aoNil ?_)
    | (with_reducible refine' W.aoCons ?_))
  | ((with_reducible show W _ _ (truthy _) _ _); first
    | (with_reducible refine' W.tBool ?_)
    | ((with_reducible refine' W.truL ?m ?z ?_); (case m => k_upd); (case z => first | assumption | exact Nat.le_of_ble_eq_true rfl)))
  | (with_reducible refine' W.xNil ?_)
  | (with_reducible refine' Ifs.cons ?_)
  | (with_reducible refine' Ifs.nil ?_)
  | ((with_reducible refine' ite_t ?c ?_); (case c => rfl))
  | ((with_reducible refine' ite_f ?c ?_); (case c => rfl))
  | ((with_reducible refine' TDone.mk ?c1 ?_); (case c1 => exact Nat.le_of_ble_eq_true rfl); intro _; (try dsimp only))
  | ((with_reducible refine' DDone.str ?c1 ?c2 ?c3 ?_); (case c1 => rfl); (case c2 => exact of_decide_eq_true (by rfl)); (case c3 => rfl); intro _ _; (try dsimp only))
  | ((with_reducible refine' DDone.int ?c1 ?c2 ?c3 ?_); (case c1 => rfl); (case c2 => exact of_decide_eq_true (by rfl)); (case c3 => rfl); intro _ _; (try dsimp only))
  | (dsimp only [List.cons_append, Option.getD_none, Option.getD_some, Option.isSome_none, Option.isSome_some, List.nil_append, Bool.not_true, Bool.not_false])))
local macro_rules | `(tactic| walk_at "suf") => `(tactic| first | exact sufrfl | assumption | (refine sufcons ?_; walk_at "suf") | (refine sufapp ?_; walk_at "suf") | (refine sufto (by assumption) ?_; walk_at "suf"))
local macro_rules | `(tactic| walk_at "w1") => `(tactic| (first
  | (with_reducible refine' W.sNext ?_)
  | (with_reducible refine' W.sRet ?_)
  | (with_reducible refine' W.sBrk ?_)
  | ((with_reducible show W _ _ (eval _ _) _ _); first
    | ((with_reducible show W _ _ (eval (Expr.Name _ _) _) _ _); first
      | ((with_reducible refine' W.Name (W.nameL ?c1 ?c2 ?_) ?c3); (case c1 => rfl); (case c2 => rfl); (case c3 => decide))
      | ((with_reducible refine' W.nameG ?c1 ?c2 ?c3 ?c4 ?_ ?c5); (case c1 => rfl); (case c2 => rfl); (case c3 => rfl); (case c4 => k_dflt k_is); (case c5 => decide))
      | ((with_reducible refine' W.nameBI ?c1 ?c2 ?c3 ?c4 ?c5 ?c6 ?c7 ?_ ?c8); (case c1 => rfl); (case c2 => rfl); (case c3 => rfl); (case c4 => rfl); (case c5 => k_dflt k_is); (case c6 => boot_fast); (case c7 => decide); (case c8 => decide))
      | ((with_reducible refine' W.Name (W.nameC ?c1 ?c2 ?_) ?c3); (case c1 => rfl); (case c2 => rfl); (case c3 => decide))
      | ((with_reducible refine' W.Name (W.nameB ?c0 ?c1 ?cm ?c2 ?_) ?c3); (case c0 => rfl); (case c1 => rfl); (case cm => k_upd); (case c2 => rfl); (case c3 => decide))
      | ((with_reducible refine' W.Name (W.nameBC ?c0 ?c1 ?cc ?cS ?cl ?c2 ?_) ?c3); (case c0 => rfl); (case c1 => rfl); (case cc => rfl); (case cS => rfl); (case cl => rfl); (case c2 => rfl); (case c3 => decide)))
    | ((with_reducible refine' W.cInt ?_); intro _)
    | ((with_reducible refine' W.cStr ?_); intro _)
    | ((with_reducible refine' W.cBytes ?_); intro _)
    | (with_reducible refine' W.cBool ?_)
    | (with_reducible refine' W.cNone ?_)
    | (with_reducible refine' W.BinOp ?_)
    | ((with_reducible refine' W.Compare1 ?_ ?c1); (case c1 => with_unfolding_all rfl))
    | ((with_reducible refine' W.sliceTo ?_ ?c1); (case c1 => intro _ _; rfl))
    | (with_reducible refine' W.Subscript ?_)
    | ((with_reducible refine' W.Attr ?_ ?c1); (case c1 => with_unfolding_all rfl))
    | (with_reducible refine' W.Call ?_)
    | ((with_reducible refine' W.MCall ?_ ?c1); (case c1 => rfl))
    | (with_reducible refine' W.IfExp ?_)
    | (with_reducible refine' W.UnaryOp ?_)
    | (with_reducible refine' W.And2 ?_)
    | (with_reducible refine' W.Or2 ?_)
    | (with_reducible refine' W.TupleE ?_)
    | (with_reducible refine' W.ListE ?_)
    | ((with_reducible refine' W.DictNil ?_); intro _ _ _ _; (try dsimp only))
    | ((with_reducible refine' W.DictS ?c1 ?_ ?c2 ?c3 ?c4 ?c5); (case c1 => rfl); (case c2 => rfl); (case c3 => rfl); (case c4 => exact List.cons_ne_nil _ _); (case c5 => decide); intro _; (try dsimp only))
    | ((with_reducible refine' W.DictI ?c1 ?_ ?c2 ?c3 ?c4 ?c5); (case c1 => rfl); (case c2 => rfl); (case c3 => rfl); (case c4 => exact List.cons_ne_nil _ _); (case c5 => decide); intro _; (try dsimp only))
    | ((with_reducible refine' W.ListComp ?c1 ?c2 ?c3 ?c4 ?_ ?c5); (case c1 => rfl); (case c2 => decide); (case c3 => rfl); (case c4 => decide); (case c5 => intro _; rfl)))
  | ((with_reducible show W _ _ (exec _ _) _ _); first
    | ((with_reducible refine' W.AssignName ?_ ?c1); (case c1 => rfl))
    | ((with_reducible refine' W.AssignOne ?c1 ?_); (case c1 => rfl))
    | (with_reducible refine' W.If ?_)
    | ((with_reducible refine' W.For ?_ ?c1); (case c1 => intro _; rfl))
    | ((with_reducible refine' W.AssignComp ?c0 ?c1 ?c2 ?c3 ?c4 ?_ ?c5); (case c0 => rfl); (case c1 => rfl); (case c2 => decide); (case c3 => rfl); (case c4 => decide); (case c5 => intro _; rfl))
    | (with_reducible refine' W.Return ?_)
    | (with_reducible refine' W.Pass ?_)
    | (with_reducible refine' W.Break ?_)
    | ((with_reducible refine' W.ExprA ?_ ?c1 ?c2); (case c1 => rfl); (case c2 => rfl)))
  | ((with_reducible show W _ _ (isTrue _ _ _) _ _); first
    | ((with_reducible refine' W.tCmp2 ?_ ?c1); (case c1 => with_unfolding_all rfl))
    | ((with_reducible refine' W.tCmp ?_ ?c1); (case c1 => with_unfolding_all rfl))
    | (with_reducible refine' W.tNot ?_)
    | (with_reducible refine' W.tBool1 ?_)
    | ((with_reducible refine' W.tVal ?_ ?c1); (case c1 => rfl)))
  | ((with_reducible show W _ _ (callWith _ _ _ _ _) _ _); first
    | ((with_reducible refine' W.cwBn ?_ ?c2 ?c3); (case c2 => rfl); (case c3 => rfl))
    | ((with_reducible refine' W.cwB1 ?_ ?c2 ?c3); (case c2 => rfl); (case c3 => rfl))
    | (with_reducible refine' W.cwB0 ?_)
    | ((with_reducible refine' W.cwT ?_ ?c2 ?c3); (case c2 => rfl); (case c3 => rfl))
    | ((with_reducible refine' W.cwKn ?c1 ?_ ?c2 ?c3); (case c1 => k_dflt k_is); (case c2 => rfl); (case c3 => rfl))
    | ((with_reducible refine' W.cwK1 ?c1 ?_ ?c2 ?c3); (case c1 => k_dflt k_is); (case c2 => rfl); (case c3 => rfl))
    | ((with_reducible refine' W.cwK0n ?c1 ?_); (case c1 => k_dflt k_is))
    | ((with_reducible refine' W.cwK01 ?c1 ?_); (case c1 => k_dflt k_is)))
  | ((with_reducible show W _ _ (spliced _) _ _); first
    | (with_reducible refine' W.spNil ?_)
    | ((with_reducible refine' W.spCons ?_ ?c2); (case c2 => rfl)))
  | ((with_reducible show W _ _ (storeName _ _ _) _ _); first
    | ((with_reducible refine' W.storeL ?c1 ?_); (case c1 => rfl); (try dsimp only))
    | ((with_reducible refine' W.storeC ?c1 ?c2 ?_); (case c1 => rfl); (case c2 => rfl); (try dsimp only))
    | ((with_reducible refine' W.storeB ?c1 ?c2 ?c3 ?_); (case c1 => rfl); (case c2 => rfl); (case c3 => kst_p2); (try dsimp only)))
  | ((with_reducible show W _ _ (binaryOp _ _ _) _ _); first
    | ((with_reducible refine' W.addL ?m ?b ?z ?_); (case m => k_upd); (case b => k_upd); (case z => first | assumption | exact Nat.le_of_ble_eq_true rfl); intro _; (try dsimp only))
    | ((with_reducible refine' W.addT0 ?m ?b ?z ?_); (case m => k_upd); (case b => k_upd); (case z => first | assumption | exact Nat.le_of_ble_eq_true rfl))
    | ((with_reducible refine' W.addI ?_); intro _)
    | ((with_reducible refine' W.subI ?_); intro _)
    | ((with_reducible refine' W.mulI ?c1 ?_); (case c1 => mul_fits); intro _))
  | ((with_reducible show W _ _ (compareOp _ _ _) _ _); first
    | ((with_reducible refine' W.inTupI ?m ?i ?_); (case m => k_upd); (case i => repeat constructor))
    | ((with_reducible refine' W.neNil ?m ?b ?u ?_); (case m => k_upd); (case b => k_upd); (case u => omega))
    | ((with_reducible refine' W.eqNil ?m ?b ?u ?_); (case m => k_upd); (case b => k_upd); (case u => omega))
    | (with_reducible refine' W.eqI ?_)
    | (with_reducible refine' W.neI ?_)
    | (with_reducible refine' W.ltI ?_)
    | (with_reducible refine' W.gtI ?_)
    | (with_reducible refine' W.leI ?_)
    | (with_reducible refine' W.geI ?_)
    | (with_reducible refine' W.eqS ?_)
    | (with_reducible refine' W.neS ?_)
    | (with_reducible refine' W.isNone ?_)
    | (with_reducible refine' W.isNotNone ?_)
    | ((with_reducible refine' W.dInS ?m ?d ?l ?_); (case m => k_upd); (case d => first | (with_reducible assumption) | assumption); (case l => first | assumption | rfl))
    | ((with_reducible refine' W.dInI ?m ?d ?l ?_); (case m => k_upd); (case d => first | (with_reducible assumption) | assumption); (case l => first | assumption | rfl))
    | ((with_reducible refine' W.dNotInS ?m ?d ?l ?_); (case m => k_upd); (case d => first | (with_reducible assumption) | assumption); (case l => first | assumption | rfl))
    | ((with_reducible refine' W.dNotInI ?m ?d ?l ?_); (case m => k_upd); (case d => first | (with_reducible assumption) | assumption); (case l => first | assumption | rfl)))
  | ((with_reducible show W _ _ (subscriptTail _ _ _ _) _ _); first
    | ((with_reducible refine' W.dItemS ?m ?d ?l ?_ ?c5 ?c6); (case m => k_upd); (case d => first | (with_reducible assumption) | assumption); (case l => first | assumption | rfl); (case c5 => with_unfolding_all rfl); (case c6 => intro _; with_unfolding_all rfl))
    | ((with_reducible refine' W.dItemI ?m ?d ?l ?_ ?c5 ?c6); (case m => k_upd); (case d => first | (with_reducible assumption) | assumption); (case l => first | assumption | rfl); (case c5 => with_unfolding_all rfl); (case c6 => intro _; with_unfolding_all rfl))
    | ((with_reducible refine' W.itemL ?c1 ?c2 ?c3 ?c4 ?_ ?c5); (case c1 => k_upd); (case c2 => decide); (case c3 => decide); (case c4 => rfl); (case c5 => with_unfolding_all rfl))
    | ((with_reducible refine' W.itemT ?c1 ?c2 ?c3 ?c4 ?c6 ?_ ?c5); (case c1 => k_upd); (case c2 => decide); (case c3 => decide); (case c4 => rfl); (case c6 => rfl); (case c5 => with_unfolding_all rfl)))
  | ((with_reducible show W _ _ (assign _ _ _) _ _); first
    | ((with_reducible refine' W.aTup2 ?m ?_); (case m => k_upd))
    | ((with_reducible refine' W.aTup3 ?m ?_); (case m => k_upd))
    | (with_reducible refine' W.assignName ?_)
    | (with_reducible refine' W.aAttr ?_)
    | (with_reducible refine' W.aSub ?_))
  | ((with_reducible show W _ _ (setItem _ _ _) _ _); first
    | ((with_reducible refine' W.dSetS ?m ?d ?z ?_); (case m => kst_p2); (case d => first | (with_reducible assumption) | assumption); (case z => first | assumption | exact Nat.le_of_ble_eq_true rfl); intro _ _; (try dsimp only))
    | ((with_reducible refine' W.dSetI ?m ?d ?z ?_); (case m => kst_p2); (case d => first | (with_reducible assumption) | assumption); (case z => first | assumption | exact Nat.le_of_ble_eq_true rfl); intro _ _; (try dsimp only))
    | ((with_reducible refine' W.setItemL ?c1 ?c2 ?c3 ?c4 ?_); (case c1 => kst_p2); (case c2 => decide); (case c3 => decide); (case c4 => first | decide | (simp; done) | (simp; omega)); (try dsimp only)))
  | ((with_reducible show W _ _ (unaryOp _ _) _ _); first
    | ((with_reducible refine' W.negI ?_); intro _)
    | (with_reducible refine' W.notV ?_))
  | ((with_reducible show W _ _ (allTrue _ _ _) _ _); first
    | (with_reducible refine' W.tAnd ?_)
    | (with_reducible refine' W.tOr ?_)
    | (with_reducible refine' W.tAndNil ?_)
    | (with_reducible refine' W.tOrNil ?_))
  | ((with_reducible show W _ _ (getAttr _ _ _) _ _); first
    | ((with_reducible refine' W.getA ?m1 ?m2 ?k1 ?k2 ?k3 ?k4 ?l ?c ?_); (case m1 => k_upd); (case m2 => k_upd); (case k1 => k_dflt k_is); (case k2 => k_dflt k_is); (case k3 => k_dflt k_is); (case k4 => k_dflt k_is); (case l => rfl); (case c => rfl)))
  | ((with_reducible show W _ _ (setAttr _ _ _) _ _); first
    | ((with_reducible refine' W.setA ?m1 ?m2 ?k1 ?k2 ?k3 ?k4 ?l ?c ?_); (case m1 => k_upd); (case m2 => kst_p2); (case k1 => k_dflt k_is); (case k2 => k_dflt k_is); (case k3 => k_dflt k_is); (case k4 => k_dflt k_is); (case l => rfl); (case c => exact Nat.le_of_ble_eq_true rfl); intro _; (try dsimp only)))
  | ((with_reducible show W _ _ (getMethod _ _ _) _ _); first
    | (with_reducible refine' W.bMeth ?_)
    | ((with_reducible refine' W.methL (id := "list.pop") ?m PySem.F.slot_list_pop ?t ?_); (case m => k_upd); (case t => exact PySem.F.type_list_pop))
    | ((with_reducible refine' W.methL (id := "list.extend") ?m PySem.F.slot_list_extend ?t ?_); (case m => k_upd); (case t => exact PySem.F.type_list_extend))
    | ((with_reducible refine' W.methL (id := "list.insert") ?m PySem.F.slot_list_insert ?t ?_); (case m => k_upd); (case t => exact PySem.F.type_list_insert))
    | (with_reducible refine' W.methS PySem.F.slot_str_join PySem.F.type_str_join ?_)
    | ((with_reducible refine' W.methI ?m1 ?m2 ?k1 ?k2 ?k3 ?l ?_); (case m1 => k_upd); (case m2 => k_upd); (case k1 => k_dflt k_is); (case k2 => k_dflt k_is); (case k3 => k_dflt k_is); (case l => rfl))
    | ((with_reducible refine' W.methL (id := "list.append") ?m PySem.F.slot_list_append ?t ?_); (case m => k_upd); (case t => exact PySem.F.type_list_append))
    | ((with_reducible refine' W.dMethS ?m ?d PySem.F.slot_dict_get PySem.F.type_dict_get ?_); (case m => k_upd); (case d => first | (with_reducible assumption) | assumption))
    | ((with_reducible refine' W.dMethI ?m ?d PySem.F.slot_dict_get PySem.F.type_dict_get ?_); (case m => k_upd); (case d => first | (with_reducible assumption) | assumption))
    | ((with_reducible refine' W.dMethS ?m ?d PySem.F.slot_dict_pop PySem.F.type_dict_pop ?_); (case m => k_upd); (case d => first | (with_reducible assumption) | assumption))
    | ((with_reducible refine' W.dMethI ?m ?d PySem.F.slot_dict_pop PySem.F.type_dict_pop ?_); (case m => k_upd); (case d => first | (with_reducible assumption) | assumption)))
  | ((with_reducible show W _ _ (call _ _) _ _); first
    | (with_reducible refine' W.bStarts ?_)
    | ((with_reducible refine' W.enumL ?m ?_); (case m => k_upd); intro _ _; (try dsimp only))
    | ((with_reducible refine' W.popC1 ?m ?_); (case m => kst_p2); (try dsimp only))
    | ((with_reducible refine' W.popC2 ?m ?_); (case m => kst_p2); (try dsimp only))
    | ((with_reducible refine' W.popL0 ?m ?z ?_); (case m => kst_p2); (case z => first | assumption | exact Nat.le_of_ble_eq_true rfl); (try dsimp only))
    | ((with_reducible refine' W.insertL0 ?m ?z ?_); (case m => kst_p2); (case z => first | assumption | exact Nat.le_of_ble_eq_true rfl); (try dsimp only))
    | ((with_reducible refine' W.extendL ?m ?b ?z ?_); (case m => kst_p2); (case b => k_upd); (case z => first | assumption | exact Nat.le_of_ble_eq_true rfl); intro _; (try dsimp only))
    | ((with_reducible refine' W.range1 ?_); intro _ _ _ _; (try dsimp only))
    | ((with_reducible refine' W.lenL ?m ?z ?_); (case m => k_upd); (case z => first | assumption | exact Nat.le_of_ble_eq_true rfl); intro _)
    | ((with_reducible refine' W.tupL ?m ?z ?_); (case m => k_upd); (case z => first | assumption | exact Nat.le_of_ble_eq_true rfl); intro _; (try dsimp only))
    | ((with_reducible refine' W.iterRev ?m ?_); (case m => k_upd); intro _; (try dsimp only))
    | ((with_reducible refine' W.absI ?_); intro _)
    | (with_reducible refine' W.intI ?_)
    | ((with_reducible refine' W.intB ?_); intro _)
    | ((with_reducible refine' W.appendL ?m ?z ?_); (case m => kst_p2); (case z => first | assumption | exact Nat.le_of_ble_eq_true rfl | omega); (try dsimp only))
    | ((with_reducible refine' W.dGet1S ?m ?d ?l ?_); (case m => k_upd); (case d => first | (with_reducible assumption) | assumption); (case l => first | assumption | rfl))
    | ((with_reducible refine' W.dGet1I ?m ?d ?l ?_); (case m => k_upd); (case d => first | (with_reducible assumption) | assumption); (case l => first | assumption | rfl))
    | ((with_reducible refine' W.dGet2S ?m ?d ?l ?_); (case m => k_upd); (case d => first | (with_reducible assumption) | assumption); (case l => first | assumption | rfl))
    | ((with_reducible refine' W.dGet2I ?m ?d ?l ?_); (case m => k_upd); (case d => first | (with_reducible assumption) | assumption); (case l => first | assumption | rfl))
    | ((with_reducible refine' W.dCopyS ?m ?d ?z ?_); (case m => k_upd); (case d => first | (with_reducible assumption) | assumption); (case z => first | assumption | exact Nat.le_of_ble_eq_true rfl); intro _ _ _; (try dsimp only))
    | ((with_reducible refine' W.dCopyI ?m ?d ?z ?_); (case m => k_upd); (case d => first | (with_reducible assumption) | assumption); (case z => first | assumption | exact Nat.le_of_ble_eq_true rfl); intro _ _ _; (try dsimp only))
    | ((with_reducible refine' W.dPopS ?m ?d ?l ?z ?_); (case m => kst_p2); (case d => first | (with_reducible assumption) | assumption); (case l => first | assumption | rfl); (case z => first | assumption | exact Nat.le_of_ble_eq_true rfl); intro _ _; (try dsimp only))
    | ((with_reducible refine' W.dPopI ?m ?d ?l ?z ?_); (case m => kst_p2); (case d => first | (with_reducible assumption) | assumption); (case l => first | assumption | rfl); (case z => first | assumption | exact Nat.le_of_ble_eq_true rfl); intro _ _; (try dsimp only))
    | ((with_reducible refine' W.isiInt ?e ?_); (case e => kit_is))
    | ((with_reducible refine' W.isiStr ?e ?_); (case e => kit_is))
    | ((with_reducible refine' W.isiNone ?e ?_); (case e => kit_is))
    | ((with_reducible refine' W.isiList ?m ?e ?_); (case m => k_upd); (case e => kit_is))
    | ((with_reducible refine' W.isiOwn ?m1 ?m2 ?k1 ?k2 ?k3 ?k4 ?k5 ?k6 ?e ?_); (case m1 => k_upd); (case m2 => k_upd); (case k1 => k_dflt k_is); (case k2 => k_dflt k_is); (case k3 => k_dflt k_is); (case k4 => k_dflt k_is); (case k5 => k_dflt k_is); (case k6 => k_dflt k_is); (case e => kit_is))
    | ((with_reducible refine' W.isiDictS ?m ?d ?e ?_); (case m => k_upd); (case d => first | (with_reducible assumption) | assumption); (case e => kit_is); (try dsimp only)))
  | ((with_reducible show W _ _ (evalPairs _) _ _); first
    | (with_reducible refine' W.prNil ?_)
    | (with_reducible refine' W.prCons ?_))
  | ((with_reducible show W _ _ (pyIter _) _ _); first
    | ((with_reducible refine' W.iterEn ?h ?_); (case h => rfl))
    | ((with_reducible refine' W.iterRev2 ?h ?_); (case h => rfl); (try dsimp only))
    | ((with_reducible refine' W.iterL ?m ?_); (case m => k_upd); intro _; (try dsimp only))
    | ((with_reducible refine' W.iterT ?m ?_); (case m => k_upd); intro _; (try dsimp only))
    | ((with_reducible refine' W.iterTK ?k ?_); (case k => k_dflt k_is); intro _; (try dsimp only)))
  | ((with_reducible show W _ _ (assignInOrder _ _) _ _); first
    | (with_reducible refine' W.aoNil ?_)
    | (with_reducible refine' W.aoCons ?_))
  | ((with_reducible show W _ _ (truthy _) _ _); first
    | (with_reducible refine' W.tBool ?_)
    | ((with_reducible refine' W.truL ?m ?z ?_); (case m => k_upd); (case z => first | assumption | exact Nat.le_of_ble_eq_true rfl)))
  | (with_reducible refine' W.xCons ?_)
  | (with_reducible refine' W.xNil ?_)
  | (with_reducible refine' Ifs.cons ?_)
  | (with_reducible refine' Ifs.nil ?_)
  | ((with_reducible refine' ite_t ?c ?_); (case c => rfl))
  | ((with_reducible refine' ite_f ?c ?_); (case c => rfl))
  | ((with_reducible refine' TDone.mk ?c1 ?_); (case c1 => exact Nat.le_of_ble_eq_true rfl); intro _; (try dsimp only))
  | ((with_reducible refine' DDone.str ?c1 ?c2 ?c3 ?_); (case c1 => rfl); (case c2 => exact of_decide_eq_true (by rfl)); (case c3 => rfl); intro _ _; (try dsimp only))
  | ((with_reducible refine' DDone.int ?c1 ?c2 ?c3 ?_); (case c1 => rfl); (case c2 => exact of_decide_eq_true (by rfl)); (case c3 => rfl); intro _ _; (try dsimp only))
  | (dsimp only [List.cons_append, Option.getD_none, Option.getD_some, Option.isSome_none, Option.isSome_some, List.nil_append, Bool.not_true, Bool.not_false])))
local macro_rules | `(tactic| walk_at "spl") => `(tactic| first | exact Split.app | (apply Split.cons; walk_at "spl") | exact Split.nil)
local macro_rules | `(tactic| walk_at "ext") => `(tactic| first | exact Ext.head | (apply Ext.tail; walk_at "ext"))
local macro_rules | `(tactic| walk_at "cn") => `(tactic| first | exact Cn.base | (apply Cn.take; (focus walk_at "ext"); walk_at "cn") | (apply Cn.skip; walk_at "cn") | exact Cn.nil)
local macro_rules | `(tactic| walk_at "has") => `(tactic| repeat (first | exact Has.nil | (refine Has.cons rfl ?_)))

variable {w : World} {fn : Fn} {S : Sit w fn} {σ : Sg} {E : Value → Heap → Prop}
theorem c_Name {v0 : Value} {M F : Led} {Q : Value → Sg → Prop} (hd : S.dp + 2 < recursionLimit) (hl : Split σ.led M F)
    (h : ∀ x F', F <:+ F' → Inst1 w.params 183 "text" v0 x F' → Q (.ref x) { σ with led := M ++ F' }) : W S σ (call (.ref 183) [v0]) Q E := by
  refine W.newClsF (fun x => [("text", v0), ("self", .ref x)]) hl (by k_dflt k_is) (by k_dflt k_is) (by k_dflt k_is) (by k_dflt k_is) (by k_dflt k_is) (by omega) (fun _ _ _ => BindsTo.of_eq rfl) (by intro _; rfl) (by decide +kernel) (by rfl) (by rfl) (by rfl) ?_
  intro x dx S' hdp
  walk_at "w"
  exact ⟨rfl, _, by walk_at "cn", h _ _ ⟨[_, _], rfl⟩ ⟨dx, _, _, .head _, .tail _ (.head _)⟩⟩
theorem c_String {v0 : Value} {M F : Led} {Q : Value → Sg → Prop} (hd : S.dp + 2 < recursionLimit) (hl : Split σ.led M F)
    (h : ∀ x F', F <:+ F' → Inst2 w.params 205 "octets" v0 "is_hex" (.bool false) x F' → Q (.ref x) { σ with led := M ++ F' }) : W S σ (call (.ref 205) [v0]) Q E := by
  refine W.newClsF (fun x => [("is_hex", .bool false), ("octets", v0), ("self", .ref x)]) hl (by k_dflt k_is) (by k_dflt k_is) (by k_dflt k_is) (by k_dflt k_is) (by k_dflt k_is) (by omega) (fun _ _ X => binds_K X rfl (by k_dflt k_is) rfl rfl rfl) (by intro _; rfl) (by decide +kernel) (by rfl) (by rfl) (by rfl) ?_
  intro x dx S' hdp
  walk_at "w"
  exact ⟨rfl, _, by walk_at "cn", h _ _ ⟨[_, _], rfl⟩ ⟨dx, _, _, _, .head _, .tail _ (.head _)⟩⟩
theorem c_Reference {v0 : Value} {v1 : Value} {M F : Led} {Q : Value → Sg → Prop} (hd : S.dp + 2 < recursionLimit) (hl : Split σ.led M F)
    (h : ∀ x F', F <:+ F' → Inst2 w.params 254 "number" v0 "generation" v1 x F' → Q (.ref x) { σ with led := M ++ F' }) : W S σ (call (.ref 254) [v0, v1]) Q E := by
  refine W.newClsF (fun x => [("generation", v1), ("number", v0), ("self", .ref x)]) hl (by k_dflt k_is) (by k_dflt k_is) (by k_dflt k_is) (by k_dflt k_is) (by k_dflt k_is) (by omega) (fun _ _ _ => BindsTo.of_eq rfl) (by intro _; rfl) (by decide +kernel) (by rfl) (by rfl) (by rfl) ?_
  intro x dx S' hdp
  walk_at "w"
  exact ⟨rfl, _, by walk_at "cn", h _ _ ⟨[_, _], rfl⟩ ⟨dx, _, _, _, .head _, .tail _ (.head _)⟩⟩
theorem c_Page {v0 : Value} {v1 : Value} {M F : Led} {Q : Value → Sg → Prop} (hd : S.dp + 2 < recursionLimit) (hl : Split σ.led M F)
    (h : ∀ x F', F <:+ F' → Inst2 w.params 416 "reference" v0 "fields" v1 x F' → Q (.ref x) { σ with led := M ++ F' }) : W S σ (call (.ref 416) [v0, v1]) Q E := by
  refine W.newClsF (fun x => [("fields", v1), ("reference", v0), ("self", .ref x)]) hl (by k_dflt k_is) (by k_dflt k_is) (by k_dflt k_is) (by k_dflt k_is) (by k_dflt k_is) (by omega) (fun _ _ _ => BindsTo.of_eq rfl) (by intro _; rfl) (by decide +kernel) (by rfl) (by rfl) (by rfl) ?_
  intro x dx S' hdp
  walk_at "w"
  exact ⟨rfl, _, by walk_at "cn", h _ _ ⟨[_, _], rfl⟩ ⟨dx, _, _, _, .head _, .tail _ (.head _)⟩⟩
theorem c_Spot {v0 : Value} {v1 : Value} {v2 : Value} {v3 : Value} {v4 : Value} {M F : Led} {Q : Value → Sg → Prop} (hd : S.dp + 2 < recursionLimit) (hl : Split σ.led M F)
    (h : ∀ x F', F <:+ F' → Inst5 w.params 437 "reference" v0 "head" v1 "above" v2 "inherited" v3 "is_page" v4 x F' → Q (.ref x) { σ with led := M ++ F' }) : W S σ (call (.ref 437) [v0, v1, v2, v3, v4]) Q E := by
  refine W.newClsF (fun x => [("is_page", v4), ("inherited", v3), ("above", v2), ("head", v1), ("reference", v0), ("self", .ref x)]) hl (by k_dflt k_is) (by k_dflt k_is) (by k_dflt k_is) (by k_dflt k_is) (by k_dflt k_is) (by omega) (fun _ _ _ => BindsTo.of_eq rfl) (by intro _; rfl) (by decide +kernel) (by rfl) (by rfl) (by rfl) ?_
  intro x dx S' hdp
  walk_at "w"
  exact ⟨rfl, _, by walk_at "cn", h _ _ ⟨[_, _], rfl⟩ ⟨dx, _, _, _, _, _, _, .head _, .tail _ (.head _)⟩⟩
theorem c_Element {v0 : Value} {v1 : Value} {v2 : Value} {v3 : Value} {M F : Led} {Q : Value → Sg → Prop} (hd : S.dp + 2 < recursionLimit) (hl : Split σ.led M F)
    (h : ∀ x F', F <:+ F' → Inst4 w.params 510 "reference" v0 "head" v1 "depth" v2 "above" v3 x F' → Q (.ref x) { σ with led := M ++ F' }) : W S σ (call (.ref 510) [v0, v1, v2, v3]) Q E := by
  refine W.newClsF (fun x => [("above", v3), ("depth", v2), ("head", v1), ("reference", v0), ("self", .ref x)]) hl (by k_dflt k_is) (by k_dflt k_is) (by k_dflt k_is) (by k_dflt k_is) (by k_dflt k_is) (by omega) (fun _ _ _ => BindsTo.of_eq rfl) (by intro _; rfl) (by decide +kernel) (by rfl) (by rfl) (by rfl) ?_
  intro x dx S' hdp
  walk_at "w"
  exact ⟨rfl, _, by walk_at "cn", h _ _ ⟨[_, _], rfl⟩ ⟨dx, _, _, _, _, _, .head _, .tail _ (.head _)⟩⟩
theorem c_Shelf {a b : Addr} {M F : Led} {Q : Value → Sg → Prop} (hd : S.dp + 2 < recursionLimit) (hl : Split σ.led M F)
    (h : ∀ x F', F <:+ F' → Inst2 w.params 363 "table" (.ref a) "trailer" (.ref b) x F' → Q (.ref x) { σ with led := M ++ F' }) : W S σ (call (.ref 363) [(.ref a), (.ref b)]) Q E := by
  refine W.newClsF (fun x => [("trailer", (.ref b)), ("table", (.ref a)), ("self", .ref x)]) hl (by k_dflt k_is) (by k_dflt k_is) (by k_dflt k_is) (by k_dflt k_is) (by k_dflt k_is) (by omega) (fun _ _ X => binds_K X rfl (by k_dflt k_is) rfl rfl rfl) (by intro _; rfl) (by decide +kernel) (by rfl) (by rfl) (by rfl) ?_
  intro x dx S' hdp
  walk_at "w"
  exact ⟨rfl, _, by walk_at "cn", h _ _ ⟨[_, _], rfl⟩ ⟨dx, _, _, _, .head _, .tail _ (.head _)⟩⟩
section
variable {v : Value} {k : Str} {Q : Value → Sg → Prop}
theorem isiP_ref (p : PK w σ.led v k) (h : Q (.bool false) σ) : W S σ (call (.builtin "isinstance") [v, .ref 254]) Q E := by
  cases p with
  | none => walk_at "w"; exact h
  | int => walk_at "w"; exact h
  | name p => obtain ⟨dx, n, t, p1, p2⟩ := p; walk_at "w"; exact h
  | string p => obtain ⟨dx, n, t, t2, p1, p2⟩ := p; walk_at "w"; exact h
  | list p => walk_at "w"; exact h
  | dict p q => walk_at "w"; exact h
theorem isiP_dict (p : PK w σ.led v k) (h : Q (.bool (k == "dict")) σ) : W S σ (call (.builtin "isinstance") [v, .type "dict"]) Q E := by
  cases p with
  | none => walk_at "w"; exact h
  | int => walk_at "w"; exact h
  | name p => obtain ⟨dx, n, t, p1, p2⟩ := p; walk_at "w"; exact h
  | string p => obtain ⟨dx, n, t, t2, p1, p2⟩ := p; walk_at "w"; exact h
  | list p => walk_at "w"; exact h
  | dict p q => walk_at "w"; exact h
theorem isiP_list (p : PK w σ.led v k) (h : Q (.bool (k == "array")) σ) : W S σ (call (.builtin "isinstance") [v, .type "list"]) Q E := by
  cases p with
  | none => walk_at "w"; exact h
  | int => walk_at "w"; exact h
  | name p => obtain ⟨dx, n, t, p1, p2⟩ := p; walk_at "w"; exact h
  | string p => obtain ⟨dx, n, t, t2, p1, p2⟩ := p; walk_at "w"; exact h
  | list p => walk_at "w"; exact h
  | dict p q => walk_at "w"; exact h
theorem isiP_name (p : PK w σ.led v k) (h : Q (.bool (k == "name")) σ) : W S σ (call (.builtin "isinstance") [v, .ref 183]) Q E := by
  cases p with
  | none => walk_at "w"; exact h
  | int => walk_at "w"; exact h
  | name p => obtain ⟨dx, n, t, p1, p2⟩ := p; walk_at "w"; exact h
  | string p => obtain ⟨dx, n, t, t2, p1, p2⟩ := p; walk_at "w"; exact h
  | list p => walk_at "w"; exact h
  | dict p q => walk_at "w"; exact h
theorem isiP_string (p : PK w σ.led v k) (h : Q (.bool (k == "string")) σ) : W S σ (call (.builtin "isinstance") [v, .ref 205]) Q E := by
  cases p with
  | none => walk_at "w"; exact h
  | int => walk_at "w"; exact h
  | name p => obtain ⟨dx, n, t, p1, p2⟩ := p; walk_at "w"; exact h
  | string p => obtain ⟨dx, n, t, t2, p1, p2⟩ := p; walk_at "w"; exact h
  | list p => walk_at "w"; exact h
  | dict p q => walk_at "w"; exact h
end
theorem small_30 : Builtin.Range.small 0 30 1 = true := by decide +kernel
theorem size_30 : Builtin.Range.rangeSize 0 30 1 = ((30 : Nat) : Int) := by decide +kernel
theorem c_fetch {sh : Addr} {tb : List (Int × Value)} {v u : Value} {Q : Value → Sg → Prop} (hd : S.dp + 2 < recursionLimit) {M F : Led} (hl : Split σ.led M F) (hs : ShelfAt w F sh tb) (hr : Res w F tb v u)
    (h : ∀ F', F <:+ F' → Q u { σ with led := M ++ F' }) : W S σ (call (.ref 299) [.ref sh, v]) Q E := by
  refine W.callF [("value", v), ("self", .ref sh)] hl.perm (by k_dflt k_is) (by k_dflt k_is) (by omega) (fun _ _ => BindsTo.of_eq rfl) (by rfl) (by decide +kernel) (by rfl) (by rfl) (by rfl) ?_
  intro S' hdp hun
  walk_at "w"
  refine W.iterR 30 (by k_upd) small_30 size_30 fun I => ?_
  refine FLoop.itrF Itr.range (fun i m A F1 => A = M ∧ F <:+ F1 ∧ ((i = 0 ∧ Has [("here", v), ("self", .ref sh)] m) ∨ (i = 1 ∧ Has [("here", u), ("self", .ref sh)] m ∧ ∃ k, PK w F1 u k))) rfl (fun _ _ _ _ => trivial) (fun _ _ _ _ _ => trivial) ?_ ?_ M _ (by walk_at "cn") ?_
  · rintro i x m A F1 hi ⟨t, rfl⟩ ⟨rfl, hsuf, ⟨rfl, hm⟩ | ⟨rfl, hm, k, hk⟩⟩
    · refine W.weak hm ?_
      replace hr := hr.grow hsuf
      obtain ⟨ta, tr, kvs, ra, ⟨dx, n, t1, t2, s1, s2⟩, ⟨to, s3, s4⟩, s5⟩ := hs.grow hsuf
      cases hr with
      | self hp =>
        walk_at "w"
        refine isiP_ref (hp.grow (by walk_at "suf")) ?_
        walk_at "w"
        exact ⟨rfl, _, _, by walk_at "cn", _, _, Cn.base, h _ hsuf⟩
      | miss hq he =>
        obtain ⟨t, t', dxr, nr, t3, t4, r1, r2⟩ := hq
        walk_at "w"
        exact ⟨rfl, _, _, by walk_at "cn", _, _, Cn.base, h _ (by walk_at "suf")⟩
      | hit hq he hm2 hp =>
        obtain ⟨t, t', dxr, nr, t3, t4, r1, r2⟩ := hq
        walk_at "w"
        exact ⟨rfl, _, _, by walk_at "cn", rfl, by walk_at "suf", .inr ⟨rfl, by walk_at "has", _, hp.grow (by walk_at "suf")⟩⟩
    · refine W.weak hm ?_
      walk_at "w"
      refine isiP_ref (hk.grow (by walk_at "suf")) ?_
      walk_at "w"
      exact ⟨rfl, _, _, by walk_at "cn", _, _, Cn.base, h _ hsuf⟩
  · rintro m A F1 ⟨_, _, h | h⟩
    · exact absurd h.1 (by decide)
    · exact absurd h.1 (by decide)
  · exact ⟨rfl, by walk_at "suf", .inl ⟨rfl, by walk_at "has"⟩⟩
theorem c_get {sh d : Addr} {key : Str} {tk : Tok} {kvs : List (Str × Value)} {tb : List (Int × Value)} {u : Value} {Q : Value → Sg → Prop} (hd : S.dp + 3 < recursionLimit) {M F : Led} (hl : Split σ.led M F) (hs : ShelfAt w F sh tb) (hk : SDict w F d kvs) (hr : Res w F tb ((valueAt kvs key).getD .none) u)
    (h : ∀ F', F <:+ F' → Q u { σ with led := M ++ F' }) : W S σ (call (.ref 306) [.ref sh, .ref d, .str key tk]) Q E := by
  refine W.callF [("key", .str key tk), ("head", .ref d), ("self", .ref sh)] hl.perm (by k_dflt k_is) (by k_dflt k_is) (by omega) (fun _ _ => BindsTo.of_eq rfl) (by rfl) (by decide +kernel) (by rfl) (by rfl) (by rfl) ?_
  intro S' hdp hun
  have hs' := hs
  obtain ⟨ta, tr, kvs', ra, ⟨dx, n, t1, t2, s1, s2⟩, ⟨to, s3, s4⟩, s5⟩ := hs
  obtain ⟨o, k1, k2⟩ := hk
  walk_at "w"
  refine c_fetch (by omega) (by walk_at "spl") hs' hr fun led s => ?_
  walk_at "w"
  exact ⟨_, _, by walk_at "cn", h _ s⟩
theorem c_kind {v : Value} {k : Str} {Q : Value → Sg → Prop} (hd : S.dp + 1 < recursionLimit) (hp : PK w σ.led v k) (h : ∀ t, Q (.str k t) σ) : W S σ (call (.ref 265) [v]) Q E := by
  refine W.callDef [("value", v)] (by k_dflt k_is) (by k_dflt k_is) (by omega) (fun _ _ => BindsTo.of_eq rfl) (by rfl) (by decide +kernel) (by rfl) (by rfl) (by rfl) ?_
  intro S' hdp hun
  cases hp with
  | none => walk_at "w"; exact h _
  | int => walk_at "w"; exact h _
  | name p => obtain ⟨dx, n, t, p1, p2⟩ := p; walk_at "w"; exact h _
  | string p => obtain ⟨dx, n, t, t2, p1, p2⟩ := p; walk_at "w"; exact h _
  | list p => walk_at "w"; exact h _
  | dict p q => walk_at "w"; exact h _
theorem c_root {sh cat : Addr} {tb : List (Int × Value)} {kcat : List (Str × Value)} {Q : Value → Sg → Prop} (hd : S.dp + 4 < recursionLimit) {M F : Led} (hl : Split σ.led M F) (hs : ShelfAt w F sh tb) (hc : Entry w F tb 1 cat kcat)
    (h : ∀ F', F <:+ F' → Q (.ref cat) { σ with led := M ++ F' }) : W S σ (call (.ref 355) [.ref sh]) Q E := by
  refine W.callF [("self", .ref sh)] hl.perm (by k_dflt k_is) (by k_dflt k_is) (by omega) (fun _ _ => BindsTo.of_eq rfl) (by rfl) (by decide +kernel) (by rfl) (by rfl) (by rfl) ?_
  intro S' hdp hun
  have hs' := hs
  obtain ⟨ta, tr, kvs', ra, ⟨dx, n, t1, t2, s1, s2⟩, ⟨to, s3, s4⟩, s5, s6, s7⟩ := hs
  walk_at "w"
  refine c_get (by omega) (by walk_at "spl") hs' s5 (by rw [s6]; exact hc.res s7) fun led s => ?_
  obtain ⟨_, _, _, _, o, q1, q2⟩ := hc.grow s
  walk_at "w"
  exact ⟨_, _, by walk_at "cn", h _ s⟩
theorem c_sroot {sh cat r10 a10 : Addr} {tb : List (Int × Value)} {kcat k10 : List (Str × Value)} {Q : Value → Sg → Prop} (hd : S.dp + 5 < recursionLimit) {M F : Led} (hl : Split σ.led M F) (hs : ShelfAt w F sh tb) (hc : Entry w F tb 1 cat kcat)
    (e10 : valueAt kcat "StructTreeRoot" = some (.ref a10)) (ra : RefAt w F a10 10) (h10 : Entry w F tb 10 r10 k10)
    (h : ∀ F', F <:+ F' → Q (.ref r10) { σ with led := M ++ F' }) : W S σ (call (.ref 521) [.ref sh]) Q E := by
  refine W.callF [("shelf", .ref sh)] hl.perm (by k_dflt k_is) (by k_dflt k_is) (by omega) (fun _ _ => BindsTo.of_eq rfl) (by rfl) (by decide +kernel) (by rfl) (by rfl) (by rfl) ?_
  intro S' hdp hun
  have hs' := hs
  obtain ⟨ta, tr, kvs', ra', ⟨dx, n, t1, t2, s1, s2⟩, ⟨to, s3, s4⟩, s5, s6, s7⟩ := hs
  walk_at "w"
  refine c_root (by omega) (by walk_at "spl") hs' hc fun led s => ?_
  walk_at "w"
  refine c_get (by omega) (by walk_at "spl") (hs'.grow s) (hc.grow s).choose_spec.choose_spec.2.2 (by rw [e10]; exact (h10.grow s).res (RefAt.grow ra s)) fun led2 s2' => ?_
  obtain ⟨_, _, _, _, o, q1, q2⟩ := h10.grow (s.trans s2')
  walk_at "w"
  exact ⟨_, _, by walk_at "cn", h _ (s.trans s2')⟩
theorem c_items {sh d : Addr} {kvs : List (Str × Value)} {tb : List (Int × Value)} {vs : List Value} {Q : Value → Sg → Prop} (hd : S.dp + 4 < recursionLimit) {M F : Led} (hl : Split σ.led M F) (hs : ShelfAt w F sh tb) (hk : SDict w F d kvs) (hr : KSh w F tb kvs vs)
    (h : ∀ F' l n, F <:+ F' → (l, lstObj vs n) ∈ F' → Q (.ref l) { σ with led := M ++ F' }) : W S σ (call (.ref 533) [.ref sh, .ref d]) Q E := by
  refine W.callF [("head", .ref d), ("shelf", .ref sh)] hl.perm (by k_dflt k_is) (by k_dflt k_is) (by omega) (fun _ _ => BindsTo.of_eq rfl) (by rfl) (by decide +kernel) (by rfl) (by rfl) (by rfl) ?_
  intro S' hdp hun
  have hs' := hs
  obtain ⟨ta, tr, kvs', ra', ⟨dx, n, t1, t2, s1, s2⟩, ⟨to, s3, s4⟩, s5, s6, s7⟩ := hs
  walk_at "w"
  cases hr with
  | none e =>
    refine c_get (by omega) (by walk_at "spl") hs' hk (by rw [e]; exact .self .none) fun led s => ?_
    walk_at "w"
    exact ⟨_, _, by walk_at "cn", h _ _ _ (by walk_at "suf") (.head _)⟩
  | list e m =>
    refine c_get (by omega) (by walk_at "spl") hs' hk (by rw [e]; exact .self (.list m)) fun led s => ?_
    walk_at "w"
    exact ⟨_, _, by walk_at "cn", h _ _ _ (by walk_at "suf") (s.subset m)⟩
  | one e r p k q =>
    refine c_get (by omega) (by walk_at "spl") hs' hk (by rw [e]; exact r.res) fun led s => ?_
    walk_at "w"
    refine ite_f q ?_
    walk_at "w"
    refine isiP_list (p.grow (by walk_at "suf")) ?_
    rw [k]
    obtain ⟨o, k1, k2⟩ := SDict.grow hk s
    walk_at "w"
    exact ⟨_, _, by walk_at "cn", h _ _ _ (by walk_at "suf") (.head _)⟩
theorem c_sort {sh : Addr} {v : Value} {tb : List (Int × Value)} {k : Str} {Q : Value → Sg → Prop} (hd : S.dp + 4 < recursionLimit) {M F : Led} (hl : Split σ.led M F) (hs : ShelfAt w F sh tb) (hr : Sort' w F tb v k)
    (h : ∀ F' t, F <:+ F' → Q (.str k t) { σ with led := M ++ F' }) : W S σ (call (.ref 540) [.ref sh, v]) Q E := by
  refine W.callF [("item", v), ("shelf", .ref sh)] hl.perm (by k_dflt k_is) (by k_dflt k_is) (by omega) (fun _ _ => BindsTo.of_eq rfl) (by rfl) (by decide +kernel) (by rfl) (by rfl) (by rfl) ?_
  intro S' hdp hun
  have hs' := hs
  obtain ⟨ta, tr, kvs', ra', ⟨dx, n, t1, t2, s1, s2⟩, ⟨to, s3, s4⟩, s5, s6, s7⟩ := hs
  walk_at "w"
  cases hr with
  | content e =>
    refine c_fetch (by omega) (by walk_at "spl") hs' (.self .int) fun led s => ?_
    walk_at "w"
    refine c_kind (by omega) .int fun t => ?_
    walk_at "w"
    refine ite_t (by simpa using e) ?_
    walk_at "w"
    exact ⟨_, _, by walk_at "cn", h _ _ s⟩
  | elem r d e =>
    obtain ⟨o, d1, d2⟩ := d
    refine c_fetch (by omega) (by walk_at "spl") hs' r fun led s => ?_
    walk_at "w"
    refine c_kind (by omega) (.dict (by k_upd) d2) fun t => ?_
    walk_at "w"
    refine c_get (by omega) (by walk_at "spl") (hs'.grow s) ⟨o, s.subset d1, d2⟩ (by rw [e]; exact .self .none) fun led2 s2' => ?_
    walk_at "w"
    exact ⟨_, _, by walk_at "cn", h _ _ (by walk_at "suf")⟩
  | mcr r d e n =>
    obtain ⟨o, d1, d2⟩ := d
    refine c_fetch (by omega) (by walk_at "spl") hs' r fun led s => ?_
    walk_at "w"
    refine c_kind (by omega) (.dict (by k_upd) d2) fun t => ?_
    walk_at "w"
    refine c_get (by omega) (by walk_at "spl") (hs'.grow s) ⟨o, s.subset d1, d2⟩ (by rw [e]; exact .self (NameAt.grow n s).pk) fun led2 s2' => ?_
    obtain ⟨t', dx', n', t'', n1, n2⟩ := NameAt.grow n (s.trans s2')
    walk_at "w"
    exact ⟨_, _, by walk_at "cn", h _ _ (by walk_at "suf")⟩
  | objr r d e n =>
    obtain ⟨o, d1, d2⟩ := d
    refine c_fetch (by omega) (by walk_at "spl") hs' r fun led s => ?_
    walk_at "w"
    refine c_kind (by omega) (.dict (by k_upd) d2) fun t => ?_
    walk_at "w"
    refine c_get (by omega) (by walk_at "spl") (hs'.grow s) ⟨o, s.subset d1, d2⟩ (by rw [e]; exact .self (NameAt.grow n s).pk) fun led2 s2' => ?_
    obtain ⟨t', dx', n', t'', n1, n2⟩ := NameAt.grow n (s.trans s2')
    walk_at "w"
    exact ⟨_, _, by walk_at "cn", h _ _ (by walk_at "suf")⟩
theorem c_home {sh a d : Addr} {nn : Int} {kvs : List (Str × Value)} {tb : List (Int × Value)} {Q : Value → Sg → Prop} (hd : S.dp + 4 < recursionLimit) {M F : Led} (hl : Split σ.led M F) (hs : ShelfAt w F sh tb) (hr : RefAt w F a nn) (he : Entry w F tb nn d kvs)
    (h : ∀ F', F <:+ F' → Q (.ref a) { σ with led := M ++ F' }) : W S σ (call (.ref 448) [.ref sh, .ref a]) Q E := by
  refine W.callF [("value", .ref a), ("shelf", .ref sh)] hl.perm (by k_dflt k_is) (by k_dflt k_is) (by omega) (fun _ _ => BindsTo.of_eq rfl) (by rfl) (by decide +kernel) (by rfl) (by rfl) (by rfl) ?_
  intro S' hdp hun
  obtain ⟨ta, tr, kvs', ra', ⟨dx, n, t1, t2, s1, s2⟩, ⟨to, s3, s4⟩, s5, s6, s7⟩ := hs
  obtain ⟨t, t', dxr, nr, t3, t4, r1, r2⟩ := hr
  obtain ⟨tp, t5, e1, e2, o, e3, e4⟩ := he
  walk_at "w"
  refine W.WhileU (WLoop.turn ?_)
  walk_at "w"
  exact ⟨_, _, by walk_at "cn", h _ (by walk_at "suf")⟩
theorem c_isnode {sh d aT : Addr} {kvs : List (Str × Value)} {tb : List (Int × Value)} {x : Str} {Q : Value → Sg → Prop} (hd : S.dp + 4 < recursionLimit) {M F : Led} (hl : Split σ.led M F) (hs : ShelfAt w F sh tb) (hk : SDict w F d kvs) (hT : valueAt kvs "Type" = some (.ref aT)) (hn : NameAt w F aT x) (hx : x = "Pages" ∨ x = "Page")
    (h : ∀ F', F <:+ F' → Q (.bool (x == "Pages")) { σ with led := M ++ F' }) : W S σ (call (.ref 455) [.ref sh, .ref d]) Q E := by
  refine W.callF [("head", .ref d), ("shelf", .ref sh)] hl.perm (by k_dflt k_is) (by k_dflt k_is) (by omega) (fun _ _ => BindsTo.of_eq rfl) (by rfl) (by decide +kernel) (by rfl) (by rfl) (by rfl) ?_
  intro S' hdp hun
  have hs' := hs
  obtain ⟨ta, tr, kvs', ra', ⟨dx, n, t1, t2, s1, s2⟩, ⟨to, s3, s4⟩, s5, s6, s7⟩ := hs
  walk_at "w"
  refine c_get (by omega) (by walk_at "spl") hs' hk (by rw [hT]; exact .self hn.pk) fun led s => ?_
  obtain ⟨t', dx', n', t'', n1, n2⟩ := NameAt.grow hn s
  walk_at "w"
  refine W.inTupS (ys := ["Pages", "Page"]) (by k_upd) (.cons _ _ (.cons _ _ .nil)) ?_
  walk_at "w"
  rcases hx with rfl | rfl
  · walk_at "w"
    exact ⟨_, _, by walk_at "cn", h _ (by walk_at "suf")⟩
  · walk_at "w"
    exact ⟨_, _, by walk_at "cn", h _ (by walk_at "suf")⟩
theorem c_kids {sh d l : Addr} {kvs : List (Str × Value)} {tb : List (Int × Value)} {vs : List Value} {k : Nat} {Q : Value → Sg → Prop} (hd : S.dp + 4 < recursionLimit) {M F : Led} (hl : Split σ.led M F) (hs : ShelfAt w F sh tb) (hk : SDict w F d kvs) (hT : valueAt kvs "Kids" = some (.ref l)) (hls : (l, lstObj vs k) ∈ F)
    (h : ∀ F', F <:+ F' → Q (.ref l) { σ with led := M ++ F' }) : W S σ (call (.ref 462) [.ref sh, .ref d]) Q E := by
  refine W.callF [("head", .ref d), ("shelf", .ref sh)] hl.perm (by k_dflt k_is) (by k_dflt k_is) (by omega) (fun _ _ => BindsTo.of_eq rfl) (by rfl) (by decide +kernel) (by rfl) (by rfl) (by rfl) ?_
  intro S' hdp hun
  have hs' := hs
  obtain ⟨ta, tr, kvs', ra', ⟨dx, n, t1, t2, s1, s2⟩, ⟨to, s3, s4⟩, s5, s6, s7⟩ := hs
  walk_at "w"
  refine c_get (by omega) (by walk_at "spl") hs' hk (by rw [hT]; exact .self (.list hls)) fun led s => ?_
  walk_at "w"
  exact ⟨_, _, by walk_at "cn", h _ (by walk_at "suf")⟩
theorem c_met {sh a d inh aT : Addr} {nn : Int} {kvs : List (Str × Value)} {tb : List (Int × Value)} {x : Str} {above : Value} {Q : Value → Sg → Prop} (hd : S.dp + 6 < recursionLimit) {M F : Led} (hl : Split σ.led M F) (hs : ShelfAt w F sh tb) (hr : RefAt w F a nn) (he : Entry w F tb nn d kvs)
    (hi : SDict w F inh []) (hT : valueAt kvs "Type" = some (.ref aT)) (hn : NameAt w F aT x) (hx : x = "Pages" ∨ x = "Page")
    (k1 : valueAt kvs "Resources" = none) (k2 : valueAt kvs "MediaBox" = none) (k3 : valueAt kvs "CropBox" = none) (k4 : valueAt kvs "Rotate" = none)
    (h : ∀ F' X g, F <:+ F' → Inst5 w.params 437 "reference" (.ref a) "head" (.ref d) "above" above "inherited" (.ref g) "is_page" (.bool (!(x == "Pages"))) X F' → SDict w F' g [] → Q (.ref X) { σ with led := M ++ F' }) : W S σ (call (.ref 469) [.ref sh, .ref a, above, .ref inh]) Q E := by
  refine W.callF [("inherited", .ref inh), ("above", above), ("value", .ref a), ("shelf", .ref sh)] hl.perm (by k_dflt k_is) (by k_dflt k_is) (by omega) (fun _ _ => BindsTo.of_eq rfl) (by rfl) (by decide +kernel) (by rfl) (by rfl) (by rfl) ?_
  intro S' hdp hun
  have hs' := hs
  obtain ⟨ta, tr, kvs', ra', ⟨dx, n, t1, t2, s1, s2⟩, ⟨to, s3, s4⟩, s5, s6, s7⟩ := hs
  walk_at "w"
  refine c_home (by omega) (by walk_at "spl") hs' hr he fun F1 g1 => ?_
  walk_at "w"
  refine c_fetch (by omega) (by walk_at "spl") (hs'.grow g1) ((he.grow g1).res (RefAt.grow hr g1)) fun F2 g2 => ?_
  have hd2 : SDict w F2 d kvs := (he.grow (g1.trans g2)).choose_spec.choose_spec.2.2
  obtain ⟨o, o1, o2⟩ := hd2
  obtain ⟨io, i1, i2⟩ := SDict.grow hi (g1.trans g2)
  walk_at "w"
  rename_i D1 D1o D1h I
  have G : F <:+ F2 := g1.trans g2
  have hkey : ∀ i v, i < 4 → ([Value.str "Resources" 690, .str "MediaBox" 691, .str "CropBox" 692, .str "Rotate" 693])[i]? = some v → ∃ key t, v = .str key t ∧ valueAt kvs key = none := by
    intro i v hi hv
    match i, hi with
    | 0, _ => exact ⟨_, _, (Option.some.inj hv).symm, k1⟩
    | 1, _ => exact ⟨_, _, (Option.some.inj hv).symm, k2⟩
    | 2, _ => exact ⟨_, _, (Option.some.inj hv).symm, k3⟩
    | 3, _ => exact ⟨_, _, (Option.some.inj hv).symm, k4⟩
  refine FLoop.itrF (Itr.tupleK (by k_dflt k_is)) (fun i m A F' => A = (D1, D1o) :: M ∧ F2 <:+ F' ∧ Has [("given", .ref D1), ("head", .ref d), ("reference", .ref a), ("above", above), ("shelf", .ref sh)] m) rfl (fun _ _ _ _ => trivial) (fun _ _ _ _ _ => trivial) ?_ ?_ ((D1, D1o) :: M) _ (by walk_at "cn") ⟨rfl, by walk_at "suf", by walk_at "has"⟩
  · rintro i v m A F' hi hv ⟨rfl, hs3, hm⟩
    refine W.weak hm ?_
    obtain ⟨key, t, rfl, hk⟩ := hkey i v hi hv
    walk_at "w"
    refine c_get (by omega) (by walk_at "spl") (hs'.grow (by walk_at "suf")) ⟨o, by k_upd, o2⟩ (by rw [hk]; exact .self .none) fun F3 g3 => ?_
    walk_at "w"
    exact ⟨rfl, _, _, by walk_at "cn", rfl, by walk_at "suf", by walk_at "has"⟩
  · rintro m A F' ⟨rfl, hs3, hm⟩
    refine W.weak hm ?_
    walk_at "w"
    refine c_isnode (by omega) (by walk_at "spl") (hs'.grow (by walk_at "suf")) ⟨o, by k_upd, o2⟩ hT (NameAt.grow hn (by walk_at "suf")) hx fun F3 g3 => ?_
    refine W.frz D1 (by walk_at "ext") (by walk_at "spl") ?_
    walk_at "w"
    refine c_Spot (by omega) (by walk_at "spl") fun X F4 g4 ix => ?_
    walk_at "w"
    exact ⟨_, _, by walk_at "cn", h _ _ _ (by walk_at "suf") ix ⟨D1o, by k_upd, D1h⟩⟩
theorem c_spots {sh cat a2 d2 l2 b3 b4 d3 d4 aT aT3 aT4 : Addr} {nl : Nat} {kcat k2 k3 k4 : List (Str × Value)} {tb : List (Int × Value)} {Q : Value → Sg → Prop} (hd : S.dp + 8 < recursionLimit) (hu : S.un + 100 < cLine) {M F : Led} (hl : Split σ.led M F) (hs : ShelfAt w F sh tb)
    (hc : Entry w F tb 1 cat kcat) (hp : valueAt kcat "Pages" = some (.ref a2)) (hr2 : RefAt w F a2 2) (he2 : Entry w F tb 2 d2 k2) (hT : valueAt k2 "Type" = some (.ref aT)) (hn : NameAt w F aT "Pages")
    (q1 : valueAt k2 "Resources" = none) (q2 : valueAt k2 "MediaBox" = none) (q3 : valueAt k2 "CropBox" = none) (q4 : valueAt k2 "Rotate" = none)
    (hkl : valueAt k2 "Kids" = some (.ref l2)) (hl2 : (l2, lstObj [.ref b3, .ref b4] nl) ∈ F) (hr3 : RefAt w F b3 3) (hr4 : RefAt w F b4 4)
    (he3 : Entry w F tb 3 d3 k3) (hT3 : valueAt k3 "Type" = some (.ref aT3)) (hn3 : NameAt w F aT3 "Page")
    (q13 : valueAt k3 "Resources" = none) (q23 : valueAt k3 "MediaBox" = none) (q33 : valueAt k3 "CropBox" = none) (q43 : valueAt k3 "Rotate" = none)
    (he4 : Entry w F tb 4 d4 k4) (hT4 : valueAt k4 "Type" = some (.ref aT4)) (hn4 : NameAt w F aT4 "Page")
    (q14 : valueAt k4 "Resources" = none) (q24 : valueAt k4 "MediaBox" = none) (q34 : valueAt k4 "CropBox" = none) (q44 : valueAt k4 "Rotate" = none)
    (h : ∀ F' l n X2 X3 X4 g2 g3 g4 u3 u4 u5, F <:+ F' → (l, lstObj [.ref X2, .ref X3, .ref X4] n) ∈ F' →
      Inst5 w.params 437 "reference" (.ref a2) "head" (.ref d2) "above" u3 "inherited" (.ref g2) "is_page" (.bool false) X2 F' →
      Inst5 w.params 437 "reference" (.ref b3) "head" (.ref d3) "above" u4 "inherited" (.ref g3) "is_page" (.bool true) X3 F' → SDict w F' g3 [] →
      Inst5 w.params 437 "reference" (.ref b4) "head" (.ref d4) "above" u5 "inherited" (.ref g4) "is_page" (.bool true) X4 F' → SDict w F' g4 [] →
      Q (.ref l) { σ with led := M ++ F' }) : W S σ (call (.ref 476) [.ref sh]) Q E := by
  refine W.callF [("shelf", .ref sh)] hl.perm (by k_dflt k_is) (by k_dflt k_is) (by omega) (fun _ _ => BindsTo.of_eq rfl) (by rfl) (by decide +kernel) (by rfl) (by rfl) (by rfl) ?_
  intro S' hdp hun
  have hs' := hs
  obtain ⟨ta, tr, kvs', ra', ⟨dx, n, t1, t2, s1, s2⟩, ⟨to, s3, s4⟩, s5, s6, s7⟩ := hs
  have hr2' := hr2
  have hr3' := hr3
  have hr4' := hr4
  obtain ⟨_, _, _, _, _, _, e21, e22⟩ := hr2
  obtain ⟨_, _, _, _, _, _, e31, e32⟩ := hr3
  obtain ⟨_, _, _, _, _, _, e41, e42⟩ := hr4
  walk_at "w"
  rename_i fd SD So Ss Si
  refine c_root (by omega) (by walk_at "spl") hs' hc fun F1 g1 => ?_
  obtain ⟨_, _, _, _, oc, oc1, oc2⟩ := hc.grow g1
  walk_at "w"
  rename_i nilT inhD inhO inhS inhI tp3 line
  refine W.WhileU (WLoop.turn ?_)
  walk_at "w"
  refine W.frz inhD (by walk_at "ext") (by walk_at "spl") ?_
  refine c_met (nn := 2) (kvs := k2) (by omega) (by walk_at "spl") (hs'.grow (by walk_at "suf")) (RefAt.grow hr2' (by walk_at "suf")) (he2.grow (by walk_at "suf")) ⟨inhO, by k_upd, inhS⟩ hT (NameAt.grow hn (by walk_at "suf")) (.inl rfl) q1 q2 q3 q4 fun F2 X2 G2 g2 ix2 ig2 => ?_
  have g2' : F1 <:+ F2 := by walk_at "suf"
  have ix2' := ix2
  obtain ⟨dx2, n2, y1, y2, y3, y4, y5, z1, z2⟩ := ix2
  walk_at "w"
  refine c_kids (by omega) (by walk_at "spl") (hs'.grow (by walk_at "suf")) (he2.grow (by walk_at "suf")).choose_spec.choose_spec.2.2 hkl (sufmem (l := F) (by walk_at "suf") hl2) fun F3 g3 => ?_
  have hl3 := sufmem (l := F) (l' := F3) (by walk_at "suf") hl2
  walk_at "w"
  rename_i o' so' _ J
  refine FLoop.turn (Itr.rev (l := l2) (vs := [.ref b3, .ref b4]) (k := nl)) 0 rfl (by simp) (by k_upd) fun v hv => ?_
  obtain rfl : v = .ref b4 := (Option.some.inj hv).symm
  walk_at "w"
  refine FLoop.turn (Itr.rev (l := l2) (vs := [.ref b3, .ref b4]) (k := nl)) 1 rfl (by simp) (by k_upd) fun v hv => ?_
  obtain rfl : v = .ref b3 := (Option.some.inj hv).symm
  walk_at "w"
  refine FLoop.stop (Itr.rev (l := l2) (vs := [.ref b3, .ref b4]) (k := nl)) rfl (by k_upd) ?_
  walk_at "w"
  refine WLoop.turn ?_
  walk_at "w"
  rename_i ab4 li4 ab3 li3
  refine c_met (nn := 3) (kvs := k3) (by omega) (by walk_at "spl") (hs'.grow (by walk_at "suf")) (RefAt.grow hr3' (by walk_at "suf")) (he3.grow (by walk_at "suf")) (SDict.grow ig2 (by walk_at "suf")) hT3 (NameAt.grow hn3 (by walk_at "suf")) (.inr rfl) q13 q23 q33 q43 fun F4 X3 G3 g4 ix3 ig3 => ?_
  have g4' : F3 <:+ F4 := by walk_at "suf"
  have ix3' := ix3
  obtain ⟨dx3, n3, y31, y32, y33, y34, y35, z31, z32⟩ := ix3
  walk_at "w"
  refine WLoop.turn ?_
  walk_at "w"
  refine c_met (nn := 4) (kvs := k4) (by omega) (by walk_at "spl") (hs'.grow (by walk_at "suf")) (RefAt.grow hr4' (by walk_at "suf")) (he4.grow (by walk_at "suf")) (SDict.grow ig2 (by walk_at "suf")) hT4 (NameAt.grow hn4 (by walk_at "suf")) (.inr rfl) q14 q24 q34 q44 fun F5 X4 G4 g5 ix4 ig4 => ?_
  have g5' : F4 <:+ F5 := by walk_at "suf"
  have ix4' := ix4
  obtain ⟨dx4, n4, y41, y42, y43, y44, y45, z41, z42⟩ := ix4
  walk_at "w"
  refine WLoop.turn ?_
  walk_at "w"
  exact ⟨M, _, by walk_at "cn", h _ _ _ X2 X3 X4 G2 G3 G4 _ _ _ (by walk_at "suf") (by k_upd) (ix2'.grow (by walk_at "suf")) (ix3'.grow (by walk_at "suf")) (SDict.grow ig3 (by walk_at "suf")) (ix4'.grow (by walk_at "suf")) (SDict.grow ig4 (by walk_at "suf"))⟩

theorem c_fields {sh X a d g : Addr} {u : Value} {kvs : List (Str × Value)} {tb : List (Int × Value)} {Q : Value → Sg → Prop} (hd : S.dp + 4 < recursionLimit) {M F : Led} (hl : Split σ.led M F) (hs : ShelfAt w F sh tb) (hk : SDict w F d kvs) (hz : kvs.length ≤ sizeLine) (hg : SDict w F g [])
    (hX : Inst5 w.params 437 "reference" (.ref a) "head" (.ref d) "above" u "inherited" (.ref g) "is_page" (.bool true) X F)
    (h : ∀ F' D, F <:+ F' → SDict w F' D kvs → Q (.ref D) { σ with led := M ++ F' }) : W S σ (call (.ref 483) [.ref sh, .ref X]) Q E := by
  refine W.callF [("spot", .ref X), ("shelf", .ref sh)] hl.perm (by k_dflt k_is) (by k_dflt k_is) (by omega) (fun _ _ => BindsTo.of_eq rfl) (by rfl) (by decide +kernel) (by rfl) (by rfl) (by rfl) ?_
  intro S' hdp hun
  obtain ⟨dx, n, y1, y2, y3, y4, y5, z1, z2⟩ := hX
  obtain ⟨o, o1, o2⟩ := hk
  obtain ⟨go, i1, i2⟩ := hg
  walk_at "w"
  rename_i D1 D1o D1h I
  have hkey : ∀ i v, i < 4 → ([Value.str "Resources" 690, .str "MediaBox" 691, .str "CropBox" 692, .str "Rotate" 693])[i]? = some v → ∃ key t, v = .str key t := by
    intro i v hi hv
    match i, hi with
    | 0, _ => exact ⟨_, _, (Option.some.inj hv).symm⟩
    | 1, _ => exact ⟨_, _, (Option.some.inj hv).symm⟩
    | 2, _ => exact ⟨_, _, (Option.some.inj hv).symm⟩
    | 3, _ => exact ⟨_, _, (Option.some.inj hv).symm⟩
  refine FLoop.itrF (Itr.tupleK (by k_dflt k_is)) (fun i m A F' => A = (D1, D1o) :: M ∧ F <:+ F' ∧ Has [("found", .ref D1), ("spot", .ref X), ("shelf", .ref sh)] m) rfl (fun _ _ _ _ => trivial) (fun _ _ _ _ _ => trivial) ?_ ?_ ((D1, D1o) :: M) _ (by walk_at "cn") ⟨rfl, by walk_at "suf", by walk_at "has"⟩
  · rintro i v m A F' hi hv ⟨rfl, hs3, hm⟩
    refine W.weak hm ?_
    obtain ⟨key, t, rfl⟩ := hkey i v hi hv
    walk_at "w"
    exact ⟨rfl, _, _, by walk_at "cn", rfl, by walk_at "suf", by walk_at "has"⟩
  · rintro m A F' ⟨rfl, hs3, hm⟩
    refine W.weak hm ?_
    walk_at "w"
    exact ⟨M, _, by walk_at "cn", h _ D1 (by walk_at "suf") ⟨D1o, by k_upd, D1h⟩⟩
/-- the two pages, as the world has them -/
def PagesW (w : World) (F : Led) (tb : List (Int × Value)) : Prop :=
  ∃ (cat a2 d2 l2 b3 b4 d3 d4 aT aT3 aT4 : Addr) (nl : Nat) (kcat k2 k3 k4 : List (Str × Value)),
    Entry w F tb 1 cat kcat ∧ valueAt kcat "Pages" = some (.ref a2) ∧ RefAt w F a2 2 ∧ Entry w F tb 2 d2 k2 ∧ valueAt k2 "Type" = some (.ref aT) ∧ NameAt w F aT "Pages" ∧
    valueAt k2 "Resources" = none ∧ valueAt k2 "MediaBox" = none ∧ valueAt k2 "CropBox" = none ∧ valueAt k2 "Rotate" = none ∧
    valueAt k2 "Kids" = some (.ref l2) ∧ (l2, lstObj [.ref b3, .ref b4] nl) ∈ F ∧ RefAt w F b3 3 ∧ RefAt w F b4 4 ∧
    Entry w F tb 3 d3 k3 ∧ valueAt k3 "Type" = some (.ref aT3) ∧ NameAt w F aT3 "Page" ∧
    valueAt k3 "Resources" = none ∧ valueAt k3 "MediaBox" = none ∧ valueAt k3 "CropBox" = none ∧ valueAt k3 "Rotate" = none ∧ k3.length ≤ sizeLine ∧
    Entry w F tb 4 d4 k4 ∧ valueAt k4 "Type" = some (.ref aT4) ∧ NameAt w F aT4 "Page" ∧
    valueAt k4 "Resources" = none ∧ valueAt k4 "MediaBox" = none ∧ valueAt k4 "CropBox" = none ∧ valueAt k4 "Rotate" = none ∧ k4.length ≤ sizeLine
theorem PagesW.grow {F F' : Led} {tb : List (Int × Value)} (h : PagesW w F tb) (s : F <:+ F') : PagesW w F' tb := by
  obtain ⟨cat, a2, d2, l2, b3, b4, d3, d4, aT, aT3, aT4, nl, kcat, k2, k3, k4, h1, h2, h3, h4, h5, h6, h7, h8, h9, h10, h11, h12, h13, h14, h15, h16, h17, h18, h19, h20, h21, h22, h23, h24, h25, h26⟩ := h
  exact ⟨cat, a2, d2, l2, b3, b4, d3, d4, aT, aT3, aT4, nl, kcat, k2, k3, k4, h1.grow s, h2, RefAt.grow h3 s, h4.grow s, h5, NameAt.grow h6 s, h7, h8, h9, h10, h11, s.subset h12, RefAt.grow h13 s, RefAt.grow h14 s, h15.grow s, h16, NameAt.grow h17 s, h18, h19, h20, h21, h22, h23.grow s, h24, NameAt.grow h25 s, h26⟩
theorem c_pspots {sh : Addr} {tb : List (Int × Value)} {Q : Value → Sg → Prop} (hd : S.dp + 9 < recursionLimit) (hu : S.un + 110 < cLine) {M F : Led} (hl : Split σ.led M F) (hs : ShelfAt w F sh tb) (hp : PagesW w F tb)
    (h : ∀ F' l n X3 X4 b3 b4 d3 d4 g3 g4 u3 u4 k3 k4, F <:+ F' → (l, lstObj [.ref X3, .ref X4] n) ∈ F' →
      Inst5 w.params 437 "reference" (.ref b3) "head" (.ref d3) "above" u3 "inherited" (.ref g3) "is_page" (.bool true) X3 F' → SDict w F' g3 [] → SDict w F' d3 k3 → k3.length ≤ sizeLine → RefAt w F' b3 3 →
      Inst5 w.params 437 "reference" (.ref b4) "head" (.ref d4) "above" u4 "inherited" (.ref g4) "is_page" (.bool true) X4 F' → SDict w F' g4 [] → SDict w F' d4 k4 → k4.length ≤ sizeLine → RefAt w F' b4 4 →
      Q (.ref l) { σ with led := M ++ F' }) : W S σ (call (.ref 488) [.ref sh]) Q E := by
  refine W.callF [("shelf", .ref sh)] hl.perm (by k_dflt k_is) (by k_dflt k_is) (by omega) (fun _ _ => BindsTo.of_eq rfl) (by rfl) (by decide +kernel) (by rfl) (by rfl) (by rfl) ?_
  intro S' hdp hun
  obtain ⟨cat, a2, d2, l2, b3, b4, d3, d4, aT, aT3, aT4, nl, kcat, k2, k3, k4, h1, h2, h3, h4, h5, h6, h7, h8, h9, h10, h11, h12, h13, h14, h15, h16, h17, h18, h19, h20, h21, h22, h23, h24, h25, h26, h27, h28, h29, h30⟩ := hp
  walk_at "w"
  refine c_spots (by omega) (by omega) (by walk_at "spl") hs h1 h2 h3 h4 h5 h6 h7 h8 h9 h10 h11 h12 h13 h14 h15 h16 h17 h18 h19 h20 h21 h23 h24 h25 h26 h27 h28 h29 fun F1 l n X2 X3 X4 g2 g3 g4 u3 u4 u5 s1 m1 i2 i3 j3 i4 j4 => ?_
  obtain ⟨dx2, n2, y21, y22, y23, y24, y25, z21, z22⟩ := i2
  have i3' := i3
  have i4' := i4
  obtain ⟨dx3, n3, y31, y32, y33, y34, y35, z31, z32⟩ := i3
  obtain ⟨dx4, n4, y41, y42, y43, y44, y45, z41, z42⟩ := i4
  walk_at "w"
  refine CStart.itrF (Itr.list (l := l) (vs := [.ref X2, .ref X3, .ref X4]) (k := n)) (fun i vs A F' => A = M ∧ F1 <:+ F' ∧ ((i = 0 ∧ vs = []) ∨ (i = 1 ∧ vs = []) ∨ (i = 2 ∧ vs = [.ref X3]) ∨ (i = 3 ∧ vs = [.ref X3, .ref X4]))) (Nat.le_of_ble_eq_true rfl) rfl (fun _ _ hp q => hp.mem_iff.mpr q) (fun i vs A F' ⟨e, s, _⟩ => by subst e; exact List.mem_append_right _ (s.subset m1)) ?_ ?_ M _ (by walk_at "cn") ⟨rfl, by walk_at "suf", .inl ⟨rfl, rfl⟩⟩
  · rintro i v vs A F' D C k hi hv ⟨rfl, s2, hc⟩ hz
    rcases hc with ⟨rfl, rfl⟩ | ⟨rfl, rfl⟩ | ⟨rfl, rfl⟩ | ⟨rfl, rfl⟩
    · obtain rfl : v = .ref X2 := (Option.some.inj hv).symm
      walk_at "w"
      exact ⟨⟨_, rfl⟩, rfl, _, _, by walk_at "cn", rfl, by walk_at "suf", .inr (.inl ⟨rfl, rfl⟩)⟩
    · obtain rfl : v = .ref X3 := (Option.some.inj hv).symm
      walk_at "w"
      exact ⟨⟨_, rfl⟩, rfl, _, _, by walk_at "cn", rfl, by walk_at "suf", .inr (.inr (.inl ⟨rfl, rfl⟩))⟩
    · obtain rfl : v = .ref X4 := (Option.some.inj hv).symm
      walk_at "w"
      exact ⟨⟨_, rfl⟩, rfl, _, _, by walk_at "cn", rfl, by walk_at "suf", .inr (.inr (.inr ⟨rfl, rfl⟩))⟩
    · exact absurd hi (by simp)
  · rintro D vs k A F' ⟨rfl, s2, hc⟩
    obtain rfl : vs = [.ref X3, .ref X4] := by
      rcases hc with ⟨e, _⟩ | ⟨e, _⟩ | ⟨e, _⟩ | ⟨_, e⟩
      · cases e
      · cases e
      · cases e
      · exact e
    walk_at "w"
    exact ⟨A, _, by walk_at "cn", h _ D _ X3 X4 b3 b4 d3 d4 _ _ _ _ k3 k4 (by walk_at "suf") (by k_upd) (i3'.grow (by walk_at "suf")) (SDict.grow j3 (by walk_at "suf")) (h15.grow (by walk_at "suf")).choose_spec.choose_spec.2.2 h22 (RefAt.grow h13 (by walk_at "suf")) (i4'.grow (by walk_at "suf")) (SDict.grow j4 (by walk_at "suf")) (h23.grow (by walk_at "suf")).choose_spec.choose_spec.2.2 h30 (RefAt.grow h14 (by walk_at "suf"))⟩
theorem c_pages {sh : Addr} {tb : List (Int × Value)} {Q : Value → Sg → Prop} (hd : S.dp + 10 < recursionLimit) (hu : S.un + 120 < cLine) {M F : Led} (hl : Split σ.led M F) (hs : ShelfAt w F sh tb) (hp : PagesW w F tb)
    (h : ∀ F' l n P3 P4 b3 b4 v3 v4, F <:+ F' → (l, lstObj [.ref P3, .ref P4] n) ∈ F' → Inst2 w.params 416 "reference" (.ref b3) "fields" v3 P3 F' → RefAt w F' b3 3 → Inst2 w.params 416 "reference" (.ref b4) "fields" v4 P4 F' → RefAt w F' b4 4 →
      Q (.ref l) { σ with led := M ++ F' }) : W S σ (call (.ref 493) [.ref sh]) Q E := by
  refine W.callF [("shelf", .ref sh)] hl.perm (by k_dflt k_is) (by k_dflt k_is) (by omega) (fun _ _ => BindsTo.of_eq rfl) (by rfl) (by decide +kernel) (by rfl) (by rfl) (by rfl) ?_
  intro S' hdp hun
  walk_at "w"
  refine c_pspots (by omega) (by omega) (by walk_at "spl") hs hp fun F1 l n X3 X4 b3 b4 d3 d4 g3 g4 u3 u4 k3 k4 s1 m1 i3 j3 e3 z3 r3 i4 j4 e4 z4 r4 => ?_
  walk_at "w"
  refine CStart.itrF (Itr.list (l := l) (vs := [.ref X3, .ref X4]) (k := n)) (fun i vs A F' => A = M ∧ F1 <:+ F' ∧ ((i = 0 ∧ vs = []) ∨ (i = 1 ∧ ∃ P3 v3, vs = [.ref P3] ∧ Inst2 w.params 416 "reference" (.ref b3) "fields" v3 P3 F') ∨ (i = 2 ∧ ∃ P3 v3 P4 v4, vs = [.ref P3, .ref P4] ∧ Inst2 w.params 416 "reference" (.ref b3) "fields" v3 P3 F' ∧ Inst2 w.params 416 "reference" (.ref b4) "fields" v4 P4 F'))) (Nat.le_of_ble_eq_true rfl) rfl (fun _ _ hp q => hp.mem_iff.mpr q) (fun i vs A F' ⟨e, s, _⟩ => by subst e; exact List.mem_append_right _ (s.subset m1)) ?_ ?_ M _ (by walk_at "cn") ⟨rfl, by walk_at "suf", .inl ⟨rfl, rfl⟩⟩
  · rintro i v vs A F' D C k hi hv ⟨rfl, s2, hc⟩ hz
    rcases hc with ⟨rfl, rfl⟩ | ⟨rfl, P3, v3, rfl, p3⟩ | ⟨rfl, _⟩
    · obtain rfl : v = .ref X3 := (Option.some.inj hv).symm
      have i3' := i3.grow s2
      obtain ⟨dx3, n3, y31, y32, y33, y34, y35, z31, z32⟩ := i3'
      walk_at "w"
      refine c_fields (by omega) (by walk_at "spl") (hs.grow (by walk_at "suf")) (SDict.grow e3 s2) z3 (SDict.grow j3 s2) (i3.grow s2) fun F3 D3 s3 d3' => ?_
      walk_at "w"
      refine c_Page (by omega) (by walk_at "spl") fun P3 F4 s4 p3 => ?_
      exact ⟨⟨_, rfl⟩, rfl, _, _, by walk_at "cn", rfl, by walk_at "suf", .inr (.inl ⟨rfl, P3, _, rfl, p3⟩)⟩
    · obtain rfl : v = .ref X4 := (Option.some.inj hv).symm
      have i4' := i4.grow s2
      obtain ⟨dx3, n3, y31, y32, y33, y34, y35, z31, z32⟩ := i4'
      walk_at "w"
      refine c_fields (by omega) (by walk_at "spl") (hs.grow (by walk_at "suf")) (SDict.grow e4 s2) z4 (SDict.grow j4 s2) (i4.grow s2) fun F3 D3 s3 d3' => ?_
      walk_at "w"
      refine c_Page (by omega) (by walk_at "spl") fun P4 F4 s4 p4 => ?_
      exact ⟨⟨_, rfl⟩, rfl, _, _, by walk_at "cn", rfl, by walk_at "suf", .inr (.inr ⟨rfl, P3, v3, P4, _, rfl, p3.grow (by walk_at "suf"), p4⟩)⟩
    · exact absurd hi (by simp)
  · rintro D vs k A F' ⟨rfl, s2, hc⟩
    rcases hc with ⟨e, _⟩ | ⟨e, _⟩ | ⟨_, P3, v3, P4, v4, rfl, p3, p4⟩
    · cases e
    · cases e
    walk_at "w"
    exact ⟨A, _, by walk_at "cn", h _ D _ P3 P4 b3 b4 v3 v4 (by walk_at "suf") (by k_upd) (p3.grow (by walk_at "suf")) (RefAt.grow r3 (by walk_at "suf")) (p4.grow (by walk_at "suf")) (RefAt.grow r4 (by walk_at "suf"))⟩
theorem c_places {sh : Addr} {tb : List (Int × Value)} {Q : Value → Sg → Prop} (hd : S.dp + 11 < recursionLimit) (hu : S.un + 130 < cLine) {M F : Led} (hl : Split σ.led M F) (hs : ShelfAt w F sh tb) (hp : PagesW w F tb)
    (h : ∀ F' D t0 t1, F <:+ F' → IDict w F' D [(3, .int 0 t0), (4, .int 1 t1)] → Q (.ref D) { σ with led := M ++ F' }) : W S σ (call (.ref 526) [.ref sh]) Q E := by
  refine W.callF [("shelf", .ref sh)] hl.perm (by k_dflt k_is) (by k_dflt k_is) (by omega) (fun _ _ => BindsTo.of_eq rfl) (by rfl) (by decide +kernel) (by rfl) (by rfl) (by rfl) ?_
  intro S' hdp hun
  walk_at "w"
  refine c_pages (by omega) (by omega) (by walk_at "spl") hs hp fun F1 l n P3 P4 b3 b4 v3 v4 s1 m1 p3 r3 p4 r4 => ?_
  walk_at "w"
  refine CStart.enum (xs := [.ref P3, .ref P4]) (kl := n) (fun i vs led => ∃ X, led = X ++ (M ++ F1) ∧ ((i = 0 ∧ vs = []) ∨ (i = 1 ∧ ∃ t3 u u0, vs = [.ref t3] ∧ (t3, tupObj [.int 3 u, .int 0 u0]) ∈ X) ∨ (i = 2 ∧ ∃ t3 u u0 t4 u1 u2, vs = [.ref t3, .ref t4] ∧ (t3, tupObj [.int 3 u, .int 0 u0]) ∈ X ∧ (t4, tupObj [.int 4 u1, .int 1 u2]) ∈ X))) (Nat.le_of_ble_eq_true rfl) rfl (fun i vs led ⟨X, e, _⟩ => by rw [e]; exact List.mem_append_right _ (List.mem_append_right _ m1)) ?_ ?_ ⟨[], rfl, .inl ⟨rfl, rfl⟩⟩
  · rintro i v vs led D C k a t hv ⟨X, rfl, hc⟩ hz
    rcases hc with ⟨rfl, rfl⟩ | ⟨rfl, t3, u, u0, rfl, q3⟩ | ⟨rfl, _⟩
    · obtain rfl : v = .ref P3 := (Option.some.inj hv).symm
      obtain ⟨dx3, n3, y31, y32, z31, z32⟩ := p3
      obtain ⟨_, _, _, _, _, _, r31, r32⟩ := r3
      walk_at "w"
      exact ⟨⟨_, rfl⟩, rfl, [_, _] ++ X, rfl, .inr (.inl ⟨rfl, _, _, _, rfl, .head _⟩)⟩
    · obtain rfl : v = .ref P4 := (Option.some.inj hv).symm
      obtain ⟨dx3, n3, y31, y32, z31, z32⟩ := p4
      obtain ⟨_, _, _, _, _, _, r31, r32⟩ := r4
      walk_at "w"
      exact ⟨⟨_, rfl⟩, rfl, [_, _] ++ X, rfl, .inr (.inr ⟨rfl, _, _, _, _, _, _, rfl, List.mem_append_right _ q3, .head _⟩)⟩
    · exact absurd hv (by simp)
  · rintro D vs k led ⟨X, rfl, hc⟩
    rcases hc with ⟨e, _⟩ | ⟨e, _⟩ | ⟨_, t3, u, u0, t4, u1, u2, rfl, q3, q4⟩
    · cases e
    · cases e
    walk_at "w"
    refine W.dictOf (knd := intKind PG w) (kvs := [(3, .int 0 u0), (4, .int 1 u2)]) (by k_upd) (.cons (.tail _ (List.mem_append_left _ q3)) is_int (.cons (.tail _ (List.mem_append_left _ q4)) is_int .nil)) (by simp) (Nat.le_of_ble_eq_true rfl) fun D2 o2 h2 => ?_
    walk_at "w"
    exact ⟨M, _, Cn.skip (Cn.skip (Cn.base.skipApp X)), h _ D2 u0 u2 ((s1.trans (List.suffix_append X F1)).trans ⟨[_, _], rfl⟩) ⟨o2, .head _, h2⟩⟩
theorem c_pagetold {d D : Addr} {kvs : List (Str × Value)} {p : Int} {Q : Value → Sg → Prop} (hd : S.dp + 1 < recursionLimit) {M F : Led} (hl : Split σ.led M F) (hk : SDict w F d kvs) (hp : Places w F D) (hg : PgSh w F kvs p)
    (h : ∀ F' t, F <:+ F' → Q (.int p t) { σ with led := M ++ F' }) : W S σ (call (.ref 566) [.ref d, .ref D]) Q E := by
  refine W.callF [("places", .ref D), ("head", .ref d)] hl.perm (by k_dflt k_is) (by k_dflt k_is) (by omega) (fun _ _ => BindsTo.of_eq rfl) (by rfl) (by decide +kernel) (by rfl) (by rfl) (by rfl) ?_
  intro S' hdp hun
  obtain ⟨o, k1, k2⟩ := hk
  obtain ⟨t0, t1, op, p1, p2⟩ := hp
  cases hg with
  | none e =>
    walk_at "w"
    exact ⟨_, _, by walk_at "cn", h _ _ (by walk_at "suf")⟩
  | @ref a n e r =>
    obtain ⟨_, _, _, _, _, _, r1, r2⟩ := r
    walk_at "w"
    by_cases h3 : n = 3
    · subst h3
      exact ⟨_, _, by walk_at "cn", h _ t0 (by walk_at "suf")⟩
    by_cases h4 : n = 4
    · subst h4
      exact ⟨_, _, by walk_at "cn", h _ t1 (by walk_at "suf")⟩
    have e1 : valueAt [((3 : Int), Value.int 0 t0), (4, .int 1 t1)] n = none := by
      unfold valueAt
      simp [List.find?, Ne.symm h3, Ne.symm h4]
    have e2 : pgOf n = -1 := by unfold pgOf; rw [if_neg h3, if_neg h4]
    rw [e1]
    rw [e2] at h
    exact ⟨_, _, by walk_at "cn", h _ _ (by walk_at "suf")⟩
def Kid.sort : Kid → Str
  | .content _ => "content"
  | .mcrPg _ _ => "mcr"
  | .mcr _ => "mcr"
  | .objr _ => "objr"
  | .elem .. => "element"
theorem IsItem.sort {F : Led} {tb : List (Int × Value)} {k : Kid} {v : Value} (h : IsItem w F tb k v) : Sort' w F tb v k.sort := by
  cases k with
  | content n => obtain ⟨h0, t, rfl⟩ := h; exact .content h0
  | mcrPg p n =>
    unfold IsItem at h
    obtain ⟨h0, d, kvs, aT, aP, m, t, rfl, h1, h2, h3, _⟩ := h
    exact .mcr (.self (SDict.pk h1)) h1 h2 h3
  | mcr n =>
    unfold IsItem at h
    obtain ⟨h0, d, kvs, aT, t, rfl, h1, h2, h3, _⟩ := h
    exact .mcr (.self (SDict.pk h1)) h1 h2 h3
  | objr p =>
    unfold IsItem at h
    obtain ⟨d, kvs, aT, aO, rfl, h1, h2, h3, _⟩ := h
    exact .objr (.self (SDict.pk h1)) h1 h2 h3
  | elem here page word told direct kids =>
    unfold IsItem at h
    obtain ⟨d, kvs, h1, h2, h3, _⟩ := h
    have hs : SDict w F d kvs := h1.choose_spec.choose_spec.2.2
    cases direct with
    | true => obtain rfl : v = .ref d := h2; exact .elem (.self (SDict.pk hs)) hs h3
    | false => obtain ⟨a, rfl, r⟩ := h2; exact .elem (h1.res r) hs h3
def kidTold (page : Int) : Kid → Option (Int × Int)
  | .content n => some (page, n)
  | .mcrPg p n => some (p, n)
  | .mcr n => some (page, n)
  | _ => none
def ToldV (F : Led) : Option (Int × Int) → Value → Prop
  | none, v => v = .none
  | some (a, b), v => ∃ D t t', v = .ref D ∧ (D, tupObj [.int a t, .int b t']) ∈ F
theorem ToldV.grow {F F' : Led} {r : Option (Int × Int)} {v : Value} (h : ToldV F r v) (s : F <:+ F') : ToldV F' r v := by
  cases r with
  | none => exact h
  | some p => obtain ⟨D, t, t', e, m⟩ := h; exact ⟨D, t, t', e, s.subset m⟩
theorem c_told {sh X d pl : Addr} {rv dv av v : Value} {kvs : List (Str × Value)} {page : Int} {k : Kid} {tb : List (Int × Value)} {Q : Value → Sg → Prop} (hd : S.dp + 5 < recursionLimit) {M F : Led} (hl : Split σ.led M F) (hs : ShelfAt w F sh tb)
    (hX : Inst4 w.params 510 "reference" rv "head" (.ref d) "depth" dv "above" av X F) (hk : SDict w F d kvs) (hg : PgSh w F kvs page) (hp : Places w F pl) (hi : IsItem w F tb k v)
    (h : ∀ F' r, F <:+ F' → ToldV F' (kidTold page k) r → Q r { σ with led := M ++ F' }) : W S σ (call (.ref 573) [.ref sh, .ref X, v, .ref pl]) Q E := by
  refine W.callF [("places", .ref pl), ("item", v), ("element", .ref X), ("shelf", .ref sh)] hl.perm (by k_dflt k_is) (by k_dflt k_is) (by omega) (fun _ _ => BindsTo.of_eq rfl) (by rfl) (by decide +kernel) (by rfl) (by rfl) (by rfl) ?_
  intro S' hdp hun
  have hs' := hs
  have hsort := hi.sort
  obtain ⟨ta, tr, kvs', ra', ⟨dx, n, t1, t2, s1, s2⟩, ⟨to, s3, s4⟩, s5, s6, s7⟩ := hs
  obtain ⟨dX, nX, x1, x2, x3, x4, z1, z2⟩ := hX
  walk_at "w"
  refine c_sort (by omega) (by walk_at "spl") hs' hsort fun F1 u g1 => ?_
  cases k with
  | content n =>
    obtain ⟨h0, t, rfl⟩ := hi
    dsimp only [Kid.sort]
    walk_at "w"
    refine c_pagetold (by omega) (by walk_at "spl") (SDict.grow hk g1) (Places.grow hp g1) (hg.grow g1) fun F2 u2 g2 => ?_
    walk_at "w"
    refine c_fetch (by omega) (by walk_at "spl") (hs'.grow (by walk_at "suf")) (.self .int) fun F3 g3 => ?_
    walk_at "w"
    exact ⟨_, _, by walk_at "cn", h _ _ (by walk_at "suf") ⟨_, _, _, rfl, by k_upd⟩⟩
  | mcrPg p n =>
    unfold IsItem at hi
    obtain ⟨h0, d', kv', aT, aP, m, t, rfl, h1, h2, h3, h4, h5, rfl, h7⟩ := hi
    dsimp only [Kid.sort]
    walk_at "w"
    refine c_fetch (by omega) (by walk_at "spl") (hs'.grow (by walk_at "suf")) (.self (SDict.pk (SDict.grow h1 g1))) fun F2 g2 => ?_
    walk_at "w"
    refine c_get (by omega) (by walk_at "spl") (hs'.grow (by walk_at "suf")) (SDict.grow h1 (by walk_at "suf")) (by rw [h7]; exact .self .int) fun F3 g3 => ?_
    walk_at "w"
    refine c_kind (by omega) .int fun u2 => ?_
    walk_at "w"
    refine ite_f (by simpa using h0) ?_
    obtain ⟨o', k1', k2'⟩ := h1
    walk_at "w"
    refine c_pagetold (by omega) (by walk_at "spl") ⟨o', by k_upd, k2'⟩ (Places.grow hp (by walk_at "suf")) (.ref h4 (RefAt.grow h5 (by walk_at "suf"))) fun F4 u3 g4 => ?_
    walk_at "w"
    exact ⟨_, _, by walk_at "cn", h _ _ (by walk_at "suf") ⟨_, _, _, rfl, by k_upd⟩⟩
  | mcr n =>
    unfold IsItem at hi
    obtain ⟨h0, d', kv', aT, t, rfl, h1, h2, h3, h4, h7⟩ := hi
    dsimp only [Kid.sort]
    walk_at "w"
    refine c_fetch (by omega) (by walk_at "spl") (hs'.grow (by walk_at "suf")) (.self (SDict.pk (SDict.grow h1 g1))) fun F2 g2 => ?_
    walk_at "w"
    refine c_get (by omega) (by walk_at "spl") (hs'.grow (by walk_at "suf")) (SDict.grow h1 (by walk_at "suf")) (by rw [h7]; exact .self .int) fun F3 g3 => ?_
    walk_at "w"
    refine c_kind (by omega) .int fun u2 => ?_
    walk_at "w"
    refine ite_f (by simpa using h0) ?_
    obtain ⟨o', k1', k2'⟩ := h1
    walk_at "w"
    refine c_pagetold (by omega) (by walk_at "spl") (SDict.grow hk (by walk_at "suf")) (Places.grow hp (by walk_at "suf")) (hg.grow (by walk_at "suf")) fun F4 u3 g4 => ?_
    walk_at "w"
    exact ⟨_, _, by walk_at "cn", h _ _ (by walk_at "suf") ⟨_, _, _, rfl, by k_upd⟩⟩
  | objr p =>
    dsimp only [Kid.sort]
    walk_at "w"
    exact ⟨_, _, by walk_at "cn", h _ _ (by walk_at "suf") rfl⟩
  | elem here page' word told direct kids =>
    dsimp only [Kid.sort]
    walk_at "w"
    exact ⟨_, _, by walk_at "cn", h _ _ (by walk_at "suf") rfl⟩
/-- the pairs of a list of kids -/
def pairsOf (page : Int) : List Kid → List (Int × Int)
  | [] => []
  | k :: ks => match kidTold page k with
    | some p => p :: pairsOf page ks
    | none => pairsOf page ks
/-- values that are these pairs -/
inductive PairVs (F : Led) : List Value → List (Int × Int) → Prop
  | nil : PairVs F [] []
  | cons {D t t' a b vs ps} : (D, tupObj [.int a t, .int b t']) ∈ F → PairVs F vs ps → PairVs F (.ref D :: vs) ((a, b) :: ps)
theorem PairVs.grow {F F' : Led} {vs : List Value} {ps : List (Int × Int)} (h : PairVs F vs ps) (s : F <:+ F') : PairVs F' vs ps := by
  induction h with
  | nil => exact .nil
  | cons m _ ih => exact .cons (s.subset m) ih
inductive ToldVs (page : Int) (F : Led) : List Kid → List Value → Prop
  | nil : ToldVs page F [] []
  | cons {k v ks vs} : ToldV F (kidTold page k) v → ToldVs page F ks vs → ToldVs page F (k :: ks) (v :: vs)
theorem ToldVs.grow {page : Int} {F F' : Led} {ks : List Kid} {vs : List Value} (h : ToldVs page F ks vs) (s : F <:+ F') : ToldVs page F' ks vs := by
  induction h with
  | nil => exact .nil
  | cons m _ ih => exact .cons (m.grow s) ih
theorem ToldVs.snoc {page : Int} {F : Led} {ks : List Kid} {vs : List Value} {k : Kid} {v : Value} (h : ToldVs page F ks vs) (m : ToldV F (kidTold page k) v) : ToldVs page F (ks ++ [k]) (vs ++ [v]) := by
  induction h with
  | nil => exact .cons m .nil
  | cons a _ ih => exact .cons a ih
theorem AreItems.length {F : Led} {tb : List (Int × Value)} : ∀ {ks : List Kid} {vs : List Value}, AreItems w F tb ks vs → vs.length = ks.length
  | [], _, h => by unfold AreItems at h; subst h; rfl
  | k :: ks, _, h => by
    unfold AreItems at h
    obtain ⟨v, r, rfl, _, h2⟩ := h
    simp [AreItems.length h2]
theorem AreItems.get {F : Led} {tb : List (Int × Value)} : ∀ {ks : List Kid} {vs : List Value}, AreItems w F tb ks vs → ∀ {i : Nat} {v : Value}, vs[i]? = some v → ∃ k, ks[i]? = some k ∧ IsItem w F tb k v
  | [], _, h, i, v, e => by unfold AreItems at h; subst h; simp at e
  | k :: ks, _, h, i, v, e => by
    unfold AreItems at h
    obtain ⟨v', r, rfl, h1, h2⟩ := h
    cases i with
    | zero => exact ⟨k, rfl, by simp at e; exact e ▸ h1⟩
    | succ i => exact AreItems.get h2 (by simpa using e)
theorem ToldVs.length {page : Int} {F : Led} {ks : List Kid} {vs : List Value} (h : ToldVs page F ks vs) : vs.length = ks.length := by
  induction h with
  | nil => rfl
  | cons _ _ ih => simp [ih]
theorem ToldVs.get {page : Int} {F : Led} {ks : List Kid} {vs : List Value} (h : ToldVs page F ks vs) : ∀ {i : Nat} {v : Value}, vs[i]? = some v → ∃ k, ks[i]? = some k ∧ ToldV F (kidTold page k) v := by
  induction h with
  | nil => intro i v e; simp at e
  | @cons k v' ks vs m _ ih =>
    intro i v e
    cases i with
    | zero => exact ⟨k, rfl, by simp at e; exact e ▸ m⟩
    | succ i => exact ih (by simpa using e)
theorem PairVs.snoc {F : Led} {vs : List Value} {ps : List (Int × Int)} {D : Addr} {t t' : Tok} {a b : Int} (h : PairVs F vs ps) (m : (D, tupObj [.int a t, .int b t']) ∈ F) : PairVs F (vs ++ [.ref D]) (ps ++ [(a, b)]) := by
  induction h with
  | nil => exact .cons m .nil
  | cons x _ ih => exact .cons x ih
theorem pairsOf_snoc (page : Int) (k : Kid) : ∀ ks : List Kid, pairsOf page (ks ++ [k]) = pairsOf page ks ++ (match kidTold page k with | some p => [p] | none => [])
  | [] => by
    show pairsOf page [k] = _
    unfold pairsOf pairsOf
    cases kidTold page k <;> rfl
  | k' :: ks => by
    have ih := pairsOf_snoc page k ks
    rw [List.cons_append]
    unfold pairsOf
    cases kidTold page k' with
    | none => exact ih
    | some p => simp only [ih, List.cons_append]
theorem c_contents {sh X d pl : Addr} {rv dv av : Value} {kvs : List (Str × Value)} {page : Int} {ks : List Kid} {xs : List Value} {tb : List (Int × Value)} {Q : Value → Sg → Prop} (hd : S.dp + 6 < recursionLimit) {M F : Led} (hl : Split σ.led M F) (hs : ShelfAt w F sh tb)
    (hX : Inst4 w.params 510 "reference" rv "head" (.ref d) "depth" dv "above" av X F) (hk : SDict w F d kvs) (hg : PgSh w F kvs page) (hp : Places w F pl) (hi : AreItems w F tb ks xs) (hK : KSh w F tb kvs xs) (hz : xs.length ≤ 1000)
    (h : ∀ F' l n vs, F <:+ F' → (l, lstObj vs n) ∈ F' → PairVs F' vs (pairsOf page ks) → Q (.ref l) { σ with led := M ++ F' }) : W S σ (call (.ref 578) [.ref sh, .ref X, .ref pl]) Q E := by
  refine W.callF [("places", .ref pl), ("element", .ref X), ("shelf", .ref sh)] hl.perm (by k_dflt k_is) (by k_dflt k_is) (by omega) (fun _ _ => BindsTo.of_eq rfl) (by rfl) (by decide +kernel) (by rfl) (by rfl) (by rfl) ?_
  intro S' hdp hun
  have hX' := hX
  obtain ⟨dX, nX, x1, x2, x3, x4, z1, z2⟩ := hX
  walk_at "w"
  refine c_items (by omega) (by walk_at "spl") hs hk hK fun F1 l n g1 m1 => ?_
  walk_at "w"
  have hz' : xs.length ≤ sizeLine := Nat.le_trans hz (by decide)
  refine CStart.itrF (Itr.list (l := l) (vs := xs) (k := n)) (fun i vs A F' => A = M ∧ F1 <:+ F' ∧ ToldVs page F' (ks.take i) vs) hz' rfl (fun _ _ hp q => hp.mem_iff.mpr q) (fun i vs A F' ⟨e, s, _⟩ => by subst e; exact List.mem_append_right _ (s.subset m1)) ?_ ?_ M _ (by walk_at "cn") ⟨rfl, by walk_at "suf", .nil⟩
  · rintro i v vs A F' D C k hi' hv ⟨rfl, s2, hT⟩ hz2
    obtain ⟨kd, hkd, hit⟩ := hi.get hv
    walk_at "w"
    refine c_told (page := page) (k := kd) (by omega) (by walk_at "spl") (hs.grow (by walk_at "suf")) (hX'.grow (by walk_at "suf")) (SDict.grow hk (by walk_at "suf")) (hg.grow (by walk_at "suf")) (Places.grow hp (by walk_at "suf")) (IsItem.more (by walk_at "suf") (fun _ _ e => e) hit) fun F2 r g2 hr => ?_
    refine ⟨⟨_, rfl⟩, rfl, _, _, by walk_at "cn", rfl, by walk_at "suf", ?_⟩
    rw [List.take_add_one, hkd]
    exact (hT.grow (by walk_at "suf")).snoc hr
  · rintro D vs k A F' ⟨rfl, s2, hT⟩
    rw [hi.length, List.take_length] at hT
    intro C mb
    walk_at "w"
    refine ⟨_, rfl, ?_⟩
    walk_at "w"
    have hvl : vs.length = ks.length := hT.length
    have hz3 : vs.length ≤ sizeLine := by rw [hvl, ← hi.length]; exact hz'
    refine CStart.itrF (Itr.list (l := D) (vs := vs) (k := k)) (fun i us A' F2 => A' = (D, lstObj vs k) :: A ∧ F' <:+ F2 ∧ PairVs F2 us (pairsOf page (ks.take i))) hz3 rfl (fun _ _ hp q => hp.mem_iff.mpr q) (fun i vs A F' ⟨e, s, _⟩ => by subst e; exact .head _) ?_ ?_ ((D, lstObj vs k) :: A) _ (by walk_at "cn") ⟨rfl, by walk_at "suf", .nil⟩
    · rintro i v us A' F2 D2 C2 k2 hi' hv ⟨rfl, s3, hP⟩ hz2
      obtain ⟨kd, hkd, hv2⟩ := hT.get hv
      have e0 : pairsOf page (ks.take (i+1)) = pairsOf page (ks.take i) ++ (match kidTold page kd with | some p => [p] | none => []) := by
        rw [List.take_add_one, hkd]; exact pairsOf_snoc page kd _
      cases ec : kidTold page kd with
      | none =>
        rw [ec] at hv2 e0
        obtain rfl : v = .none := hv2
        walk_at "w"
        exact ⟨⟨_, rfl⟩, rfl, _, _, by walk_at "cn", rfl, by walk_at "suf", by rw [e0, List.append_nil]; exact hP⟩
      | some pr =>
        obtain ⟨a, b⟩ := pr
        rw [ec] at hv2 e0
        obtain ⟨Dt, t, t', rfl, mt⟩ := hv2
        walk_at "w"
        exact ⟨⟨_, rfl⟩, rfl, _, _, by walk_at "cn", rfl, by walk_at "suf", by rw [e0]; exact hP.snoc (s3.subset mt)⟩
    · rintro D2 us k2 A' F2 ⟨rfl, s3, hP⟩
      rw [hvl, List.take_length] at hP
      walk_at "w"
      exact ⟨A, _, by walk_at "cn", h _ D2 _ us (by walk_at "suf") (by k_upd) (hP.grow (by walk_at "suf"))⟩
theorem c_sign {t : Tok} {Q : Value → Sg → Prop} (hd : S.dp + 1 < recursionLimit) {M F : Led} (hl : Split σ.led M F)
    (h : ∀ F' t', F <:+ F' → Q (.int 84 t') { σ with led := M ++ F' }) : W S σ (call (.ref 386) [.int 84 t]) Q E := by
  refine W.callF [("octet", .int 84 t)] hl.perm (by k_dflt k_is) (by k_dflt k_is) (by omega) (fun _ _ => BindsTo.of_eq rfl) (by rfl) (by decide +kernel) (by rfl) (by rfl) (by rfl) ?_
  intro S' hdp hun
  walk_at "w"
  exact ⟨_, _, by walk_at "cn", h _ _ (by walk_at "suf")⟩
theorem c_text {t : Tok} {Q : Value → Sg → Prop} (hd : S.dp + 2 < recursionLimit) {M F : Led} (hl : Split σ.led M F)
    (h : ∀ F' t', F <:+ F' → Q (.str "T" t') { σ with led := M ++ F' }) : W S σ (call (.ref 398) [.bytes #[84] t]) Q E := by
  refine W.callF [("octets", .bytes #[84] t)] hl.perm (by k_dflt k_is) (by k_dflt k_is) (by omega) (fun _ _ => BindsTo.of_eq rfl) (by rfl) (by decide +kernel) (by rfl) (by rfl) (by rfl) ?_
  intro S' hdp hun
  walk_at "w"
  refine W.iterB fun I => ?_
  refine CStart.itrF (Itr.bytes (b := #[84]) (t := t)) (fun i vs A F' => A = M ∧ F <:+ F' ∧ ((i = 0 ∧ vs = []) ∨ (i = 1 ∧ ∃ t', vs = [.str "T" t']))) (Nat.le_of_ble_eq_true rfl) rfl (fun _ _ _ _ => trivial) (fun _ _ _ _ _ => trivial) ?_ ?_ M _ (by walk_at "cn") ⟨rfl, by walk_at "suf", .inl ⟨rfl, rfl⟩⟩
  · rintro i v vs A F' D C k hi ⟨c, u, hc, rfl⟩ ⟨rfl, s2, hcs⟩ hz
    rcases hcs with ⟨rfl, rfl⟩ | ⟨rfl, _⟩
    · obtain rfl : c = 84 := (Option.some.inj hc).symm
      walk_at "w"
      refine c_sign (by omega) (by walk_at "spl") fun F2 u2 g2 => ?_
      walk_at "w"
      refine W.chr rfl fun t' => ?_
      exact ⟨⟨_, rfl⟩, rfl, _, _, by walk_at "cn", rfl, by walk_at "suf", .inr ⟨rfl, _, rfl⟩⟩
    · exact absurd hi (by simp)
  · rintro D vs k A F' ⟨rfl, s2, hcs⟩
    rcases hcs with ⟨e, _⟩ | ⟨_, t', rfl⟩
    · exact absurd e (by decide)
    walk_at "w"
    refine W.joinL (ys := ["T"]) (by k_upd) (.cons _ _ .nil) (by decide) fun t2 => ?_
    walk_at "w"
    exact ⟨_, _, by walk_at "cn", h _ _ (by walk_at "suf")⟩
def OwnV : Bool → Value → Prop
  | true, v => ∃ t, v = .str "T" t
  | false, v => v = .none
theorem c_own {sh X d : Addr} {rv dv av : Value} {kvs : List (Str × Value)} {told : Bool} {tb : List (Int × Value)} {Q : Value → Sg → Prop} (hd : S.dp + 5 < recursionLimit) {M F : Led} (hl : Split σ.led M F) (hs : ShelfAt w F sh tb)
    (hX : Inst4 w.params 510 "reference" rv "head" (.ref d) "depth" dv "above" av X F) (hk : SDict w F d kvs) (ht : ToldAt w F kvs told)
    (h : ∀ F' r, F <:+ F' → OwnV told r → Q r { σ with led := M ++ F' }) : W S σ (call (.ref 595) [.ref sh, .ref X]) Q E := by
  refine W.callF [("element", .ref X), ("shelf", .ref sh)] hl.perm (by k_dflt k_is) (by k_dflt k_is) (by omega) (fun _ _ => BindsTo.of_eq rfl) (by rfl) (by decide +kernel) (by rfl) (by rfl) (by rfl) ?_
  intro S' hdp hun
  have hs' := hs
  obtain ⟨ta, tr, kvs', ra', ⟨dx, n, t1, t2, s1, s2⟩, ⟨to, s3, s4⟩, s5, s6, s7⟩ := hs
  obtain ⟨dX, nX, x1, x2, x3, x4, z1, z2⟩ := hX
  walk_at "w"
  cases told with
  | true =>
    obtain ⟨a, t, e, ia⟩ := ht
    refine c_get (by omega) (by walk_at "spl") hs' hk (by rw [e]; exact .self (.string ia)) fun F1 g1 => ?_
    walk_at "w"
    refine isiP_string (.string (ia.grow (by walk_at "suf"))) ?_
    obtain ⟨da, na, ta1, ta2, ia1, ia2⟩ := ia.grow g1
    walk_at "w"
    refine c_text (by omega) (by walk_at "spl") fun F2 t2 g2 => ?_
    walk_at "w"
    exact ⟨_, _, by walk_at "cn", h _ _ (by walk_at "suf") ⟨_, rfl⟩⟩
  | false =>
    have e : valueAt kvs "ActualText" = none := ht
    refine c_get (by omega) (by walk_at "spl") hs' hk (by rw [e]; exact .self .none) fun F1 g1 => ?_
    walk_at "w"
    exact ⟨_, _, by walk_at "cn", h _ _ (by walk_at "suf") rfl⟩
def SRootW (w : World) (F : Led) (tb : List (Int × Value)) (r10 : Addr) (k10 : List (Str × Value)) : Prop :=
  ∃ cat kcat a10, Entry w F tb 1 cat kcat ∧ valueAt kcat "StructTreeRoot" = some (.ref a10) ∧ RefAt w F a10 10 ∧ Entry w F tb 10 r10 k10
theorem SRootW.grow {F F' : Led} {tb : List (Int × Value)} {r10 : Addr} {k10 : List (Str × Value)} (h : SRootW w F tb r10 k10) (s : F <:+ F') : SRootW w F' tb r10 k10 :=
  let ⟨cat, kcat, a10, h1, h2, h3, h4⟩ := h; ⟨cat, kcat, a10, h1.grow s, h2, RefAt.grow h3 s, h4.grow s⟩
def RolesAt (w : World) (F : Led) (k10 : List (Str × Value)) : Prop :=
  ∃ rd n1 n2 n3 n4 t, valueAt k10 "RoleMap" = some (.ref rd) ∧ SDict w F rd [("A", .ref n1), ("B", .ref n2), ("X", .ref n3), ("Y", .ref n4), ("Z", .int 5 t)] ∧ NameAt w F n1 "P" ∧ NameAt w F n2 "A" ∧ NameAt w F n3 "Y" ∧ NameAt w F n4 "X"
theorem RolesAt.grow {F F' : Led} {k10 : List (Str × Value)} (h : RolesAt w F k10) (s : F <:+ F') : RolesAt w F' k10 :=
  let ⟨rd, n1, n2, n3, n4, t, h0, h1, h2, h3, h4, h5⟩ := h; ⟨rd, n1, n2, n3, n4, t, h0, SDict.grow h1 s, NameAt.grow h2 s, NameAt.grow h3 s, NameAt.grow h4 s, NameAt.grow h5 s⟩
def IsWord (x : Str) : Prop := x = "P" ∨ x = "A" ∨ x = "B" ∨ x = "X" ∨ x = "Y" ∨ x = "Z" ∨ x = "H1"
def roleOf (x : Str) : Str := if x = "A" then "P" else if x = "B" then "P" else x
theorem c_role {sh d r10 : Addr} {kvs k10 : List (Str × Value)} {x : Str} {tb : List (Int × Value)} {Q : Value → Sg → Prop} (hd : S.dp + 6 < recursionLimit) {M F : Led} (hl : Split σ.led M F) (hs : ShelfAt w F sh tb) (hr : SRootW w F tb r10 k10) (hro : RolesAt w F k10)
    (hk : SDict w F d kvs) (hS : ∃ a, valueAt kvs "S" = some (.ref a) ∧ NameAt w F a x) (hx : IsWord x)
    (h : ∀ F' t, F <:+ F' → Q (.str (roleOf x) t) { σ with led := M ++ F' }) : W S σ (call (.ref 559) [.ref sh, .ref d]) Q E := by
  refine W.callF [("head", .ref d), ("shelf", .ref sh)] hl.perm (by k_dflt k_is) (by k_dflt k_is) (by omega) (fun _ _ => BindsTo.of_eq rfl) (by rfl) (by decide +kernel) (by rfl) (by rfl) (by rfl) ?_
  intro S' hdp hun
  have hs' := hs
  obtain ⟨ta, tr, kvs', ra', ⟨dx, n, t1, t2, s1, s2⟩, ⟨to, s3, s4⟩, s5, s6, s7⟩ := hs
  obtain ⟨aS, eS, nS⟩ := hS
  obtain ⟨cat, kcat, a10, hr1, hr2, hr3, hr4⟩ := hr
  obtain ⟨rd, n1, n2, n3, n4, t5, ero, hrd, m1, m2, m3, m4⟩ := hro
  walk_at "w"
  refine c_get (by omega) (by walk_at "spl") hs' hk (by rw [eS]; exact .self nS.pk) fun F1 g1 => ?_
  obtain ⟨tx, dxx, nx, tnx, nx1, nx2⟩ := NameAt.grow nS g1
  walk_at "w"
  refine c_sroot (by omega) (by walk_at "spl") (hs'.grow g1) (hr1.grow g1) hr2 (RefAt.grow hr3 g1) (hr4.grow g1) fun F2 g2 => ?_
  walk_at "w"
  refine c_get (by omega) (by walk_at "spl") (hs'.grow (by walk_at "suf")) (hr4.grow (by walk_at "suf")).choose_spec.choose_spec.2.2 (by rw [ero]; exact .self (SDict.pk (SDict.grow hrd (by walk_at "suf")))) fun F3 g3 => ?_
  obtain ⟨ro, ro1, ro2⟩ := SDict.grow hrd (show F <:+ F3 by walk_at "suf")
  have hrd3 : SDict w F3 rd _ := ⟨ro, ro1, ro2⟩
  have hs3 : ShelfAt w F3 sh tb := hs'.grow (by walk_at "suf")
  have m1' : NameAt w F3 n1 "P" := NameAt.grow m1 (by walk_at "suf")
  have m2' : NameAt w F3 n2 "A" := NameAt.grow m2 (by walk_at "suf")
  have m3' : NameAt w F3 n3 "Y" := NameAt.grow m3 (by walk_at "suf")
  have m4' : NameAt w F3 n4 "X" := NameAt.grow m4 (by walk_at "suf")
  have G : F <:+ F3 := by walk_at "suf"
  walk_at "w"
  refine W.WhileU (WLoop.turn ?_)
  rcases hx with rfl | rfl | rfl | rfl | rfl | rfl | rfl
  · walk_at "w"
    refine c_get (u := .none) (by omega) (by walk_at "spl") (hs3.grow (by walk_at "suf")) (SDict.grow hrd3 (by walk_at "suf")) (.self .none) fun G1 q1 => ?_
    walk_at "w"
    exact ⟨_, _, by walk_at "cn", h _ _ (by walk_at "suf")⟩
  · walk_at "w"
    refine c_get (u := .ref n1) (by omega) (by walk_at "spl") (hs3.grow (by walk_at "suf")) (SDict.grow hrd3 (by walk_at "suf")) (.self (NameAt.pk (NameAt.grow m1' (by walk_at "suf")))) fun G2 q2 => ?_
    obtain ⟨_, _, _, _, y2, z2⟩ := NameAt.grow m1' (show F3 <:+ G2 by walk_at "suf")
    walk_at "w"
    refine c_get (u := .ref n1) (by omega) (by walk_at "spl") (hs3.grow (by walk_at "suf")) (SDict.grow hrd3 (by walk_at "suf")) (.self (NameAt.pk (NameAt.grow m1' (by walk_at "suf")))) fun G3 q3 => ?_
    obtain ⟨_, _, _, _, y3, z3⟩ := NameAt.grow m1' (show F3 <:+ G3 by walk_at "suf")
    walk_at "w"
    refine WLoop.turn ?_
    walk_at "w"
    refine c_get (u := .none) (by omega) (by walk_at "spl") (hs3.grow (by walk_at "suf")) (SDict.grow hrd3 (by walk_at "suf")) (.self .none) fun G4 q4 => ?_
    walk_at "w"
    exact ⟨_, _, by walk_at "cn", h _ _ (by walk_at "suf")⟩
  · walk_at "w"
    refine c_get (u := .ref n2) (by omega) (by walk_at "spl") (hs3.grow (by walk_at "suf")) (SDict.grow hrd3 (by walk_at "suf")) (.self (NameAt.pk (NameAt.grow m2' (by walk_at "suf")))) fun G5 q5 => ?_
    obtain ⟨_, _, _, _, y5, z5⟩ := NameAt.grow m2' (show F3 <:+ G5 by walk_at "suf")
    walk_at "w"
    refine c_get (u := .ref n2) (by omega) (by walk_at "spl") (hs3.grow (by walk_at "suf")) (SDict.grow hrd3 (by walk_at "suf")) (.self (NameAt.pk (NameAt.grow m2' (by walk_at "suf")))) fun G6 q6 => ?_
    obtain ⟨_, _, _, _, y6, z6⟩ := NameAt.grow m2' (show F3 <:+ G6 by walk_at "suf")
    walk_at "w"
    refine WLoop.turn ?_
    walk_at "w"
    refine c_get (u := .ref n1) (by omega) (by walk_at "spl") (hs3.grow (by walk_at "suf")) (SDict.grow hrd3 (by walk_at "suf")) (.self (NameAt.pk (NameAt.grow m1' (by walk_at "suf")))) fun G7 q7 => ?_
    obtain ⟨_, _, _, _, y7, z7⟩ := NameAt.grow m1' (show F3 <:+ G7 by walk_at "suf")
    walk_at "w"
    refine c_get (u := .ref n1) (by omega) (by walk_at "spl") (hs3.grow (by walk_at "suf")) (SDict.grow hrd3 (by walk_at "suf")) (.self (NameAt.pk (NameAt.grow m1' (by walk_at "suf")))) fun G8 q8 => ?_
    obtain ⟨_, _, _, _, y8, z8⟩ := NameAt.grow m1' (show F3 <:+ G8 by walk_at "suf")
    walk_at "w"
    refine WLoop.turn ?_
    walk_at "w"
    refine c_get (u := .none) (by omega) (by walk_at "spl") (hs3.grow (by walk_at "suf")) (SDict.grow hrd3 (by walk_at "suf")) (.self .none) fun G9 q9 => ?_
    walk_at "w"
    exact ⟨_, _, by walk_at "cn", h _ _ (by walk_at "suf")⟩
  · walk_at "w"
    refine c_get (u := .ref n3) (by omega) (by walk_at "spl") (hs3.grow (by walk_at "suf")) (SDict.grow hrd3 (by walk_at "suf")) (.self (NameAt.pk (NameAt.grow m3' (by walk_at "suf")))) fun G10 q10 => ?_
    obtain ⟨_, _, _, _, y10, z10⟩ := NameAt.grow m3' (show F3 <:+ G10 by walk_at "suf")
    walk_at "w"
    refine c_get (u := .ref n3) (by omega) (by walk_at "spl") (hs3.grow (by walk_at "suf")) (SDict.grow hrd3 (by walk_at "suf")) (.self (NameAt.pk (NameAt.grow m3' (by walk_at "suf")))) fun G11 q11 => ?_
    obtain ⟨_, _, _, _, y11, z11⟩ := NameAt.grow m3' (show F3 <:+ G11 by walk_at "suf")
    walk_at "w"
    refine WLoop.turn ?_
    walk_at "w"
    refine c_get (u := .ref n4) (by omega) (by walk_at "spl") (hs3.grow (by walk_at "suf")) (SDict.grow hrd3 (by walk_at "suf")) (.self (NameAt.pk (NameAt.grow m4' (by walk_at "suf")))) fun G12 q12 => ?_
    obtain ⟨_, _, _, _, y12, z12⟩ := NameAt.grow m4' (show F3 <:+ G12 by walk_at "suf")
    walk_at "w"
    refine c_get (u := .ref n4) (by omega) (by walk_at "spl") (hs3.grow (by walk_at "suf")) (SDict.grow hrd3 (by walk_at "suf")) (.self (NameAt.pk (NameAt.grow m4' (by walk_at "suf")))) fun G13 q13 => ?_
    obtain ⟨_, _, _, _, y13, z13⟩ := NameAt.grow m4' (show F3 <:+ G13 by walk_at "suf")
    walk_at "w"
    refine WLoop.turn ?_
    walk_at "w"
    exact ⟨_, _, by walk_at "cn", h _ _ (by walk_at "suf")⟩
  · walk_at "w"
    refine c_get (u := .ref n4) (by omega) (by walk_at "spl") (hs3.grow (by walk_at "suf")) (SDict.grow hrd3 (by walk_at "suf")) (.self (NameAt.pk (NameAt.grow m4' (by walk_at "suf")))) fun G14 q14 => ?_
    obtain ⟨_, _, _, _, y14, z14⟩ := NameAt.grow m4' (show F3 <:+ G14 by walk_at "suf")
    walk_at "w"
    refine c_get (u := .ref n4) (by omega) (by walk_at "spl") (hs3.grow (by walk_at "suf")) (SDict.grow hrd3 (by walk_at "suf")) (.self (NameAt.pk (NameAt.grow m4' (by walk_at "suf")))) fun G15 q15 => ?_
    obtain ⟨_, _, _, _, y15, z15⟩ := NameAt.grow m4' (show F3 <:+ G15 by walk_at "suf")
    walk_at "w"
    refine WLoop.turn ?_
    walk_at "w"
    refine c_get (u := .ref n3) (by omega) (by walk_at "spl") (hs3.grow (by walk_at "suf")) (SDict.grow hrd3 (by walk_at "suf")) (.self (NameAt.pk (NameAt.grow m3' (by walk_at "suf")))) fun G16 q16 => ?_
    obtain ⟨_, _, _, _, y16, z16⟩ := NameAt.grow m3' (show F3 <:+ G16 by walk_at "suf")
    walk_at "w"
    refine c_get (u := .ref n3) (by omega) (by walk_at "spl") (hs3.grow (by walk_at "suf")) (SDict.grow hrd3 (by walk_at "suf")) (.self (NameAt.pk (NameAt.grow m3' (by walk_at "suf")))) fun G17 q17 => ?_
    obtain ⟨_, _, _, _, y17, z17⟩ := NameAt.grow m3' (show F3 <:+ G17 by walk_at "suf")
    walk_at "w"
    refine WLoop.turn ?_
    walk_at "w"
    exact ⟨_, _, by walk_at "cn", h _ _ (by walk_at "suf")⟩
  · walk_at "w"
    refine c_get (u := .int 5 t5) (by omega) (by walk_at "spl") (hs3.grow (by walk_at "suf")) (SDict.grow hrd3 (by walk_at "suf")) (.self .int) fun G18 q18 => ?_
    walk_at "w"
    exact ⟨_, _, by walk_at "cn", h _ _ (by walk_at "suf")⟩
  · walk_at "w"
    refine c_get (u := .none) (by omega) (by walk_at "spl") (hs3.grow (by walk_at "suf")) (SDict.grow hrd3 (by walk_at "suf")) (.self .none) fun G19 q19 => ?_
    walk_at "w"
    exact ⟨_, _, by walk_at "cn", h _ _ (by walk_at "suf")⟩
def objOf : Kid → Option Int
  | .objr p => some p
  | _ => none
def objsOf (ks : List Kid) : List Int := ks.filterMap objOf
theorem objsOf_snoc (ks : List Kid) (k : Kid) : objsOf (ks ++ [k]) = objsOf ks ++ (match objOf k with | some p => [p] | none => []) := by
  unfold objsOf
  rw [List.filterMap_append]
  congr 1
  cases e : objOf k with
  | none => simp [e]
  | some p => simp [e]
def HeadV (w : World) (F : Led) (v : Value) (p : Int) : Prop := ∃ d kvs aO, v = .ref d ∧ SDict w F d kvs ∧ valueAt kvs "Obj" = some (.ref aO) ∧ RefAt w F aO p
theorem HeadV.grow {F F' : Led} {v : Value} {p : Int} (h : HeadV w F v p) (s : F <:+ F') : HeadV w F' v p := let ⟨d, kvs, aO, e, h1, h2, h3⟩ := h; ⟨d, kvs, aO, e, SDict.grow h1 s, h2, RefAt.grow h3 s⟩
def RefV (w : World) (F : Led) (v : Value) (p : Int) : Prop := ∃ a, v = .ref a ∧ RefAt w F a p
theorem RefV.grow {F F' : Led} {v : Value} {p : Int} (h : RefV w F v p) (s : F <:+ F') : RefV w F' v p := let ⟨a, e, h1⟩ := h; ⟨a, e, RefAt.grow h1 s⟩
theorem IsItem.notobj {F : Led} {tb : List (Int × Value)} {k : Kid} (hk : objOf k = none) : (k.sort == "objr") = false := by
  cases k with
  | objr p => cases hk
  | _ => rfl
theorem c_objects {sh X d : Addr} {rv dv av : Value} {kvs : List (Str × Value)} {ks : List Kid} {xs : List Value} {tb : List (Int × Value)} {Q : Value → Sg → Prop} (hd : S.dp + 6 < recursionLimit) {M F : Led} (hl : Split σ.led M F) (hs : ShelfAt w F sh tb)
    (hX : Inst4 w.params 510 "reference" rv "head" (.ref d) "depth" dv "above" av X F) (hk : SDict w F d kvs) (hi : AreItems w F tb ks xs) (hK : KSh w F tb kvs xs) (hz : xs.length ≤ 1000)
    (h : ∀ F' l n vs, F <:+ F' → (l, lstObj vs n) ∈ F' → All2 (RefV w F') vs (objsOf ks) → Q (.ref l) { σ with led := M ++ F' }) : W S σ (call (.ref 583) [.ref sh, .ref X]) Q E := by
  refine W.callF [("element", .ref X), ("shelf", .ref sh)] hl.perm (by k_dflt k_is) (by k_dflt k_is) (by omega) (fun _ _ => BindsTo.of_eq rfl) (by rfl) (by decide +kernel) (by rfl) (by rfl) (by rfl) ?_
  intro S' hdp hun
  have hX' := hX
  obtain ⟨_, _, _, _, ⟨dxs, ns, ts1, ts2, s1, s2'⟩, _⟩ := id hs
  obtain ⟨dX, nX, x1, x2, x3, x4, z1, z2⟩ := hX
  walk_at "w"
  refine c_items (by omega) (by walk_at "spl") hs hk hK fun F1 l n g1 m1 => ?_
  walk_at "w"
  have hz' : xs.length ≤ sizeLine := Nat.le_trans hz (by decide)
  refine CStart.itrF (Itr.list (l := l) (vs := xs) (k := n)) (fun i vs A F' => A = M ∧ F1 <:+ F' ∧ All2 (HeadV w F') vs (objsOf (ks.take i))) hz' rfl (fun _ _ hp q => hp.mem_iff.mpr q) (fun i vs A F' ⟨e, s, _⟩ => by subst e; exact List.mem_append_right _ (s.subset m1)) ?_ ?_ M _ (by walk_at "cn") ⟨rfl, by walk_at "suf", .nil⟩
  · rintro i v vs A F' D C k hi' hv ⟨rfl, s2, hT⟩ hz2
    obtain ⟨kd, hkd, hit⟩ := hi.get hv
    have e0 : objsOf (ks.take (i+1)) = objsOf (ks.take i) ++ (match objOf kd with | some p => [p] | none => []) := by
      rw [List.take_add_one, hkd]; exact objsOf_snoc _ _
    walk_at "w"
    refine c_sort (by omega) (by walk_at "spl") (hs.grow (by walk_at "suf")) (IsItem.sort (IsItem.more (show F <:+ F' by walk_at "suf") (fun _ _ e => e) hit)) fun F2 t g2 => ?_
    walk_at "w"
    cases ho : objOf kd with
    | none =>
      refine ite_f (IsItem.notobj (F := F) (tb := tb) ho) ?_
      rw [ho] at e0
      exact ⟨⟨_, rfl⟩, rfl, _, _, by walk_at "cn", rfl, by walk_at "suf", by rw [e0, List.append_nil]; exact hT.mono fun _ _ q => q.grow (by walk_at "suf")⟩
    | some p =>
      rw [ho] at e0
      obtain rfl : kd = .objr p := by
        cases kd with
        | objr q => cases ho; rfl
        | _ => cases ho
      unfold IsItem at hit
      obtain ⟨d', kv', aT, aO, rfl, h1, h2, h3, h4, h5⟩ := hit
      refine ite_t rfl ?_
      walk_at "w"
      refine c_fetch (by omega) (by walk_at "spl") (hs.grow (by walk_at "suf")) (.self (SDict.pk (SDict.grow h1 (by walk_at "suf")))) fun F3 g3 => ?_
      exact ⟨⟨_, rfl⟩, rfl, _, _, by walk_at "cn", rfl, by walk_at "suf", by rw [e0]; exact (hT.mono fun _ _ q => q.grow (show F' <:+ F3 by walk_at "suf")).snoc ⟨d', kv', aO, rfl, SDict.grow h1 (by walk_at "suf"), h4, RefAt.grow h5 (by walk_at "suf")⟩⟩
  · rintro D vs k A F' ⟨rfl, s2, hT⟩
    rw [hi.length, List.take_length] at hT
    intro C mb
    walk_at "w"
    refine ⟨_, rfl, ?_⟩
    walk_at "w"
    have hvl := hT.length
    have hol : (objsOf ks).length ≤ ks.length := List.length_filterMap_le _ _
    have hz3 : vs.length ≤ sizeLine := by rw [hvl]; exact Nat.le_trans hol (by rw [← hi.length]; exact hz')
    refine CStart.itrF (Itr.list (l := D) (vs := vs) (k := k)) (fun i us A' F2 => A' = (D, lstObj vs k) :: A ∧ F' <:+ F2 ∧ All2 (RefV w F2) us ((objsOf ks).take i)) hz3 rfl (fun _ _ hp q => hp.mem_iff.mpr q) (fun i vs A F' ⟨e, s, _⟩ => by subst e; exact .head _) ?_ ?_ ((D, lstObj vs k) :: A) _ (by walk_at "cn") ⟨rfl, by walk_at "suf", .nil⟩
    · rintro i v us A' F2 D2 C2 k2 hi' hv ⟨rfl, s3, hP⟩ hz2
      obtain ⟨p, hp, hv2⟩ := hT.get hv
      obtain ⟨d', kv', aO, rfl, h1, h2, h3⟩ := hv2.grow s3
      obtain ⟨o', h11, h12⟩ := h1
      have h3' := h3
      obtain ⟨_, _, dr, nr, _, _, r1, r2⟩ := h3
      walk_at "w"
      exact ⟨⟨_, rfl⟩, rfl, _, _, by walk_at "cn", rfl, by walk_at "suf", by rw [List.take_add_one, hp]; exact (hP.mono fun _ _ q => q.grow (by walk_at "suf")).snoc ⟨aO, rfl, RefAt.grow h3' (by walk_at "suf")⟩⟩
    · rintro D2 us k2 A' F2 ⟨rfl, s3, hP⟩
      rw [hvl, List.take_length] at hP
      walk_at "w"
      exact ⟨A, _, by walk_at "cn", h _ D2 _ us (by walk_at "suf") (by k_upd) (hP.mono fun _ _ q => q.grow (by walk_at "suf"))⟩
theorem c_TF {m : Str} {t : Tok} {Q : Value → Sg → Prop} (hd : S.dp + 3 < recursionLimit) {M F : Led} (hl : Split σ.led M F)
    (h : ∀ x D a0 F', F <:+ F' → Q (.ref x) { σ with led := (x, excX 59 (some D) a0) :: (M ++ F') }) : W S σ (call (.ref 59) [.str m t]) Q E := by
  refine w_newExc (C := 59) (fun x => [("at", .int (-1) 209), ("what", .str m t), ("self", .ref x)]) (by k_dflt k_is) (by decide +kernel) (by decide +kernel) (by decide +kernel) (by k_dflt k_is) rfl (by k_dflt k_is) (by k_dflt k_is) (by omega) (Nat.le_of_ble_eq_true rfl) (fun _ _ X => binds_K X rfl (by k_dflt k_is) rfl rfl rfl) (by intro _; rfl) (by decide +kernel) (by rfl) (by rfl) (by rfl) ?_
  intro x T S' hdp
  rw [hl.eq]
  refine W.postPerm (Q' := fun fl σ' => ∃ led', σ'.led.Perm led' ∧ retOf fl = .none ∧ Q (.ref x) { σ with led := led' }) ?_ fun v σ' ⟨led', hp, e, q⟩ => ⟨led', hp, e, q⟩
  walk_at "w"
  refine w_excInitM (by k_dflt k_is) ?_
  walk_at "w"
  refine w_excInit (.head) (by k_dflt k_is) (by k_dflt k_is) fun T2 => ?_
  walk_at "w"
  refine w_setA0 (.tail .head) (by k_dflt k_is) (by k_dflt k_is) rfl (by k_dflt k_is) (by k_dflt k_is) fun D tk => ?_
  walk_at "w"
  refine w_setA1 (x := x) (by k_upd) (.head) (by k_dflt k_is) (by k_dflt k_is) rfl (by k_dflt k_is) (by k_dflt k_is) rfl rfl (Nat.le_of_ble_eq_true rfl) fun tk2 => ?_
  walk_at "w"
  exact ⟨_, Cn.perm (A := (x, excX 59 (some D) (.ref T2)) :: M) (by walk_at "cn"), rfl, h x D _ _ (by walk_at "suf")⟩
/-- an element, as elements tells it -/
structure Row where
  here : Int
  page : Int
  word : Str
  told : Bool
  direct : Bool
  kids : List Kid
  depth : Int
  above : Int
def ElemV (w : World) (F : Led) (tb : List (Int × Value)) (v : Value) (r : Row) : Prop :=
  ∃ X rv d kvs t t', v = .ref X ∧ Inst4 w.params 510 "reference" rv "head" (.ref d) "depth" (.int r.depth t) "above" (.int r.above t') X F ∧ SDict w F d kvs ∧ (∃ a, valueAt kvs "S" = some (.ref a) ∧ NameAt w F a r.word) ∧ PgSh w F kvs r.page ∧ ToldAt w F kvs r.told ∧ ∃ vs, KSh w F tb kvs vs ∧ AreItems w F tb r.kids vs
theorem ElemV.grow {F F' : Led} {tb : List (Int × Value)} {v : Value} {r : Row} (h : ElemV w F tb v r) (s : F <:+ F') : ElemV w F' tb v r :=
  let ⟨X, rv, d, kvs, t, t', e, h1, h2, ⟨a, h3, h4⟩, h5, h6, vs, h7, h8⟩ := h
  ⟨X, rv, d, kvs, t, t', e, h1.grow s, SDict.grow h2 s, ⟨a, h3, NameAt.grow h4 s⟩, h5.grow s, h6.grow s, vs, h7.grow s, AreItems.more s (fun _ _ e => e) h8⟩
theorem c_elemof {sh sd : Addr} {so : Obj} {skvs : List (Int × Value)} {v : Value} {here page depth above : Int} {word : Str} {told direct : Bool} {kids : List Kid} {td ta : Tok} {tb : List (Int × Value)} {Q : Value → Sg → Prop} (hd : S.dp + 4 < recursionLimit) {M F : Led} (hl : Split σ.led ((sd, so) :: M) F) (hs : ShelfAt w F sh tb)
    (hi : IsItem w F tb (.elem here page word told direct kids) v) (hso : so.IsDictOf (intKind PG w) skvs) (hz : skvs.length ≤ sizeLine) (hns : direct = false → valueAt skvs here = none)
    (h : ∀ F' so' X, F <:+ F' → so'.IsDictOf (intKind PG w) (if direct = true then skvs else stored skvs here (.bool true)) → ElemV w F' tb (.ref X) ⟨here, page, word, told, direct, kids, depth, above⟩ → Q (.ref X) { σ with led := ((sd, so') :: M) ++ F' }) :
    W S σ (call (.ref 547) [.ref sh, v, .int depth td, .int above ta, .ref sd]) Q E := by
  refine W.callF [("seen", .ref sd), ("above", .int above ta), ("depth", .int depth td), ("item", v), ("shelf", .ref sh)] hl.perm (by k_dflt k_is) (by k_dflt k_is) (by omega) (fun _ _ => BindsTo.of_eq rfl) (by rfl) (by decide +kernel) (by rfl) (by rfl) (by rfl) ?_
  intro S' hdp hun
  have hs' := hs
  obtain ⟨ta, tr, kvs', ra', ⟨dx, n, t1, t2, s1, s2⟩, ⟨to, s3, s4⟩, s5, s6, s7⟩ := hs
  unfold IsItem at hi
  obtain ⟨d, kvs, hE, hv, hT, ⟨aS, eS, nS⟩, hg, hto, xs, hK, hA⟩ := hi
  have hk : SDict w F d kvs := hE.choose_spec.choose_spec.2.2
  obtain ⟨o, k1, k2⟩ := id hk
  cases direct with
  | true =>
    obtain rfl : v = .ref d := hv
    walk_at "w"
    refine c_fetch (by omega) (by walk_at "spl") hs' (.self (SDict.pk hk)) fun F2 g2 => ?_
    walk_at "w"
    refine c_Element (by omega) (by walk_at "spl") fun X F3 g3 ix => ?_
    walk_at "w"
    exact ⟨(sd, so) :: M, _, by walk_at "cn", h _ so X (by walk_at "suf") hso ⟨X, _, d, kvs, _, _, rfl, ix, SDict.grow hk (by walk_at "suf"), ⟨aS, eS, NameAt.grow nS (by walk_at "suf")⟩, hg.grow (by walk_at "suf"), hto.grow (by walk_at "suf"), xs, hK.grow (by walk_at "suf"), AreItems.more (by walk_at "suf") (fun _ _ e => e) hA⟩⟩
  | false =>
    obtain ⟨a, rfl, hr⟩ := hv
    obtain ⟨_, _, dr, nr, _, _, r1, r2⟩ := id hr
    have hnone := hns rfl
    walk_at "w"
    rename_i so' hso'
    refine c_fetch (by omega) (by walk_at "spl") (hs'.grow (by walk_at "suf")) ((hE.grow (by walk_at "suf")).res (RefAt.grow hr (by walk_at "suf"))) fun F2 g2 => ?_
    walk_at "w"
    refine c_Element (by omega) (by walk_at "spl") fun X F3 g3 ix => ?_
    walk_at "w"
    exact ⟨(sd, so') :: M, _, by walk_at "cn", h _ so' X (by walk_at "suf") hso' ⟨X, _, d, kvs, _, _, rfl, ix, SDict.grow hk (by walk_at "suf"), ⟨aS, eS, NameAt.grow nS (by walk_at "suf")⟩, hg.grow (by walk_at "suf"), hto.grow (by walk_at "suf"), xs, hK.grow (by walk_at "suf"), AreItems.more (by walk_at "suf") (fun _ _ e => e) hA⟩⟩
theorem c_elemof_raise {P : Led → Prop} {sh sd : Addr} {so : Obj} {skvs : List (Int × Value)} {v : Value} {here page depth above : Int} {word : Str} {told : Bool} {kids : List Kid} {td ta : Tok} {tb : List (Int × Value)} (hd : S.dp + 5 < recursionLimit) {M F : Led} (hl : Split σ.led ((sd, so) :: M) F)
    (hi : IsItem w F tb (.elem here page word told false kids) v) (hso : so.IsDictOf (intKind PG w) skvs) {u : Value} (hns : valueAt skvs here = some u)
    (hP : ∀ led' : Led, (∀ p ∈ (sd, so) :: M ++ F, p ∈ led') → P led') :
    W S σ (call (.ref 547) [.ref sh, v, .int depth td, .int above ta, .ref sd]) (fun _ _ => False) (FlyE P S) := by
  refine W.callDef0 (binds := [("shelf", .ref sh), ("item", v), ("depth", .int depth td), ("above", .int above ta), ("seen", .ref sd)]) (by k_dflt k_is) (by k_dflt k_is) (by omega) (fun _ _ => BindsTo.of_eq rfl) (by rfl) (by decide +kernel) (by rfl) (by rfl) (by rfl) (fun S' => MadeE P S') (fun S' h' s' e q1 q2 q3 q4 q5 x m => leaves_made q3 q5 x m) ?_
  intro S' hdp hun
  unfold IsItem at hi
  obtain ⟨d, kvs, hE, ⟨a, rfl, hr⟩, hT, ⟨aS, eS, nS⟩, hg, hto, xs, hK, hA⟩ := hi
  obtain ⟨_, _, dr, nr, _, _, r1, r2⟩ := hr
  rw [hl.eq]
  dsimp only [List.reverse_cons, List.reverse_nil, List.nil_append, List.cons_append]
  walk_at "w"
  refine w_Raise (C := 59) (by k_dflt k_is) (by decide +kernel) ?_
  walk_at "w"
  refine c_TF (by omega) (by walk_at "spl") fun x D a0 F' g' => ?_
  refine ⟨x, some D, a0, rfl, .head _, fun h' st => ⟨x, some D, a0, _, _, _, rfl, st, hP _ fun p hp => ?_⟩⟩
  rcases List.mem_append.mp hp with q | q
  · exact List.mem_append_left _ q
  · exact List.mem_append_right _ (g'.subset q)
theorem AreItems.all2 {F : Led} {tb : List (Int × Value)} : ∀ {ks : List Kid} {vs : List Value}, AreItems w F tb ks vs → All2 (fun v k => IsItem w F tb k v) vs ks
  | [], _, h => by unfold AreItems at h; subst h; exact .nil
  | k :: ks, _, h => by
    unfold AreItems at h
    obtain ⟨v, r, rfl, h1, h2⟩ := h
    exact .cons h1 (AreItems.all2 h2)
mutual
def ksize : Kid → Nat
  | .elem _ _ _ _ _ ks => 1 + ksizes ks
  | _ => 1
def ksizes : List Kid → Nat
  | [] => 0
  | k :: ks => ksize k + ksizes ks
end
mutual
def rowsK : Kid → Int → Int → Nat → List Row
  | .elem here page word told direct ks, d, a, n => ⟨here, page, word, told, direct, ks, d, a⟩ :: rowsL ks (d+1) n (n+1)
  | _, _, _, _ => []
def rowsL : List Kid → Int → Int → Nat → List Row
  | [], _, _, _ => []
  | k :: ks, d, a, n => rowsK k d a n ++ rowsL ks d a (n + (rowsK k d a n).length)
end
theorem rowsL_cons (k : Kid) (ks : List Kid) (d a : Int) (n : Nat) : rowsL (k :: ks) d a n = rowsK k d a n ++ rowsL ks d a (n + (rowsK k d a n).length) := by rw [rowsL]
abbrev Stk := List (Kid × Int × Int)
def preS : Stk → Nat → List Row
  | [], _ => []
  | (k, d, a) :: st, n => rowsK k d a n ++ preS st (n + (rowsK k d a n).length)
def ssize : Stk → Nat
  | [] => 0
  | (k, _, _) :: st => ksize k + ssize st
def lay (d a : Int) (ks : List Kid) : Stk := ks.map fun k => (k, d, a)
theorem preS_lay (d a : Int) (st : Stk) : ∀ (ks : List Kid) (n : Nat), preS (lay d a ks ++ st) n = rowsL ks d a n ++ preS st (n + (rowsL ks d a n).length)
  | [], n => by
    show preS st n = rowsL [] d a n ++ preS st (n + (rowsL [] d a n).length)
    unfold rowsL; rfl
  | k :: ks, n => by
    show rowsK k d a n ++ preS (lay d a ks ++ st) (n + (rowsK k d a n).length) = _
    rw [preS_lay d a st ks, rowsL_cons, List.append_assoc, List.length_append, Nat.add_assoc]
theorem ssize_app (st st' : Stk) : ssize (st ++ st') = ssize st + ssize st' := by
  induction st with
  | nil => simp [ssize]
  | cons x st ih => obtain ⟨k, d, a⟩ := x; simp only [List.cons_append, ssize, ih]; omega
theorem ssize_lay (d a : Int) : ∀ ks : List Kid, ssize (lay d a ks) = ksizes ks
  | [] => by unfold ksizes; rfl
  | k :: ks => by
    show ssize ((k, d, a) :: lay d a ks) = _
    unfold ssize ksizes
    rw [ssize_lay d a ks]
theorem ksize_pos (k : Kid) : 1 ≤ ksize k := by
  cases k <;> unfold ksize <;> omega
theorem ssize_len (st : Stk) : st.length ≤ ssize st := by
  induction st with
  | nil => simp [ssize]
  | cons x st ih => obtain ⟨k, d, a⟩ := x; have := ksize_pos k; simp only [List.length_cons, ssize]; omega
theorem ksizes_len : ∀ ks : List Kid, ks.length ≤ ksizes ks
  | [] => by simp
  | k :: ks => by have := ksize_pos k; have := ksizes_len ks; unfold ksizes; simp only [List.length_cons]; omega
mutual
theorem rowsK_len : ∀ (k : Kid) (d a : Int) (n : Nat), (rowsK k d a n).length ≤ ksize k
  | .elem here page word told direct ks, d, a, n => by
    unfold rowsK ksize
    have := rowsL_len ks (d+1) n (n+1)
    simp only [List.length_cons]; omega
  | .content _, _, _, _ => by unfold rowsK; simp
  | .mcrPg _ _, _, _, _ => by unfold rowsK; simp
  | .mcr _, _, _, _ => by unfold rowsK; simp
  | .objr _, _, _, _ => by unfold rowsK; simp
theorem rowsL_len : ∀ (ks : List Kid) (d a : Int) (n : Nat), (rowsL ks d a n).length ≤ ksizes ks
  | [], d, a, n => by unfold rowsL; simp
  | k :: ks, d, a, n => by
    unfold rowsL ksizes
    have := rowsK_len k d a n
    have := rowsL_len ks d a (n + (rowsK k d a n).length)
    simp only [List.length_append]; omega
end
/-- the numbers that are told once -/
def nums (rs : List Row) : List Int := rs.filterMap fun r => if r.direct = true then none else some r.here
theorem nums_app (a b : List Row) : nums (a ++ b) = nums a ++ nums b := List.filterMap_append
theorem preS_elem (here page : Int) (word : Str) (told direct : Bool) (ks : List Kid) (d a : Int) (st : Stk) (n : Nat) :
    preS ((.elem here page word told direct ks, d, a) :: st) n = ⟨here, page, word, told, direct, ks, d, a⟩ :: preS (lay (d+1) n ks ++ st) (n+1) := by
  show rowsK _ d a n ++ preS st (n + (rowsK _ d a n).length) = _
  rw [preS_lay]
  unfold rowsK
  rw [List.cons_append, List.length_cons]
  congr 3
  omega
theorem preS_other {k : Kid} (hk : (k.sort == "element") = false) (d a : Int) (st : Stk) (n : Nat) : preS ((k, d, a) :: st) n = preS st n := by
  have : rowsK k d a n = [] := by
    cases k with
    | elem => cases hk
    | _ => unfold rowsK; rfl
  show rowsK k d a n ++ preS st (n + (rowsK k d a n).length) = _
  rw [this]; rfl
def LineV (w : World) (F : Led) (tb : List (Int × Value)) (v : Value) (x : Kid × Int × Int) : Prop := ∃ D iv t t', v = .ref D ∧ (D, tupObj [iv, .int x.2.1 t, .int x.2.2 t']) ∈ F ∧ IsItem w F tb x.1 iv
theorem LineV.grow {F F' : Led} {tb : List (Int × Value)} {v : Value} {x : Kid × Int × Int} (h : LineV w F tb v x) (s : F <:+ F') : LineV w F' tb v x := let ⟨D, iv, t, t', e, m, i⟩ := h; ⟨D, iv, t, t', e, s.subset m, IsItem.more s (fun _ _ e => e) i⟩
theorem seen_grow {skvs : List (Int × Value)} {rows : List Row} {r : Row} {v : Value} (hk : ∀ x, (valueAt skvs x).isSome = true ↔ x ∈ nums rows) (hns : r.direct = false → valueAt skvs r.here = none) : ∀ x, (valueAt (if r.direct = true then skvs else stored skvs r.here v) x).isSome = true ↔ x ∈ nums (rows ++ [r]) := by
  intro x
  rw [nums_app]
  cases e : r.direct with
  | true => simp [nums, e, hk]
  | false =>
    simp only [Bool.false_eq_true, if_false, nums, List.filterMap_cons, List.filterMap_nil, e, List.mem_append, List.mem_singleton]
    rw [stored_absent (hns e)]
    have e2 : valueAt (skvs ++ [(r.here, v)]) x = (valueAt skvs x).or (if r.here = x then some v else none) := by
      unfold valueAt
      rw [List.find?_append, Option.map_or]
      congr 1
      by_cases q : r.here = x <;> simp [q]
    rw [e2, Option.isSome_or, Bool.or_eq_true, hk x]
    unfold nums
    by_cases q : r.here = x
    · simp [q]
    · simp [q, Ne.symm q]
theorem c_elements_gen {P : Led → Prop} {sh r10 : Addr} {k10 : List (Str × Value)} {tops : List Kid} {xs : List Value} {tb : List (Int × Value)} {Q : Value → Sg → Prop} (hd : S.dp + 9 < recursionLimit) (hu : S.un + 100 < cLine) {M F : Led} (hl : Split σ.led M F) (hs : ShelfAt w F sh tb)
    (hr : SRootW w F tb r10 k10) (hK : KSh w F tb k10 xs) (hA : AreItems w F tb tops xs) (hz : ksizes tops ≤ 1000)
    (hP : ¬ (nums (rowsL tops 0 (-1) 0)).Nodup → ∀ led' : Led, (∀ p ∈ F, p ∈ led') → P led')
    (h : (nums (rowsL tops 0 (-1) 0)).Nodup → ∀ F' l n vs, F <:+ F' → (l, lstObj vs n) ∈ F' → All2 (ElemV w F' tb) vs (rowsL tops 0 (-1) 0) → Q (.ref l) { σ with led := M ++ F' }) :
    W S σ (call (.ref 552) [.ref sh]) Q (FlyE P S) := by
  refine W.callDef0 (binds := [("shelf", .ref sh)]) (by k_dflt k_is) (by k_dflt k_is) (by omega) (fun _ _ => BindsTo.of_eq rfl) (by rfl) (by decide +kernel) (by rfl) (by rfl) (by rfl) (fun S' => HeldE P S') (fun S' h' s' e q1 q2 q3 q4 q5 x m => leaves_held q3 q5 x m) ?_
  intro S' hdp hun
  refine W.postPerm (Q' := fun fl σ' => ∃ A' F', Cn σ'.led A' F' ∧ Q (retOf fl) { σ with led := A' ++ F' }) ?_ fun v σ' ⟨A', F', hc', q⟩ => ⟨_, hc'.perm, q⟩
  rw [hl.eq]
  (try rw [List.reverse_singleton])
  (try dsimp only [List.reverse_cons, List.reverse_nil, List.nil_append, List.cons_append])
  obtain ⟨cat, kcat, a10, hr1, hr2, hr3, hr4⟩ := hr
  walk_at "w"
  rename_i fa sd so hs1 hs2
  refine c_sroot (by omega) (by walk_at "spl") hs hr1 hr2 hr3 hr4 fun F2 g2 => ?_
  walk_at "w"
  refine c_items (by omega) (by walk_at "spl") (hs.grow (by walk_at "suf")) (hr4.grow (by walk_at "suf")).choose_spec.choose_spec.2.2 (hK.grow (by walk_at "suf")) fun F3 l n g3 m3 => ?_
  walk_at "w"
  have hxl : xs.length = tops.length := hA.length
  have hz' : xs.length ≤ sizeLine := by rw [hxl]; exact Nat.le_trans (ksizes_len tops) (Nat.le_trans hz (by decide))
  refine CStart.itrF (Itr.rev (l := l) (vs := xs) (k := n)) (fun i vs A F' => A = (sd, so) :: (fa, lstObj [] 0) :: M ∧ F3 <:+ F' ∧ All2 (LineV w F' tb) vs ((lay 0 (-1) tops).reverse.take i)) hz' rfl (fun _ _ hp q => hp.mem_iff.mpr q) (fun i vs A F' ⟨e, s, _⟩ => by subst e; exact List.mem_append_right _ (s.subset m3)) ?_ ?_ ((sd, so) :: (fa, lstObj [] 0) :: M) _ (by walk_at "cn") ⟨rfl, by walk_at "suf", .nil⟩
  · rintro i v vs A F' D C k hi' hv ⟨rfl, s2, hT⟩ hz2
    obtain ⟨kd, hkd, hit⟩ := hA.all2.rev.get hv
    walk_at "w"
    refine ⟨⟨_, rfl⟩, rfl, _, _, by walk_at "cn", rfl, by walk_at "suf", ?_⟩
    have e1 : (lay 0 (-1) tops).reverse[i]? = some (kd, 0, -1) := by
      unfold lay
      rw [← List.map_reverse, List.getElem?_map, hkd]; rfl
    rw [List.take_add_one, e1]
    exact (hT.mono fun _ _ q => q.grow (by walk_at "suf")).snoc ⟨_, v, _, _, rfl, .head _, IsItem.more (by walk_at "suf") (fun _ _ e => e) hit⟩
  · rintro D vs k A F' ⟨rfl, s2, hT⟩
    rw [hxl, show tops.length = (lay 0 (-1) tops).reverse.length by simp [lay], List.take_length] at hT
    intro C mb
    walk_at "w"
    refine ⟨_, rfl, ?_⟩
    walk_at "w"
    have htot : ∀ (rows : List Row) (st : Stk), rows ++ preS st rows.length = rowsL tops 0 (-1) 0 → rows.length ≤ 1000 := fun rows st e => by
      have := congrArg List.length e
      have := rowsL_len tops 0 (-1) 0
      rw [List.length_append] at *
      omega
    refine W.While0E (P := P) (fun n m A F2 => ∃ (st : Stk) (rows : List Row) (lvs fvs : List Value) (ln fn : Nat) (so : Obj) (skvs : List (Int × Value)),
      A = (D, lstObj lvs ln) :: (fa, lstObj fvs fn) :: (sd, so) :: M ∧ F' <:+ F2 ∧ Has [("line", .ref D), ("seen", .ref sd), ("found", .ref fa), ("shelf", .ref sh)] m ∧ All2 (LineV w F2 tb) lvs st.reverse ∧ All2 (ElemV w F2 tb) fvs rows ∧
      so.IsDictOf (intKind PG w) skvs ∧ (∀ x, (valueAt skvs x).isSome = true ↔ x ∈ nums rows) ∧ (nums rows).Nodup ∧ skvs.length ≤ rows.length ∧ rows ++ preS st rows.length = rowsL tops 0 (-1) 0 ∧ n = ssize st ∧ ssize st ≤ 1000) (ssize (lay 0 (-1) tops)) ((D, lstObj vs k) :: (fa, lstObj [] 0) :: (sd, so) :: M) _ (by walk_at "cn") ?_ ?_
    · refine ⟨lay 0 (-1) tops, [], vs, [], k, 0, so, [], rfl, by walk_at "suf", by walk_at "has", hT.mono fun _ _ q => q.grow (by walk_at "suf"), .nil, hs2, by intro x; simp [nums, valueAt], by simp [nums], by simp, ?_, rfl, by rw [ssize_lay]; exact hz⟩
      have := preS_lay 0 (-1) [] tops 0
      rw [List.append_nil] at this
      rw [List.nil_append, List.length_nil, this]
      exact List.append_nil _
    · rintro n m A F2 ⟨st, rows, lvs, fvs, ln, fn, so, skvs, rfl, g4, hm, hL, hF, hso, hsk, hnd, hslen, htl, rfl, hsz⟩
      refine W.weak hm ?_
      have hll : lvs.length = st.length := by rw [hL.length, List.length_reverse]
      walk_at "w"
      cases st with
      | nil =>
        obtain rfl : lvs = [] := List.eq_nil_of_length_eq_zero hll
        have hrt : rows = rowsL tops 0 (-1) 0 := by rw [← htl]; exact (List.append_nil _).symm
        subst hrt
        walk_at "w"
        exact ⟨M, _, by walk_at "cn", h hnd _ fa fn fvs (by walk_at "suf") (by k_upd) (hF.mono fun _ _ q => q.grow (by walk_at "suf"))⟩
      | cons x st =>
        obtain ⟨kd, dp, ab⟩ := x
        rw [List.reverse_cons] at hL
        obtain ⟨p, y, rfl, hL', hy⟩ := hL.unsnoc
        obtain ⟨Dt, iv, td, ta, rfl, mt, hiv⟩ := hy
        refine ite_t (by simp) ?_
        walk_at "w"
        have hz4 : (p ++ [Value.ref Dt]).length ≤ sizeLine := by
          rw [hll]; exact Nat.le_trans (ssize_len _) (Nat.le_trans hsz (by decide))
        have hrl : rows.length ≤ 1000 := htot _ _ htl
        have hfl : fvs.length = rows.length := hF.length
        refine W.popL (p := p) (y := .ref Dt) (by kst_p2) hz4 ?_
        walk_at "w"
        refine c_sort (by omega) (by walk_at "spl") (hs.grow (by walk_at "suf")) (IsItem.sort (IsItem.more (show F2 <:+ _ by walk_at "suf") (fun _ _ e => e) hiv)) fun F5 t5 g5 => ?_
        walk_at "w"
        cases hk : (kd.sort == "element") with
        | false =>
          refine ite_f (by rfl) ?_
          walk_at "w"
          refine ⟨rfl, _, _, ssize st, by walk_at "cn", ?_, st, rows, p, fvs, _, fn, so, skvs, rfl, by walk_at "suf", by walk_at "has", hL'.mono fun _ _ q => q.grow (by walk_at "suf"), hF.mono fun _ _ q => q.grow (by walk_at "suf"), hso, hsk, hnd, hslen, ?_, rfl, ?_⟩
          · have := ksize_pos kd
            simp only [ssize]; omega
          · rw [← htl, preS_other hk]
          · simp only [ssize] at hsz; omega
        | true =>
          refine ite_t (by rfl) ?_
          obtain ⟨here, page, word, told, direct, kids, rfl⟩ : ∃ here page word told direct kids, kd = .elem here page word told direct kids := by
            cases kd with
            | elem here page word told direct kids => exact ⟨_, _, _, _, _, _, rfl⟩
            | _ => cases hk
          rw [preS_elem] at htl
          walk_at "w"
          refine W.cn (A := (sd, so) :: (D, lstObj p (ln + 1)) :: (fa, lstObj fvs fn) :: M) (by walk_at "cn") ?_
          dsimp only
          by_cases hdup : direct = false ∧ (valueAt skvs here).isSome = true
          · obtain ⟨rfl, hsome⟩ := hdup
            obtain ⟨u, hu2⟩ := Option.isSome_iff_exists.mp hsome
            refine (c_elemof_raise (P := P) (kids := kids) (page := page) (word := word) (told := told) (here := here) (tb := tb) (by omega) Split.app (IsItem.more (show F2 <:+ _ by walk_at "suf") (fun _ _ e => e) hiv) hso hu2 ?_).mono fun _ _ z => z.elim
            intro led' hin
            refine hP (fun hn => ?_) led' fun q hq => hin q (List.mem_append_right _ ((show F <:+ _ by walk_at "suf").subset hq))
            have h1 : here ∈ nums rows := (hsk here).mp hsome
            rw [← htl, nums_app] at hn
            refine (List.nodup_append.mp hn).2.2 here h1 here ?_ rfl
            show here ∈ nums (_ :: _)
            simp [nums]
          · have hns : direct = false → valueAt skvs here = none := fun e => by
              cases q : valueAt skvs here with
              | none => rfl
              | some u => exact absurd ⟨e, by rw [q]; rfl⟩ hdup
            refine c_elemof (kids := kids) (page := page) (word := word) (told := told) (direct := direct) (here := here) (skvs := skvs) (tb := tb) (by omega) Split.app (hs.grow (by walk_at "suf")) (IsItem.more (show F2 <:+ _ by walk_at "suf") (fun _ _ e => e) hiv) hso (Nat.le_trans hslen (Nat.le_trans hrl (by decide))) hns fun F6 so' X g6 hso' hX => ?_
            have hX' := hX
            obtain ⟨_, rv, dX, kX, tX, tX', eX, iX, kX1, ⟨aS, eS, nS⟩, pX, toX, xsX, KX, AX⟩ := hX
            cases eX
            obtain ⟨di, ni, ti1, ti2, ti3, ti4, ix1, ix2⟩ := id iX
            have hzf : fvs.length ≤ sizeLine := by rw [hfl]; exact Nat.le_trans hrl (by decide)
            walk_at "w"
            refine c_items (by omega) (by walk_at "spl") (hs.grow (by walk_at "suf")) (SDict.grow kX1 (by walk_at "suf")) (KX.grow (by walk_at "suf")) fun F7 l2 n2 g7 m7 => ?_
            walk_at "w"
            rename_i toks I2
            have hxk : xsX.length = kids.length := AX.length
            have hks : ksizes kids + ssize st + 1 ≤ 1000 := by
              simp only [ssize, ksize] at hsz; omega
            have hzx : xsX.length ≤ sizeLine := by
              have := ksizes_len kids
              exact Nat.le_trans (show xsX.length ≤ 1000 by omega) (by decide)
            refine CStart.itrF (Itr.rev (l := l2) (vs := xsX) (k := n2)) (fun i us A F' => A = (sd, so') :: (D, lstObj p (ln + 1)) :: (fa, lstObj (fvs ++ [.ref X]) (fn + 1)) :: M ∧ F7 <:+ F' ∧ All2 (LineV w F' tb) us ((lay (dp + 1) rows.length kids).reverse.take i)) hzx rfl (fun _ _ hp q => hp.mem_iff.mpr q) (fun i vs A F' ⟨e, s, _⟩ => by subst e; exact List.mem_append_right _ (s.subset m7)) ?_ ?_ ((sd, so') :: (D, lstObj p (ln + 1)) :: (fa, lstObj (fvs ++ [.ref X]) (fn + 1)) :: M) _ (by walk_at "cn") ⟨rfl, by walk_at "suf", .nil⟩
            · rintro i v us A F8 D3 C3 k3 hi' hv ⟨rfl, s2, hT2⟩ hz2
              obtain ⟨kd, hkd, hit⟩ := AX.all2.rev.get hv
              walk_at "w"
              refine ⟨⟨_, rfl⟩, rfl, _, _, by walk_at "cn", rfl, by walk_at "suf", ?_⟩
              have e1 : (lay (dp + 1) rows.length kids).reverse[i]? = some (kd, dp + 1, (rows.length : Int)) := by
                unfold lay
                rw [← List.map_reverse, List.getElem?_map, hkd]; rfl
              rw [List.take_add_one, e1]
              exact (hT2.mono fun _ _ q => q.grow (by walk_at "suf")).snoc ⟨_, v, _, _, rfl, by rw [← hfl]; exact .head _, IsItem.more (show F6 <:+ _ by walk_at "suf") (fun _ _ e => e) hit⟩
            · rintro D3 us k3 A F8 ⟨rfl, s2, hT2⟩
              rw [hxk, show kids.length = (lay (dp + 1) rows.length kids).reverse.length by simp [lay], List.take_length] at hT2
              have hul : us.length = kids.length := by rw [hT2.length]; simp [lay]
              have hpl : p.length = st.length := by rw [hL'.length, List.length_reverse]
              have hz5 : (p ++ us).length ≤ sizeLine := by
                have := ksizes_len kids
                have := ssize_len st
                rw [List.length_append, hpl, hul]
                exact Nat.le_trans (show st.length + kids.length ≤ 1000 by omega) (by decide)
              walk_at "w"
              have hns' : direct = false → here ∉ nums rows := fun e hm => by
                have := (hsk here).mpr hm
                rw [hns e] at this; cases this
              have hnums : nums (rows ++ [⟨here, page, word, told, direct, kids, dp, ab⟩]) = nums rows ++ (if direct = true then [] else [here]) := by
                rw [nums_app]
                cases direct <;> rfl
              refine ⟨rfl, (D, lstObj (p ++ us) _) :: (fa, lstObj (fvs ++ [.ref X]) _) :: (sd, so') :: M, _, ssize (lay (dp + 1) rows.length kids ++ st), by walk_at "cn", ?_, lay (dp + 1) rows.length kids ++ st, rows ++ [⟨here, page, word, told, direct, kids, dp, ab⟩], p ++ us, fvs ++ [.ref X], _, _, so', (if direct = true then skvs else stored skvs here (.bool true)), rfl, by walk_at "suf", by walk_at "has", ?_, ?_, hso', seen_grow (r := ⟨here, page, word, told, direct, kids, dp, ab⟩) hsk hns, ?_, ?_, ?_, rfl, ?_⟩
              · rw [ssize_app, ssize_lay]; simp only [ssize, ksize]; omega
              · rw [List.reverse_append]
                exact (hL'.mono fun _ _ q => q.grow (by walk_at "suf")).app (hT2.mono fun _ _ q => q.grow (by walk_at "suf"))
              · exact (hF.mono fun _ _ q => q.grow (by walk_at "suf")).snoc (hX'.grow (by walk_at "suf"))
              · rw [hnums]
                cases direct with
                | true => simpa using hnd
                | false => exact List.nodup_append.mpr ⟨hnd, by simp, fun a ha b hb e => by simp at hb; subst hb; subst e; exact hns' rfl ha⟩
              · rw [List.length_append]
                cases direct with
                | true => simp; omega
                | false => simp [stored_absent (hns rfl)]; omega
              · rw [← htl, List.length_append, List.append_assoc]; rfl
              · rw [ssize_app, ssize_lay]; omega
theorem W.monoE {α : Type} {t : Sem α} {Q : α → Sg → Prop} {E1 : Value → Heap → Prop} (h : W S σ t Q E1) (he : ∀ e h, E1 e h → E e h) : W S σ t Q E := fun s x => h.runE x (fun _ σ' h' tk' y q => ⟨σ', h', tk', rfl, y, q⟩) fun e h' tk' q => ⟨h', tk', rfl, he e h' q⟩
/-- the ways of a statement meet -/
theorem W.JoinF {env : Env} {Q : Flow → Sg → Prop} (P : Loc → Led → Led → Prop) {t : Sem Flow} {rest : List Stmt} (h1 : W S σ t (fun f σ' => f = .next ∧ σ'.blk = σ.blk ∧ ∃ A F, Cn σ'.led A F ∧ P σ'.m A F) E)
    (h2 : ∀ m A F, P m A F → W S ⟨m, σ.blk, A ++ F⟩ (execs rest env) Q E) : W S σ t (Sq S env rest Q E) E :=
  W.mono h1 fun _ σ' ⟨e1, e2, A, F, hc, p⟩ => by subst e1; obtain ⟨m, b, led⟩ := σ'; obtain rfl : b = σ.blk := e2; exact W.perm hc.perm (h2 m A F p)
theorem c_elements {sh r10 : Addr} {k10 : List (Str × Value)} {tops : List Kid} {xs : List Value} {tb : List (Int × Value)} {Q : Value → Sg → Prop} (hd : S.dp + 9 < recursionLimit) (hu : S.un + 100 < cLine) {M F : Led} (hl : Split σ.led M F) (hs : ShelfAt w F sh tb)
    (hr : SRootW w F tb r10 k10) (hK : KSh w F tb k10 xs) (hA : AreItems w F tb tops xs) (hz : ksizes tops ≤ 1000) (hn : (nums (rowsL tops 0 (-1) 0)).Nodup)
    (h : ∀ F' l n vs, F <:+ F' → (l, lstObj vs n) ∈ F' → All2 (ElemV w F' tb) vs (rowsL tops 0 (-1) 0) → Q (.ref l) { σ with led := M ++ F' }) :
    W S σ (call (.ref 552) [.ref sh]) Q E :=
  (c_elements_gen (P := fun _ => False) hd hu hl hs hr hK hA hz (fun z => absurd hn z) fun _ => h).monoE fun e h' ⟨_, _, _, _, _, ⟨_, _, _, _, _, z, _⟩, _⟩ => z.elim
def pageOf (r : Row) : Int := match pairsOf r.page r.kids with
  | [] => r.page
  | p :: _ => p.1
def rowData (r : Row) : PyData := .tuple [.int r.depth, .str (roleOf r.word), .int (pageOf r), .tuple ((pairsOf r.page r.kids).map fun p => .int p.2)]
theorem All2.RVs {F : Led} {vs : List Value} {β : Type} {bs : List β} {f : β → PyData} (h : All2 (fun v b => RV F v (f b)) vs bs) : RVs F vs (bs.map f) := by
  induction h with
  | nil => exact .nil
  | cons x _ ih => exact .cons x ih
theorem PairVs.get {F : Led} {vs : List Value} {ps : List (Int × Int)} (h : PairVs F vs ps) : ∀ {i : Nat} {v : Value}, vs[i]? = some v → ∃ D t t' a b, v = .ref D ∧ (D, tupObj [.int a t, .int b t']) ∈ F ∧ ps[i]? = some (a, b) := by
  induction h with
  | nil => intro i v e; simp at e
  | @cons D t t' a b vs ps m _ ih =>
    intro i v e
    cases i with
    | zero => simp at e; exact ⟨D, t, t', a, b, e.symm, m, rfl⟩
    | succ i => exact ih (by simpa using e)
theorem PairVs.length {F : Led} {vs : List Value} {ps : List (Int × Int)} (h : PairVs F vs ps) : vs.length = ps.length := by
  induction h with
  | nil => rfl
  | cons _ _ ih => simp [ih]
theorem pairsOf_len (page : Int) : ∀ ks : List Kid, (pairsOf page ks).length ≤ ks.length
  | [] => by simp [pairsOf]
  | k :: ks => by
    have := pairsOf_len page ks
    unfold pairsOf
    cases kidTold page k <;> simp <;> omega
theorem c_rows {sh r10 : Addr} {k10 : List (Str × Value)} {tops : List Kid} {xs : List Value} {tb : List (Int × Value)} {Q : Value → Sg → Prop} (hd : S.dp + 13 < recursionLimit) (hu : S.un + 200 < cLine) {M F : Led} (hl : Split σ.led M F) (hs : ShelfAt w F sh tb) (hp : PagesW w F tb)
    (hr : SRootW w F tb r10 k10) (hro : RolesAt w F k10) (hK : KSh w F tb k10 xs) (hA : AreItems w F tb tops xs) (hz : ksizes tops ≤ 1000) (hn : (nums (rowsL tops 0 (-1) 0)).Nodup)
    (hw : ∀ r ∈ rowsL tops 0 (-1) 0, IsWord r.word ∧ r.kids.length ≤ 1000)
    (h : ∀ F' l n vs, F <:+ F' → (l, lstObj vs n) ∈ F' → RVs F' vs ((rowsL tops 0 (-1) 0).map rowData) → Q (.ref l) { σ with led := M ++ F' }) :
    W S σ (call (.ref 588) [.ref sh]) Q E := by
  refine W.callF [("shelf", .ref sh)] hl.perm (by k_dflt k_is) (by k_dflt k_is) (by omega) (fun _ _ => BindsTo.of_eq rfl) (by rfl) (by decide +kernel) (by rfl) (by rfl) (by rfl) ?_
  intro S' hdp hun
  walk_at "w"
  refine c_places (by omega) (by omega) (by walk_at "spl") hs hp fun F1 pl t0 t1 g1 hpl => ?_
  walk_at "w"
  rename_i ra
  refine c_elements (by omega) (by omega) (by walk_at "spl") (hs.grow (by walk_at "suf")) (hr.grow (by walk_at "suf")) (hK.grow (by walk_at "suf")) (AreItems.more (by walk_at "suf") (fun _ _ e => e) hA) hz hn fun F2 le ln evs g2 me hE => ?_
  walk_at "w"
  rename_i I
  refine FLoop.itrF (Itr.list (l := le) (vs := evs) (k := ln)) (fun i m A F' => ∃ ovs on, A = (ra, lstObj ovs on) :: M ∧ F2 <:+ F' ∧ Has [("rows", .ref ra), ("places", .ref pl), ("shelf", .ref sh)] m ∧ All2 (fun v r => RV F' v (rowData r)) ovs ((rowsL tops 0 (-1) 0).take i)) rfl (fun _ _ hp q => hp.mem_iff.mpr q) (fun i m A F' ⟨_, _, e, s, _⟩ => by subst e; exact List.mem_append_right _ (s.subset me)) ?_ ?_ ((ra, lstObj [] 0) :: M) _ (by walk_at "cn") ⟨[], 0, rfl, by walk_at "suf", by walk_at "has", .nil⟩
  · rintro i v m A F' hi hv ⟨ovs, on, rfl, g3, hm, hO⟩
    refine W.weak hm ?_
    obtain ⟨r, hrow, hX⟩ := hE.get hv
    obtain ⟨hword, hkl⟩ := hw r (List.mem_of_getElem? hrow)
    obtain ⟨X, rv, dX, kX, tX, tX', rfl, iX, kX1, hS, pX, toX, xsX, KX, AX⟩ := hX.grow g3
    obtain ⟨di, ni, ti1, ti2, ti3, ti4, ix1, ix2⟩ := id iX
    have hxk : xsX.length = r.kids.length := AX.length
    walk_at "w"
    refine c_contents (page := r.page) (ks := r.kids) (by omega) (by walk_at "spl") (hs.grow (by walk_at "suf")) (iX.grow (by walk_at "suf")) (SDict.grow kX1 (by walk_at "suf")) (pX.grow (by walk_at "suf")) (Places.grow ⟨t0, t1, hpl⟩ (by walk_at "suf")) (AreItems.more (by walk_at "suf") (fun _ _ e => e) AX) (KX.grow (by walk_at "suf")) (by omega) fun F4 l4 n4 pvs g4 m4 hP => ?_
    refine W.storeL rfl (W.sNext (W.xCons (W.JoinF (fun m A F5 => A = (ra, lstObj ovs on) :: M ∧ F4 <:+ F5 ∧ ∃ t, Has [("page", .int (pageOf r) t), ("pairs", .ref l4), ("element", .ref X), ("rows", .ref ra), ("places", .ref pl), ("shelf", .ref sh)] m) ?_ ?_)))
    · dsimp only
      have hpl4 : pvs.length ≤ sizeLine := by
        have := pairsOf_len r.page r.kids
        rw [hP.length]
        exact Nat.le_trans (show (pairsOf r.page r.kids).length ≤ 1000 by omega) (by decide)
      walk_at "w"
      cases hps : pairsOf r.page r.kids with
      | nil =>
        rw [hps] at hP
        cases hP
        have hpg : pageOf r = r.page := by unfold pageOf; rw [hps]
        walk_at "w"
        refine c_pagetold (p := r.page) (by omega) (by walk_at "spl") (SDict.grow kX1 (by walk_at "suf")) (Places.grow ⟨t0, t1, hpl⟩ (by walk_at "suf")) (pX.grow (by walk_at "suf")) fun F5 t5 g5 => ?_
        walk_at "w"
        exact ⟨rfl, rfl, _, _, by walk_at "cn", rfl, by walk_at "suf", t5, by rw [hpg]; walk_at "has"⟩
      | cons pr ps =>
        rw [hps] at hP
        obtain ⟨⟩ | @⟨Dp, tp, tp', a, b, vs', _, mp, hP'⟩ := hP
        have hpg : pageOf r = a := by unfold pageOf; rw [hps]
        walk_at "w"
        exact ⟨rfl, rfl, _, _, by walk_at "cn", rfl, by walk_at "suf", tp, by rw [hpg]; walk_at "has"⟩
    · rintro m A F5 ⟨rfl, g5, t, hm⟩
      refine W.weak hm ?_
      walk_at "w"
      refine c_role (x := r.word) (by omega) (by walk_at "spl") (hs.grow (by walk_at "suf")) (hr.grow (by walk_at "suf")) (hro.grow (by walk_at "suf")) (SDict.grow kX1 (by walk_at "suf")) (let ⟨a, e, q⟩ := hS; ⟨a, e, NameAt.grow q (by walk_at "suf")⟩) hword fun F6 t6 g6 => ?_
      walk_at "w"
      have hpz : pvs.length ≤ 1000 := by
        have := pairsOf_len r.page r.kids
        rw [hP.length]; omega
      have hpz' : pvs.length ≤ sizeLine := Nat.le_trans hpz (by decide)
      refine CStart.itrF (Itr.list (l := l4) (vs := pvs) (k := n4)) (fun i us A F' => A = (ra, lstObj ovs on) :: M ∧ F6 <:+ F' ∧ All2 (fun v p => RV F' v (.int p)) us (((pairsOf r.page r.kids).map (·.2)).take i)) hpz' rfl (fun _ _ hp q => hp.mem_iff.mpr q) (fun i vs A F' ⟨e, s, _⟩ => by subst e; exact List.mem_append_right _ (List.IsSuffix.subset (show F4 <:+ F' by walk_at "suf") m4)) ?_ ?_ ((ra, lstObj ovs on) :: M) _ (by walk_at "cn") ⟨rfl, by walk_at "suf", .nil⟩
      · rintro j v us A F' D C k hj hv ⟨rfl, s2, hT⟩ hz2
        obtain ⟨Dp, tp, tp', a, b, rfl, mp, hpj⟩ := hP.get hv
        have mp' : (Dp, tupObj [.int a tp, .int b tp']) ∈ F' := List.IsSuffix.subset (show F4 <:+ F' by walk_at "suf") mp
        walk_at "w"
        refine ⟨⟨_, rfl⟩, rfl, _, _, by walk_at "cn", rfl, by walk_at "suf", ?_⟩
        rw [List.take_add_one, List.getElem?_map, hpj]
        exact (hT.mono fun _ _ q => q.grow (by walk_at "suf")).snoc RV.int
      · rintro D us k A F' ⟨rfl, s2, hT⟩
        rw [show pvs.length = ((pairsOf r.page r.kids).map (·.2)).length by rw [hP.length, List.length_map], List.take_length] at hT
        have hul : us.length ≤ sizeLine := by
          rw [hT.length, List.length_map, ← hP.length]; exact hpz'
        have hol : ovs.length ≤ sizeLine := by
          rw [hO.length, List.length_take]
          have := rowsL_len tops 0 (-1) 0
          exact Nat.le_trans (show _ ≤ 1000 by omega) (by decide)
        walk_at "w"
        refine ⟨rfl, _, _, by walk_at "cn", _, _, rfl, by walk_at "suf", by walk_at "has", ?_⟩
        rw [List.take_add_one, hrow]
        refine (hO.mono fun _ _ q => q.grow (by walk_at "suf")).snoc ?_
        unfold rowData
        refine RV.tuple (.head _) (.cons .int (.cons .str (.cons .int (.cons (RV.tuple (.tail _ (.head _)) ?_) .nil))))
        have e := All2.RVs (f := fun p => PyData.int p) hT
        rw [List.map_map] at e
        exact e.grow (by walk_at "suf")
  · rintro m A F' ⟨ovs, on, rfl, g3, hm, hO⟩
    refine W.weak hm ?_
    walk_at "w"
    have : evs.length = (rowsL tops 0 (-1) 0).length := hE.length
    rw [this, List.take_length] at hO
    exact ⟨M, _, by walk_at "cn", h _ ra on ovs (by walk_at "suf") (by k_upd) (All2.RVs (hO.mono fun _ _ q => q.grow (by walk_at "suf")))⟩
abbrev StrV (v : Value) (y : Str) : Prop := ∃ t, v = .str y t
def isElem (k : Kid) : Bool := k.sort == "element"
def leafText (tx : Tx) (page : Int) (k : Kid) : Str := match kidTold page k with
  | some p => txAt tx p
  | none => ""
def signsOf (tx : Tx) (page : Int) : List Kid → List Str → List Str
  | [], _ => []
  | k :: ks, ts => if isElem k = true then (match ts with
      | t :: ts' => t :: signsOf tx page ks ts'
      | [] => []) else leafText tx page k :: signsOf tx page ks ts
theorem signsOf_elem (tx : Tx) (page : Int) {k : Kid} (hk : isElem k = true) (ks : List Kid) (t : Str) (ts : List Str) : signsOf tx page (k :: ks) (t :: ts) = t :: signsOf tx page ks ts := by
  conv => lhs; unfold signsOf
  rw [if_pos hk]
theorem signsOf_leaf (tx : Tx) (page : Int) {k : Kid} (hk : isElem k = false) (ks : List Kid) (ts : List Str) : signsOf tx page (k :: ks) ts = leafText tx page k :: signsOf tx page ks ts := by
  conv => lhs; unfold signsOf
  rw [if_neg (by rw [hk]; decide)]
def nElem (ks : List Kid) : Nat := (ks.filter isElem).length
theorem StrVs.are {vs : List Value} {ys : List Str} (h : All2 StrV vs ys) : StrsAre vs ys := by
  induction h with
  | nil => exact .nil
  | cons x _ ih => obtain ⟨t, rfl⟩ := x; exact .cons _ _ ih
theorem c_gathered {sh X d pl td ka : Addr} {rv dv av : Value} {kvs : List (Str × Value)} {page : Int} {ks : List Kid} {xs tvs : List Value} {ts : List Str} {tn : Nat} {tx : Tx} {tb : List (Int × Value)} {Q : Value → Sg → Prop} (hd : S.dp + 7 < recursionLimit) (hu : S.un + 100 < cLine) {M F : Led} (hl : Split σ.led ((ka, lstObj tvs tn) :: M) F) (hs : ShelfAt w F sh tb)
    (hX : Inst4 w.params 510 "reference" rv "head" (.ref d) "depth" dv "above" av X F) (hk : SDict w F d kvs) (hg : PgSh w F kvs page) (hp : Places w F pl) (hi : AreItems w F tb ks xs) (hK : KSh w F tb kvs xs) (hz : xs.length ≤ 1000)
    (hT : TextsAt w F td tx) (ht : All2 StrV tvs ts) (hn : ts.length = nElem ks) (hsum : ((signsOf tx page ks ts).map (·.length)).sum ≤ 16777216)
    (h : ∀ F' u tn', F <:+ F' → Q (.str (Txt.join "" (signsOf tx page ks ts)) u) { σ with led := ((ka, lstObj [] tn') :: M) ++ F' }) : W S σ (call (.ref 602) [.ref sh, .ref X, .ref pl, .ref td, .ref ka]) Q E := by
  refine W.callF [("kid_texts", .ref ka), ("texts", .ref td), ("places", .ref pl), ("element", .ref X), ("shelf", .ref sh)] hl.perm (by k_dflt k_is) (by k_dflt k_is) (by omega) (fun _ _ => BindsTo.of_eq rfl) (by rfl) (by decide +kernel) (by rfl) (by rfl) (by rfl) ?_
  intro S' hdp hun
  have hX' := hX
  obtain ⟨dX, nX, x1, x2, x3, x4, z1, z2⟩ := hX
  walk_at "w"
  rename_i sa
  refine c_items (by omega) (by walk_at "spl") hs hk hK fun F1 l n g1 m1 => ?_
  walk_at "w"
  rename_i I
  have hxk : xs.length = ks.length := hi.length
  have htn : tvs.length = ts.length := ht.length
  refine FLoop.itrF (Itr.list (l := l) (vs := xs) (k := n)) (fun i m A F' => ∃ svs sn tvs' tn' done ts', A = (sa, lstObj svs sn) :: (ka, lstObj tvs' tn') :: M ∧ F1 <:+ F' ∧ Has [("signs", .ref sa), ("kid_texts", .ref ka), ("texts", .ref td), ("places", .ref pl), ("element", .ref X), ("shelf", .ref sh)] m ∧ All2 StrV svs done ∧ All2 StrV tvs' ts' ∧ ts'.length = nElem (ks.drop i) ∧ done ++ signsOf tx page (ks.drop i) ts' = signsOf tx page ks ts ∧ done.length = i) rfl (fun _ _ hp q => hp.mem_iff.mpr q) (fun i m A F' ⟨_, _, _, _, _, _, e, s, _⟩ => by subst e; exact List.mem_append_right _ (s.subset m1)) ?_ ?_ ((sa, lstObj [] 0) :: (ka, lstObj tvs tn) :: M) _ (by walk_at "cn") ⟨[], 0, tvs, tn, [], ts, rfl, by walk_at "suf", by walk_at "has", .nil, ht, by simpa using hn, by simp, rfl⟩
  · rintro i v m A F' hi2 hv ⟨svs, sn, tvs', tn', done, ts', rfl, g3, hm, hsv, htv, hlen, heq, hdl⟩
    refine W.weak hm ?_
    obtain ⟨kd, hkd, hit⟩ := hi.get hv
    have hdrop : ks.drop i = kd :: ks.drop (i+1) := by
      obtain ⟨hlt, e⟩ := List.getElem?_eq_some_iff.mp hkd
      rw [List.drop_eq_getElem_cons hlt, e]
    have hsz : svs.length ≤ sizeLine := by
      rw [hsv.length, hdl]
      exact Nat.le_trans (show i ≤ 1000 by omega) (by decide)
    rw [hdrop] at hlen heq
    have hsort : Sort' w F tb v kd.sort := hit.sort
    walk_at "w"
    refine c_sort (by omega) (by walk_at "spl") (hs.grow (by walk_at "suf")) (hsort.grow (by walk_at "suf")) fun F2 t2 g2 => ?_
    walk_at "w"
    cases hk2 : isElem kd with
    | true =>
      refine ite_t hk2 ?_
      unfold nElem at hlen
      rw [List.filter_cons, if_pos hk2, List.length_cons] at hlen
      cases ts' with
      | nil => cases hlen
      | cons t ts'' =>
        rw [signsOf_elem tx page hk2] at heq
        obtain ⟨⟩ | @⟨y, _, p, _, ⟨ty, rfl⟩, htv'⟩ := htv
        have hpz : (Value.str t ty :: p).length ≤ sizeLine := by
          simp only [List.length_cons] at hlen ⊢
          rw [htv'.length]
          have : (List.filter isElem (ks.drop (i+1))).length ≤ ks.length := Nat.le_trans (List.length_filter_le _ _) (by rw [List.length_drop]; omega)
          exact Nat.le_trans (show _ ≤ 1001 by omega) (by decide)
        walk_at "w"
        exact ⟨rfl, _, _, by walk_at "cn", _, _, _, _, done ++ [t], ts'', rfl, by walk_at "suf", by walk_at "has", hsv.snoc ⟨ty, rfl⟩, htv', by simpa [nElem] using hlen, by rw [← heq, List.append_assoc]; rfl, by simp [hdl]⟩
    | false =>
      refine ite_f hk2 ?_
      rw [signsOf_leaf tx page hk2] at heq
      unfold nElem at hlen
      rw [List.filter_cons, if_neg (by rw [hk2]; decide)] at hlen
      walk_at "w"
      refine W.tMeth (hT.grow (by walk_at "suf")) ?_
      walk_at "w"
      refine c_told (page := page) (k := kd) (by omega) (by walk_at "spl") (hs.grow (by walk_at "suf")) (hX'.grow (by walk_at "suf")) (SDict.grow hk (by walk_at "suf")) (hg.grow (by walk_at "suf")) (Places.grow hp (by walk_at "suf")) (IsItem.more (by walk_at "suf") (fun _ _ e => e) hit) fun F3 r g3' hr => ?_
      walk_at "w"
      cases hkt : kidTold page kd with
      | none =>
        rw [hkt] at hr
        obtain rfl : r = .none := hr
        refine W.tGetN (hT.grow (by walk_at "suf")) ?_
        walk_at "w"
        have hleaf : leafText tx page kd = "" := by unfold leafText; rw [hkt]
        exact ⟨rfl, _, _, by walk_at "cn", _, _, _, _, done ++ [("" : Str)], ts', rfl, by walk_at "suf", by walk_at "has", hsv.snoc ⟨_, rfl⟩, htv, by simpa [nElem] using hlen, by rw [← heq, List.append_assoc, hleaf]; rfl, by simp [hdl]⟩
      | some pr =>
        obtain ⟨a, b⟩ := pr
        rw [hkt] at hr
        obtain ⟨Dt, t, t', rfl, mt⟩ := hr
        refine W.tGetT (hT.grow (by walk_at "suf")) (by omega) (by k_upd) fun u => ?_
        walk_at "w"
        have hleaf : leafText tx page kd = txAt tx (a, b) := by unfold leafText; rw [hkt]
        exact ⟨rfl, _, _, by walk_at "cn", _, _, _, _, done ++ [txAt tx (a, b)], ts', rfl, by walk_at "suf", by walk_at "has", hsv.snoc ⟨_, rfl⟩, htv, by simpa [nElem] using hlen, by rw [← heq, List.append_assoc, hleaf]; rfl, by simp [hdl]⟩
  · rintro m A F' ⟨svs, sn, tvs', tn', done, ts', rfl, g3, hm, hsv, htv, hlen, heq, hdl⟩
    refine W.weak hm ?_
    rw [hxk, List.drop_length] at hlen heq
    have e0 : ts' = [] := List.eq_nil_of_length_eq_zero (by simpa [nElem] using hlen)
    subst e0
    cases htv
    have e1 : done = signsOf tx page ks ts := by rw [← heq]; simp [signsOf]
    subst e1
    walk_at "w"
    refine W.joinL (by k_upd) (StrVs.are hsv) (by rw [show ("" : Str).length = 0 by decide, Nat.mul_zero, Nat.add_zero]; exact hsum) fun u => ?_
    walk_at "w"
    exact ⟨(ka, lstObj [] tn') :: M, _, by walk_at "cn", h _ u tn' (by walk_at "suf")⟩
mutual
def textK (tx : Tx) : Kid → Str
  | .elem _ page _ told _ ks => if told = true then "T" else Txt.join "" (textL tx page ks)
  | _ => ""
def textL (tx : Tx) (page : Int) : List Kid → List Str
  | [] => []
  | k :: ks => (if isElem k = true then textK tx k else leafText tx page k) :: textL tx page ks
end
theorem textL_cons (tx : Tx) (page : Int) (k : Kid) (ks : List Kid) : textL tx page (k :: ks) = (if isElem k = true then textK tx k else leafText tx page k) :: textL tx page ks := by rw [textL]
theorem signsOf_kids (tx : Tx) (page : Int) : ∀ ks : List Kid, signsOf tx page ks ((ks.filter isElem).map (textK tx)) = textL tx page ks
  | [] => by rw [textL]; rfl
  | k :: ks => by
    rw [textL_cons]
    cases hk : isElem k with
    | true => rw [List.filter_cons, if_pos hk, List.map_cons, signsOf_elem tx page hk, signsOf_kids tx page ks, if_pos rfl]
    | false => rw [List.filter_cons, if_neg (by rw [hk]; decide), signsOf_leaf tx page hk, signsOf_kids tx page ks, if_neg (by decide)]
def rowKid (r : Row) : Kid := .elem r.here r.page r.word r.told r.direct r.kids
def textR (tx : Tx) (r : Row) : Str := textK tx (rowKid r)
structure RowsOk (n : Nat) (a : Int) (es : List Kid) (R : List Row) : Prop where
  above : ∀ j r, R[j]? = some r → (r.above = a ∨ (n : Int) ≤ r.above) ∧ r.above < ((n + j : Nat) : Int)
  tops : (R.filter (fun r => r.above = a)).map rowKid = es
  sub : ∀ j r, R[j]? = some r → ((R.drop (j+1)).filter (fun r' => r'.above = ((n + j : Nat) : Int))).map rowKid = r.kids.filter isElem
theorem filter_none {R : List Row} {x : Int} (h : ∀ (j : Nat) (r : Row), R[j]? = some r → r.above ≠ x) : R.filter (fun r : Row => r.above = x) = [] := by
  rw [List.filter_eq_nil_iff]
  intro r hr q
  obtain ⟨j, hj⟩ := List.mem_iff_getElem?.mp hr
  exact h j r hj (by simpa using q)
theorem RowsOk.app {n : Nat} {a : Int} {es es' : List Kid} {R R' : List Row} (ha : a < n) (h : RowsOk n a es R) (h' : RowsOk (n + R.length) a es' R') : RowsOk n a (es ++ es') (R ++ R') where
  above := fun j r e => by
    by_cases hj : j < R.length
    · rw [List.getElem?_append_left hj] at e; exact h.above j r e
    · rw [List.getElem?_append_right (by omega)] at e
      have := h'.above _ r e
      push_cast at this ⊢
      omega
  tops := by rw [List.filter_append, List.map_append, h.tops, h'.tops]
  sub := fun j r e => by
    by_cases hj : j < R.length
    · rw [List.getElem?_append_left hj] at e
      rw [List.drop_append_of_le_length (by omega), List.filter_append, List.map_append, h.sub j r e]
      have : R'.filter (fun r' => r'.above = ((n + j : Nat) : Int)) = [] := filter_none fun i r' e' q => by
        have := h'.above i r' e'
        push_cast at this q
        omega
      rw [this]; simp
    · rw [List.getElem?_append_right (by omega)] at e
      have := h'.sub _ r e
      rw [show n + R.length + (j - R.length) = n + j by omega] at this
      rw [← this, List.drop_append, List.drop_of_length_le (by omega), List.nil_append]
      congr 3
      omega
mutual
theorem rowsK_ok : ∀ (k : Kid) (d a : Int) (n : Nat), a < n → RowsOk n a ([k].filter isElem) (rowsK k d a n)
  | .elem here page word told direct ks, d, a, n, ha => by
    have ih := rowsL_ok ks (d+1) n (n+1) (by push_cast; omega)
    unfold rowsK
    refine ⟨fun j r e => ?_, ?_, fun j r e => ?_⟩
    · cases j with
      | zero => simp at e; subst e; exact ⟨.inl rfl, by push_cast; omega⟩
      | succ j =>
        have := ih.above j r (by simpa using e)
        push_cast at this ⊢
        omega
    · rw [List.filter_cons, if_pos (by simp), filter_none (R := rowsL ks (d+1) n (n+1)) (fun j r e q => by
        have := ih.above j r e
        push_cast at this
        omega)]
      rfl
    · cases j with
      | zero =>
        simp at e; subst e
        rw [List.drop_succ_cons, List.drop_zero]
        exact ih.tops
      | succ j =>
        have := ih.sub j r (by simpa using e)
        rw [List.drop_succ_cons, ← this, show n + (j + 1) = n + 1 + j by omega]
  | .content _, d, a, n, ha => by unfold rowsK; exact ⟨fun j r e => by simp at e, rfl, fun j r e => by simp at e⟩
  | .mcrPg _ _, d, a, n, ha => by unfold rowsK; exact ⟨fun j r e => by simp at e, rfl, fun j r e => by simp at e⟩
  | .mcr _, d, a, n, ha => by unfold rowsK; exact ⟨fun j r e => by simp at e, rfl, fun j r e => by simp at e⟩
  | .objr _, d, a, n, ha => by unfold rowsK; exact ⟨fun j r e => by simp at e, rfl, fun j r e => by simp at e⟩
theorem rowsL_ok : ∀ (ks : List Kid) (d a : Int) (n : Nat), a < n → RowsOk n a (ks.filter isElem) (rowsL ks d a n)
  | [], d, a, n, ha => by unfold rowsL; exact ⟨fun j r e => by simp at e, rfl, fun j r e => by simp at e⟩
  | k :: ks, d, a, n, ha => by
    rw [rowsL_cons, show (k :: ks).filter isElem = [k].filter isElem ++ ks.filter isElem by rw [← List.filter_append]; rfl]
    exact (rowsK_ok k d a n ha).app ha (rowsL_ok ks d a (n + (rowsK k d a n).length) (by push_cast; omega))
end
/-- the texts that wait for row j -/
def kr (tx : Tx) (R : List Row) (j : Nat) (lo : Nat) : List Str := ((R.drop lo).filter (fun r => r.above = (j : Int))).map (textR tx)
theorem kr_step (tx : Tx) {R : List Row} {at' : Nat} {r : Row} (h : R[at']? = some r) (j : Nat) : kr tx R j at' = if r.above = (j : Int) then textR tx r :: kr tx R j (at' + 1) else kr tx R j (at' + 1) := by
  obtain ⟨hlt, e⟩ := List.getElem?_eq_some_iff.mp h
  unfold kr
  rw [List.drop_eq_getElem_cons hlt, e, List.filter_cons]
  by_cases q : r.above = (j : Int)
  · simp [q]
  · simp [q]
theorem kr_self (tx : Tx) {tops : List Kid} {at' : Nat} {r : Row} (h : (rowsL tops 0 (-1) 0)[at']? = some r) : kr tx (rowsL tops 0 (-1) 0) at' (at' + 1) = (r.kids.filter isElem).map (textK tx) := by
  have := (rowsL_ok tops 0 (-1) 0 (by decide)).sub at' r h
  rw [Nat.zero_add] at this
  unfold kr
  rw [← this, List.map_map]
  rfl
theorem above_lt {tops : List Kid} {at' : Nat} {r : Row} (h : (rowsL tops 0 (-1) 0)[at']? = some r) : -1 ≤ r.above ∧ r.above < (at' : Int) := by
  have := (rowsL_ok tops 0 (-1) 0 (by decide)).above at' r h
  push_cast at this
  omega
theorem textR_not (tx : Tx) {r : Row} (h : r.told = false) : textR tx r = Txt.join "" (textL tx r.page r.kids) := by
  show textK tx (.elem r.here r.page r.word r.told r.direct r.kids) = _
  rw [textK, h, if_neg (by decide)]
theorem textR_told (tx : Tx) {r : Row} (h : r.told = true) : textR tx r = "T" := by
  show textK tx (.elem r.here r.page r.word r.told r.direct r.kids) = _
  rw [textK, h, if_pos rfl]
theorem join_len (l : List Str) : (Txt.join "" l).length ≤ (l.map (·.length)).sum := by
  show (Builtin.Str.glued (Str.ofString "") l).length ≤ _
  rw [StrLaws.glued_eq_join]
  cases l with
  | nil => exact Nat.le_refl _
  | cons a r =>
    have z : (Str.ofString "").length = 0 := by decide
    rw [len_join_cons, z]
    simp
theorem range_dn {n : Nat} (h : n ≤ 256) : Builtin.Range.small ((n : Int) - 1) (-1) (-1) = true ∧ Builtin.Range.rangeSize ((n : Int) - 1) (-1) (-1) = (n : Int) := by
  have key : ∀ n ∈ List.range 257, Builtin.Range.small ((n : Int) - 1) (-1) (-1) = true ∧ Builtin.Range.rangeSize ((n : Int) - 1) (-1) (-1) = (n : Int) := by decide +kernel
  exact key n (List.mem_range.mpr (by omega))
theorem W.JoinP {env : Env} {Q : Flow → Sg → Prop} (P : Loc → Led → Prop) {t : Sem Flow} {rest : List Stmt} (h1 : W S σ t (fun f σ' => f = .next ∧ σ'.blk = σ.blk ∧ ∃ led', σ'.led.Perm led' ∧ P σ'.m led') E)
    (h2 : ∀ m led, P m led → W S ⟨m, σ.blk, led⟩ (execs rest env) Q E) : W S σ t (Sq S env rest Q E) E :=
  W.mono h1 fun _ σ' ⟨e1, e2, led', hc, p⟩ => by subst e1; obtain ⟨m, b, led⟩ := σ'; obtain rfl : b = σ.blk := e2; exact W.perm hc (h2 m led' p)
theorem W.itemLN {l : Addr} {vs : List Value} {n p : Nat} {t : Tok} {v : Value} {a b : Expr} {Q : Value → Sg → Prop} (hl : (l, lstObj vs n) ∈ σ.led) (hz : vs.length ≤ sizeLine) (hx : vs[p]? = some v) (h : Q v σ)
    (hs : subscripted b false (.ref l) (.int (p : Int) t) = PySem.operate [.ref l, .int (p : Int) t] (getItem (.ref l) (.int (p : Int) t))) : W S σ (subscriptTail a b (.ref l) (.int (p : Int) t)) Q E := by
  have hp : p < vs.length := (List.getElem?_eq_some_iff.mp hx).1
  have : sizeLine ≤ 2 ^ 62 := by decide
  exact W.itemL hl (by omega) (by omega) (by simpa using hx) h hs
/-- N objects -/
def kl (f : Nat → Addr × Obj) (N : Nat) : Led := (List.range N).map f
def klx (f : Nat → Addr × Obj) (N p : Nat) : Led := ((List.range N).filter (fun i => i ≠ p)).map f
theorem kl_perm (f : Nat → Addr × Obj) {N p : Nat} (h : p < N) : (kl f N).Perm (f p :: klx f N p) := by
  unfold kl klx
  have h1 : (List.range N).Perm (p :: (List.range N).filter (fun i => i ≠ p)) := by
    have hm : p ∈ List.range N := List.mem_range.mpr h
    have h2 := List.perm_cons_erase hm
    refine h2.trans (List.Perm.cons _ ?_)
    rw [List.Nodup.erase_eq_filter List.nodup_range]
    refine List.Perm.of_eq (List.filter_congr fun x _ => ?_)
    simp [bne]
    rfl
  exact h1.map f
theorem klx_congr {f g : Nat → Addr × Obj} {N p : Nat} (h : ∀ i, i ≠ p → f i = g i) : klx f N p = klx g N p := by
  unfold klx
  refine List.map_congr_left fun x hx => ?_
  exact h x (by simpa using (List.mem_filter.mp hx).2)
theorem kl_succ (f : Nat → Addr × Obj) (N : Nat) : kl f (N + 1) = kl f N ++ [f N] := by
  unfold kl
  rw [List.range_succ, List.map_append]; rfl
theorem kl_congr {f g : Nat → Addr × Obj} {N : Nat} (h : ∀ i, i < N → f i = g i) : kl f N = kl g N := by
  unfold kl
  exact List.map_congr_left fun x hx => h x (List.mem_range.mp hx)
def upd (f : Nat → Addr × Obj) (p : Nat) (o : Obj) : Nat → Addr × Obj := fun i => if i = p then ((f i).1, o) else f i
theorem kl_put (f : Nat → Addr × Obj) {N p : Nat} (h : p < N) (o : Obj) : (kl (upd f p o) N).Perm (((f p).1, o) :: klx f N p) := by
  have e1 := kl_perm (upd f p o) h
  rw [klx_congr (g := f) fun i hi => by unfold upd; rw [if_neg hi]] at e1
  have e2 : upd f p o p = ((f p).1, o) := by unfold upd; rw [if_pos rfl]
  rw [e2] at e1
  exact e1
theorem all2_of {g : Row → Str} : ∀ {rows : List Row} {fvs : List Value}, fvs.length = rows.length → (∀ (j : Nat) (r : Row), rows[j]? = some r → ∃ t, fvs[j]? = some (Value.str (g r) t)) → All2 StrV fvs (rows.map g)
  | [], [], _, _ => .nil
  | r :: rows, v :: fvs, hl, h => by
    obtain ⟨t, e⟩ := h 0 r rfl
    exact .cons ⟨t, by simpa using e⟩ (all2_of (by simpa using hl) fun j r' hr => by simpa using h (j+1) r' (by simpa using hr))
theorem c_texts {sh r10 td : Addr} {k10 : List (Str × Value)} {tops : List Kid} {xs : List Value} {tx : Tx} {tb : List (Int × Value)} {Q : Value → Sg → Prop} (hd : S.dp + 13 < recursionLimit) (hu : S.un + 200 < cLine) {M F : Led} (hl : Split σ.led M F) (hs : ShelfAt w F sh tb) (hp : PagesW w F tb)
    (hr : SRootW w F tb r10 k10) (hK : KSh w F tb k10 xs) (hA : AreItems w F tb tops xs) (hz : ksizes tops ≤ 200) (hn : (nums (rowsL tops 0 (-1) 0)).Nodup) (hT : TextsAt w F td tx)
    (hw : ∀ r ∈ rowsL tops 0 (-1) 0, r.kids.length ≤ 1000 ∧ ((textL tx r.page r.kids).map (·.length)).sum ≤ 16777216)
    (h : ∀ F' l n vs, F <:+ F' → (l, lstObj vs n) ∈ F' → All2 StrV vs ((rowsL tops 0 (-1) 0).map (textR tx)) → Q (.ref l) { σ with led := M ++ F' }) :
    W S σ (call (.ref 607) [.ref sh, .ref td]) Q E := by
  refine W.callF [("texts", .ref td), ("shelf", .ref sh)] hl.perm (by k_dflt k_is) (by k_dflt k_is) (by omega) (fun _ _ => BindsTo.of_eq rfl) (by rfl) (by decide +kernel) (by rfl) (by rfl) (by rfl) ?_
  intro S' hdp hun
  walk_at "w"
  refine c_places (by omega) (by omega) (by walk_at "spl") hs hp fun F1 pl t0 t1 g1 hpl => ?_
  walk_at "w"
  refine c_elements (by omega) (by omega) (by walk_at "spl") (hs.grow (by walk_at "suf")) (hr.grow (by walk_at "suf")) (hK.grow (by walk_at "suf")) (AreItems.more (by walk_at "suf") (fun _ _ e => e) hA) (Nat.le_trans hz (by decide)) hn fun F2 le ln evs g2 me hE => ?_
  have hEl : evs.length = (rowsL tops 0 (-1) 0).length := hE.length
  have hN : (rowsL tops 0 (-1) 0).length ≤ 200 := Nat.le_trans (rowsL_len tops 0 (-1) 0) hz
  generalize hrows : rowsL tops 0 (-1) 0 = rows at *
  have hez : evs.length ≤ sizeLine := by rw [hEl]; exact Nat.le_trans hN (by decide)
  walk_at "w"
  refine W.mulL (by k_upd) (by omega) (by omega) (by simp; omega) fun fa => ?_
  have eR : ∀ v : Value, (List.replicate (evs.length : Int).toNat [v]).flatten = List.replicate rows.length v := fun v => by
    rw [show (evs.length : Int).toNat = rows.length by omega]
    generalize rows.length = n
    induction n with
    | zero => rfl
    | succ n ih => rw [List.replicate_succ, List.flatten_cons, ih]; rfl
  rw [eR]
  walk_at "w"
  rename_i t00 D00 tq I0
  refine CStart.itr (Itr.list (l := le) (vs := evs) (k := ln)) (fun i vs led => ∃ f : Nat → Addr × Obj, led.Perm ((fa, lstObj (List.replicate rows.length (.str "" t00)) 0) :: (kl f i ++ M) ++ ((D00, lstObj [.str "" t00] 0) :: F2)) ∧ vs = (List.range i).map (fun j => .ref (f j).1) ∧ ∀ j, j < i → (f j).2 = lstObj [] 0) hez rfl (fun i vs led ⟨f, hp, _⟩ => hp.mem_iff.mpr (List.mem_append_right _ (.tail _ me))) ?_ ?_ ⟨fun _ => (0, default), (List.perm_middle.symm).cons _, rfl, fun j hj => absurd hj (Nat.not_lt_zero _)⟩
  · rintro i v vs led D C k hi hv ⟨f, hp, rfl, hf⟩ hz2
    walk_at "w"
    rename_i D'
    refine ⟨⟨_, rfl⟩, rfl, fun j => if j = i then (D', lstObj [] 0) else f j, ?_, ?_, ?_⟩
    · rw [kl_succ, kl_congr (g := f) fun j hj => if_neg (Nat.ne_of_lt hj)]
      refine (hp.cons _).trans ((List.Perm.swap _ _ _).trans (List.Perm.cons _ ?_))
      show ((D', lstObj [] 0) :: (kl f i ++ M ++ ((D00, lstObj [.str "" t00] 0) :: F2))).Perm (kl f i ++ [if i = i then (D', lstObj [] 0) else f i] ++ M ++ ((D00, lstObj [.str "" t00] 0) :: F2))
      rw [if_pos rfl]
      simp only [List.append_assoc, List.singleton_append]
      exact List.perm_middle.symm
    · rw [List.range_succ, List.map_append]
      congr 1
      · exact List.map_congr_left fun j hj => by dsimp only; rw [if_neg (Nat.ne_of_lt (List.mem_range.mp hj))]
      · simp
    · intro j hj
      dsimp only
      by_cases q : j = i
      · rw [if_pos q]
      · rw [if_neg q]; exact hf j (by omega)
  · rintro D vs k led ⟨f, hp, rfl, hf⟩
    rw [hEl] at hf hp
    rw [hEl]
    intro C mb
    walk_at "w"
    refine ⟨_, rfl, ?_⟩
    refine W.perm (List.Perm.cons _ hp) ?_
    refine W.perm (led' := (fa, lstObj (List.replicate rows.length (.str "" t00)) 0) :: (kl f rows.length ++ M) ++ ((D, lstObj ((List.range rows.length).map (fun j => .ref (f j).1)) k) :: (D00, lstObj [.str "" t00] 0) :: F2)) (List.perm_middle (l₁ := (fa, lstObj (List.replicate rows.length (.str "" t00)) 0) :: (kl f rows.length ++ M))).symm ?_
    dsimp only
    walk_at "w"
    obtain ⟨hsm, hrs⟩ := range_dn (n := rows.length) (by omega)
    refine W.range3 (by decide) (PyProof.noPylong_small (by decide)) fun rg t1' t2' t3' => ?_
    walk_at "w"
    refine W.iterR rows.length (by k_upd) (by rw [hEl]; exact hsm) (by rw [hEl]; exact hrs) fun I => ?_
    refine FLoop.itr (Itr.range (a := (evs.length : Int) - 1) (c := -1) (n := rows.length)) (fun i m led => ∃ (f' : Nat → Addr × Obj) (fvs : List Value) (fnn : Nat) (F' : Led), led.Perm ((fa, lstObj fvs fnn) :: (kl f' rows.length ++ M) ++ F') ∧ ((D, lstObj ((List.range rows.length).map (fun j => .ref (f j).1)) k) :: (D00, lstObj [.str "" t00] 0) :: F2) <:+ F' ∧ Has [("kid_rows", .ref D), ("found", .ref fa), ("rows", .ref le), ("places", .ref pl), ("texts", .ref td), ("shelf", .ref sh)] m ∧ fvs.length = rows.length ∧
      (∀ j r, rows.length - i ≤ j → rows[j]? = some r → ∃ t, fvs[j]? = some (.str (textR tx r) t)) ∧ (∀ j, (f' j).1 = (f j).1) ∧ (∀ j, j < rows.length → ∃ vs n, (f' j).2 = lstObj vs n ∧ (j < rows.length - i → All2 StrV vs (kr tx rows j (rows.length - i))))) rfl (fun _ _ _ _ => trivial) ?_ ?_ ?_
    · rintro i v m led hi ⟨tat, rfl⟩ ⟨f', fvs, fnn, F', hp', hsuf, hm, hfl, hfv, hf1, hf2⟩
      refine W.perm hp' (W.weak hm ?_)
      clear hp'
      obtain ⟨p, hpi⟩ : ∃ p, rows.length = i + (p + 1) := ⟨rows.length - i - 1, by omega⟩
      have hpN : p < rows.length := by omega
      have epi : (evs.length : Int) - 1 + (i : Int) * -1 = (p : Int) := by omega
      have hlo : rows.length - i = p + 1 := by omega
      have hlo' : rows.length - (i + 1) = p := by omega
      rw [hlo] at hfv hf2
      rw [epi]
      obtain ⟨r, hrow⟩ : ∃ r, rows[p]? = some r := ⟨rows[p], by simp [hpN]⟩
      obtain ⟨X, hXv, hX⟩ := hE.get' hrow
      have hsF2 : F2 <:+ F' := ((List.suffix_cons _ _).trans (List.suffix_cons _ _)).trans hsuf
      obtain ⟨X, rv, dX, kX, tX, tX', rfl, iX, kX1, hS, pX, toX, xsX, KX, AX⟩ := hX.grow hsF2
      walk_at "w"
      have hez' : evs.length ≤ sizeLine := hez
      have hfz : fvs.length ≤ sizeLine := by rw [hfl, ← hEl]; exact hez
      refine W.itemLN (vs := evs) (n := ln) (p := p) (v := .ref X) (by k_upd) hez hXv ?_ (by with_unfolding_all rfl)
      walk_at "w"
      refine c_own (told := r.told) (by omega) (by walk_at "spl") (hs.grow (by walk_at "suf")) (iX.grow (by walk_at "suf")) (SDict.grow kX1 (by walk_at "suf")) (toX.grow (by walk_at "suf")) fun F4 txt g4 hown => ?_
      refine W.storeL rfl (W.sNext (W.xCons (W.JoinP (fun m led => ∃ (f2 : Nat → Addr × Obj) (fvs2 : List Value) (F5 : Led), led = (fa, lstObj fvs2 fnn) :: (kl f2 rows.length ++ M) ++ F5 ∧ F4 <:+ F5 ∧ Has [("at", .int (p : Int) tat), ("kid_rows", .ref D), ("found", .ref fa), ("rows", .ref le), ("places", .ref pl), ("texts", .ref td), ("shelf", .ref sh)] m ∧
        (∃ t, fvs2 = fvs.set p (.str (textR tx r) t)) ∧ (∀ j, (f2 j).1 = (f j).1) ∧ (∀ j, j ≠ p → f2 j = f' j) ∧ ∃ vs n, (f2 p).2 = lstObj vs n) ?_ ?_)))
      · dsimp only
        walk_at "w"
        cases htd : r.told with
        | true =>
          rw [htd] at hown
          obtain ⟨tt, rfl⟩ := hown
          walk_at "w"
          refine W.setItemL .head (by omega) (by have : sizeLine ≤ 2 ^ 62 := by decide
                                                 omega) (by omega) ?_
          exact ⟨rfl, rfl, _, .refl _, f', _, F4, rfl, by walk_at "suf", by walk_at "has", ⟨tt, by rw [textR_told tx htd]; rfl⟩, hf1, fun _ _ => rfl, let ⟨vs, n, e, _⟩ := hf2 p hpN; ⟨vs, n, e⟩⟩
        | false =>
          rw [htd] at hown
          obtain rfl : txt = .none := hown
          have hmD : (D, lstObj ((List.range rows.length).map (fun j => .ref (f j).1)) k) ∈ F' := hsuf.subset (.head _)
          walk_at "w"
          refine W.itemLN (vs := evs) (n := ln) (p := p) (v := .ref X) (by k_upd) hez hXv ?_ (by with_unfolding_all rfl)
          walk_at "w"
          refine W.itemLN (vs := (List.range rows.length).map (fun j => .ref (f j).1)) (n := k) (p := p) (v := .ref (f p).1) (by k_upd) (by rw [List.length_map, List.length_range, ← hEl]; exact hez) (by rw [List.getElem?_map, List.getElem?_range hpN]; rfl) ?_ (by with_unfolding_all rfl)
          walk_at "w"
          obtain ⟨tvs, tn, htv, hkr⟩ := hf2 p hpN
          have efp : f' p = ((f p).1, lstObj tvs tn) := Prod.ext (hf1 p) htv
          have hpm : ((fa, lstObj fvs fnn) :: (kl f' rows.length ++ M ++ F4)).Perm ((((f p).1, lstObj tvs tn) :: (fa, lstObj fvs fnn) :: (klx f' rows.length p ++ M)) ++ F4) := by
            have := (((kl_perm f' hpN).append_right M).append_right F4).cons (fa, lstObj fvs fnn)
            rw [efp] at this
            exact this.trans (List.Perm.swap _ _ _)
          refine W.perm hpm ?_
          have hks : kr tx rows p (p + 1) = (r.kids.filter isElem).map (textK tx) := by
            subst hrows; exact kr_self tx hrow
          obtain ⟨hw1, hw2⟩ := hw r (List.mem_of_getElem? hrow)
          refine c_gathered (page := r.page) (ks := r.kids) (ts := kr tx rows p (p + 1)) (tx := tx) (by omega) (by omega) Split.app (hs.grow (by walk_at "suf")) (iX.grow (by walk_at "suf")) (SDict.grow kX1 (by walk_at "suf")) (pX.grow (by walk_at "suf")) (Places.grow ⟨t0, t1, hpl⟩ (by walk_at "suf")) (AreItems.more (by walk_at "suf") (fun _ _ e => e) AX) (KX.grow (by walk_at "suf")) (by rw [AX.length]; exact hw1) (hT.grow (by walk_at "suf")) (hkr (by omega)) (by rw [hks, List.length_map]; rfl) (by rw [hks, signsOf_kids]; exact hw2) fun F5 u tn' g5 => ?_
          rw [hks, signsOf_kids, ← textR_not tx htd]
          walk_at "w"
          refine W.setItemL (.tail .head) (by omega) (by have : sizeLine ≤ 2 ^ 62 := by decide
                                                         omega) (by omega) ?_
          refine ⟨rfl, rfl, (fa, lstObj (fvs.set p (.str (textR tx r) u)) fnn) :: (kl (upd f' p (lstObj [] tn')) rows.length ++ M) ++ F5, ?_, upd f' p (lstObj [] tn'), _, F5, rfl, by walk_at "suf", by walk_at "has", ⟨u, rfl⟩, fun j => ?_, fun j hj => ?_, [], tn', by unfold upd; rw [if_pos rfl]⟩
          · have := (((kl_put f' hpN (lstObj [] tn')).append_right M).append_right F5).cons (fa, lstObj (fvs.set p (.str (textR tx r) u)) fnn)
            rw [hf1 p] at this
            exact (List.Perm.swap _ _ _).trans this.symm
          · unfold upd
            by_cases q : j = p
            · rw [if_pos q]; exact hf1 j
            · rw [if_neg q]; exact hf1 j
          · unfold upd; rw [if_neg hj]
      · dsimp only
        rintro m led ⟨f2, fvs2, F5, rfl, g5, hm2, ⟨tt, rfl⟩, hf21, hf22, hf23⟩
        refine W.weak hm2 ?_
        obtain ⟨di, ni, ti1, ti2, ti3, ti4, ix1, ix2⟩ := id iX
        have hmD : (D, lstObj ((List.range rows.length).map (fun j => .ref (f j).1)) k) ∈ F' := hsuf.subset (.head _)
        have hab : -1 ≤ r.above ∧ r.above < (p : Int) := by subst hrows; exact above_lt hrow
        have hsl : (fvs.set p (Value.str (textR tx r) tt)).length = fvs.length := List.length_set
        have hfv' : ∀ j r', rows.length - (i + 1) ≤ j → rows[j]? = some r' → ∃ t, (fvs.set p (Value.str (textR tx r) tt))[j]? = some (.str (textR tx r') t) := by
          intro j r' hj hr'
          rw [hlo'] at hj
          by_cases q : j = p
          · subst q
            rw [hrow] at hr'; cases hr'
            exact ⟨tt, by rw [List.getElem?_set_self (by omega)]⟩
          · obtain ⟨t, e⟩ := hfv j r' (by omega) hr'
            exact ⟨t, by rw [List.getElem?_set_ne (Ne.symm q)]; exact e⟩
        walk_at "w"
        refine W.itemLN (vs := evs) (n := ln) (p := p) (v := .ref X) (by k_upd) hez hXv ?_ (by with_unfolding_all rfl)
        walk_at "w"
        refine ite_of (fun h0 => ?_) (fun h0 => ?_)
        · have h0' : 0 ≤ r.above := by simpa using h0
          obtain ⟨q, hq⟩ : ∃ q : Nat, r.above = (q : Int) := ⟨r.above.toNat, by omega⟩
          have hqp : q < p := by omega
          have hqN : q < rows.length := by omega
          walk_at "w"
          refine W.itemLN (vs := evs) (n := ln) (p := p) (v := .ref X) (by k_upd) hez hXv ?_ (by with_unfolding_all rfl)
          walk_at "w"
          rw [hq]
          refine W.itemLN (vs := (List.range rows.length).map (fun j => .ref (f j).1)) (n := k) (p := q) (v := .ref (f q).1) (by k_upd) (by rw [List.length_map, List.length_range, ← hEl]; exact hez) (by rw [List.getElem?_map, List.getElem?_range hqN]; rfl) ?_ (by with_unfolding_all rfl)
          obtain ⟨vsq, nq, hvq, hkq⟩ := hf2 q hqN
          have hkq' := hkq (by omega)
          have efq : f2 q = ((f q).1, lstObj vsq nq) := Prod.ext (hf21 q) (by rw [hf22 q (by omega)]; exact hvq)
          have hvqz : vsq.length ≤ sizeLine := by
            rw [hkq'.length]
            have : (kr tx rows q (p + 1)).length ≤ rows.length := by
              unfold kr
              rw [List.length_map]
              exact Nat.le_trans (List.length_filter_le _ _) (by rw [List.length_drop]; omega)
            exact Nat.le_trans this (by rw [← hEl]; exact hez)
          have hpm : ((fa, lstObj (fvs.set p (.str (textR tx r) tt)) fnn) :: (kl f2 rows.length ++ M ++ F5)).Perm (((f q).1, lstObj vsq nq) :: (fa, lstObj (fvs.set p (.str (textR tx r) tt)) fnn) :: (klx f2 rows.length q ++ M ++ F5)) := by
            have := (((kl_perm f2 hqN).append_right M).append_right F5).cons (fa, lstObj (fvs.set p (.str (textR tx r) tt)) fnn)
            rw [efq] at this
            exact this.trans (List.Perm.swap _ _ _)
          refine W.perm hpm ?_
          walk_at "w"
          refine W.itemLN (vs := fvs.set p (.str (textR tx r) tt)) (n := fnn) (p := p) (v := .str (textR tx r) tt) (.tail _ (.head _)) (by rw [hsl]; exact hfz) (List.getElem?_set_self (by omega)) ?_ (by with_unfolding_all rfl)
          walk_at "w"
          refine ⟨rfl, upd f2 q (lstObj (.str (textR tx r) tt :: vsq) (nq + 1)), _, fnn, F5, ?_, by walk_at "suf", by walk_at "has", by rw [hsl]; exact hfl, hfv', fun j => ?_, fun j hj => ?_⟩
          · have := (((kl_put f2 hqN (lstObj (.str (textR tx r) tt :: vsq) (nq + 1))).append_right M).append_right F5).cons (fa, lstObj (fvs.set p (.str (textR tx r) tt)) fnn)
            rw [hf21 q] at this
            exact (List.Perm.swap _ _ _).trans this.symm
          · unfold upd
            by_cases e : j = q
            · rw [if_pos e]; exact hf21 j
            · rw [if_neg e]; exact hf21 j
          · rw [hlo']
            by_cases e : j = q
            · subst e
              refine ⟨.str (textR tx r) tt :: vsq, nq + 1, by unfold upd; rw [if_pos rfl], fun _ => ?_⟩
              rw [kr_step tx hrow, if_pos hq]
              exact .cons ⟨tt, rfl⟩ hkq'
            · unfold upd
              rw [if_neg e]
              by_cases e2 : j = p
              · subst e2
                obtain ⟨vs, n, e3⟩ := hf23
                exact ⟨vs, n, e3, fun z => absurd z (Nat.lt_irrefl _)⟩
              · rw [hf22 j e2]
                obtain ⟨vs, n, e3, e4⟩ := hf2 j hj
                refine ⟨vs, n, e3, fun z => ?_⟩
                rw [kr_step tx hrow, if_neg (by rw [hq]; omega)]
                exact e4 (by omega)
        · have h0' : ¬ 0 ≤ r.above := by simpa using h0
          walk_at "w"
          refine ⟨rfl, f2, _, fnn, F5, .refl _, by walk_at "suf", by walk_at "has", by rw [hsl]; exact hfl, hfv', hf21, fun j hj => ?_⟩
          rw [hlo']
          by_cases e2 : j = p
          · subst e2
            obtain ⟨vs, n, e3⟩ := hf23
            exact ⟨vs, n, e3, fun z => absurd z (Nat.lt_irrefl _)⟩
          · rw [hf22 j e2]
            obtain ⟨vs, n, e3, e4⟩ := hf2 j hj
            refine ⟨vs, n, e3, fun z => ?_⟩
            rw [kr_step tx hrow, if_neg (by omega)]
            exact e4 (by omega)
    · rintro m led ⟨f', fvs, fnn, F', hp', hsuf, hm, hfl, hfv, hf1, hf2⟩
      have hsF2 : F2 <:+ F' := ((List.suffix_cons _ _).trans (List.suffix_cons _ _)).trans hsuf
      have hfin : ((fa, lstObj fvs fnn) :: (kl f' rows.length ++ M) ++ F').Perm (M ++ ((fa, lstObj fvs fnn) :: (kl f' rows.length ++ F'))) := by
        refine List.Perm.trans ?_ List.perm_middle.symm
        refine List.Perm.cons _ ?_
        rw [← List.append_assoc M]
        exact List.perm_append_comm.append_right F'
      refine W.perm (hp'.trans hfin) (W.weak hm ?_)
      walk_at "w"
      refine ⟨M, _, Cn.base, h _ fa fnn fvs (by walk_at "suf") (.head _) (all2_of hfl fun j r hr => ?_)⟩
      exact hfv j r (by omega) hr
    · refine ⟨f, List.replicate rows.length (.str "" t00), 0, (rg, rngObj (evs.length - 1) (-1) (-1) t1' t2' t3') :: (D, lstObj ((List.range rows.length).map (fun j => .ref (f j).1)) k) :: (D00, lstObj [.str "" t00] 0) :: F2, (List.Perm.swap _ _ _).trans (List.Perm.cons _ List.perm_middle.symm), List.suffix_cons _ _, by walk_at "has", by simp, fun j r hj hr => ?_, fun _ => rfl, fun j hj => ⟨[], 0, hf j hj, fun _ => ?_⟩⟩
      · have := (List.getElem?_eq_some_iff.mp hr).1
        omega
      · unfold kr
        rw [Nat.sub_zero, List.drop_length]
        exact .nil
/-- the pen: two numbers -/
def IsPen (o : Obj) : Prop := ∃ n c t u e, 0 ≤ n ∧ 0 ≤ c ∧ o = lstObj [.int n t, .int c u] e
theorem ints_get {vs : List Value} {ns : List Int} (h : IntsAre vs ns) : ∀ {i : Nat} {v : Value}, vs[i]? = some v → ∃ x t, v = .int x t := by
  induction h with
  | nil => intro i v e; simp at e
  | @cons n t vs ns _ ih =>
    intro i v e
    cases i with
    | zero => simp at e; exact ⟨_, _, e.symm⟩
    | succ i => exact ih (by simpa using e)
theorem c_pen {a : Addr} {vs : List Value} {ns : List Int} {Q : Value → Sg → Prop} (hd : S.dp + 2 < recursionLimit) {M F : Led} (hl : Split σ.led M F) (hb : S.h₀.IsList a vs.toArray) (hi : IntsAre vs ns) (hz : vs.length ≤ 63)
    (h : ∀ pa po F', IsPen po → F <:+ F' → Q (.ref pa) { σ with led := ((pa, po) :: M) ++ F' }) : W S σ (call (.ref 614) [.ref a]) Q E := by
  refine W.callFB [("script", .ref a)] hl.perm (by k_dflt k_is) (by k_dflt k_is) (by omega) (fun _ _ => BindsTo.of_eq rfl) (by rfl) (by decide +kernel) (by rfl) (by rfl) (by rfl) ?_
  intro S' hdp hun hgr
  walk_at "w"
  refine ⟨a, vs, 63, _, rfl, rfl, fun h' st => ?_, Nat.le_trans hz (by decide), fun D SL => ?_⟩
  · obtain ⟨o, ho, hc, n, hdt⟩ := hb
    exact ⟨o, st.keep _ _ (hgr _ _ ho), hc, n, hdt⟩
  walk_at "w"
  rename_i I
  refine FLoop.itrF (Itr.list (l := D) (vs := vs.take 63) (k := 0)) (fun i m A F' => A = M ∧ ((D, lstObj (vs.take 63) 0) :: SL :: F) <:+ F' ∧ ∃ n t, 0 ≤ n ∧ Has [("number", .int n t)] m) rfl (fun _ _ hp q => hp.mem_iff.mpr q) (fun i m A F' ⟨e, s, _⟩ => by subst e; exact List.mem_append_right _ (s.subset (.head _))) ?_ ?_ M _ (by walk_at "cn") ⟨rfl, by walk_at "suf", 103, _, by decide, by walk_at "has"⟩
  · rintro i v m A F' hi2 hv ⟨rfl, s2, n, t, hn, hm⟩
    refine W.weak hm ?_
    obtain ⟨x, tx, rfl⟩ : ∃ x tx, v = .int x tx := by
      rw [List.getElem?_take] at hv
      split at hv
      · exact ints_get hi hv
      · cases hv
    walk_at "w"
    refine ⟨rfl, _, _, by walk_at "cn", rfl, by walk_at "suf", _, _, ?_, by walk_at "has"⟩
    split <;> split <;> omega
  · rintro m A F' ⟨rfl, s2, n, t, hn, hm⟩
    refine W.weak hm ?_
    walk_at "w"
    rename_i t0 pa
    exact ⟨(pa, lstObj [.int n t, .int 0 t0] 0) :: A, _, by walk_at "cn", h pa _ _ ⟨n, 0, t, t0, 0, hn, by decide, rfl⟩ (by walk_at "suf")⟩
theorem c_draw {pa : Addr} {po : Obj} {many : Int} {tm : Tok} {Q : Value → Sg → Prop} (hd : S.dp + 1 < recursionLimit) {M F : Led} (hl : Split σ.led ((pa, po) :: M) F) (hp : IsPen po) (hm : 0 < many) (hm2 : many < 1000)
    (h : ∀ d td po', 0 ≤ d → d < many → IsPen po' → Q (.int d td) { σ with led := ((pa, po') :: M) ++ F }) : W S σ (call (.ref 621) [.ref pa, .int many tm]) Q E := by
  refine W.callF [("many", .int many tm), ("pen", .ref pa)] hl.perm (by k_dflt k_is) (by k_dflt k_is) (by omega) (fun _ _ => BindsTo.of_eq rfl) (by rfl) (by decide +kernel) (by rfl) (by rfl) (by rfl) ?_
  intro S' hdp hun
  obtain ⟨n, c, t, u, e, hn, hc, rfl⟩ := hp
  refine W.xCons (W.JoinF (fun m A F5 => ∃ n' c' t' u', 0 ≤ n' ∧ 0 ≤ c' ∧ A = (pa, lstObj [.int n' t', .int c' u'] e) :: M ∧ F5 = F ∧ Has [("many", .int many tm), ("pen", .ref pa)] m) ?_ ?_)
  · walk_at "w"
    refine ite_of (fun h0 => ?_) (fun h0 => ?_)
    · walk_at "w"
      exact ⟨rfl, rfl, (pa, _) :: M, F, by walk_at "cn", _, _, _, _, by omega, by omega, rfl, rfl, by walk_at "has"⟩
    · walk_at "w"
      exact ⟨rfl, rfl, (pa, _) :: M, F, by walk_at "cn", n, c, t, u, hn, hc, rfl, rfl, by walk_at "has"⟩
  · rintro m A F5 ⟨n', c', t', u', hn', hc', rfl, rfl, hmm⟩
    refine W.weak hmm ?_
    dsimp only
    walk_at "w"
    refine W.modI (by omega) fun t1 => ?_
    walk_at "w"
    refine W.divI (by omega) (PyProof.noPylong_small (by omega)) fun t2 => ?_
    walk_at "w"
    exact ⟨(pa, _) :: M, _, by walk_at "cn", h _ _ _ (Int.fmod_nonneg_of_pos _ hm) (Int.fmod_lt_of_pos _ hm) ⟨_, _, _, _, _, Int.fdiv_nonneg hn' (by omega), hc', rfl⟩⟩
theorem c_pick {pa sl : Addr} {po : Obj} {vs : List Value} {n : Nat} {Q : Value → Sg → Prop} (hd : S.dp + 2 < recursionLimit) {M F : Led} (hl : Split σ.led ((pa, po) :: M) F) (hp : IsPen po) (hs : (sl, lstObj vs n) ∈ F) (h0 : 0 < vs.length) (hz : vs.length < 1000)
    (h : ∀ (j : Nat) v po', vs[j]? = some v → IsPen po' → Q v { σ with led := ((pa, po') :: M) ++ F }) : W S σ (call (.ref 628) [.ref pa, .ref sl]) Q E := by
  refine W.callF [("some", .ref sl), ("pen", .ref pa)] hl.perm (by k_dflt k_is) (by k_dflt k_is) (by omega) (fun _ _ => BindsTo.of_eq rfl) (by rfl) (by decide +kernel) (by rfl) (by rfl) (by rfl) ?_
  intro S' hdp hun
  have hz' : vs.length ≤ sizeLine := Nat.le_trans (Nat.le_of_lt hz) (by decide)
  walk_at "w"
  refine c_draw (by omega) (by walk_at "spl") hp (by omega) (by omega) fun d td po' hd0 hd1 hp' => ?_
  obtain ⟨p, rfl⟩ : ∃ p : Nat, d = (p : Int) := ⟨d.toNat, by omega⟩
  refine W.itemLN (vs := vs) (n := n) (p := p) (v := vs[p]'(by omega)) (by k_upd) hz' (List.getElem?_eq_getElem (by omega)) ?_ (by with_unfolding_all rfl)
  walk_at "w"
  exact ⟨(pa, po') :: M, _, by walk_at "cn", h p _ po' (List.getElem?_eq_getElem (by omega)) hp'⟩
mutual
/-- how the law tells a kid -/
def IsDesc (F : Led) : Kid → Value → Prop
  | .content n, v => ∃ D t t', v = .ref D ∧ (D, tupObj [.str "content" t, .none, .int n t']) ∈ F
  | .mcrPg p n, v => ∃ D t t' t'', v = .ref D ∧ (D, tupObj [.str "content" t, .int p t'', .int n t']) ∈ F
  | .mcr n, v => ∃ D t t', v = .ref D ∧ (D, tupObj [.str "content" t, .none, .int n t']) ∈ F
  | .objr p, v => ∃ D t t' t'', v = .ref D ∧ (D, tupObj [.str "object" t, .int p t', .int 0 t'']) ∈ F
  | .elem here page word told _ kids, v => ∃ D t t1 t2 t3 l n vs, v = .ref D ∧ (D, tupObj [.str "element" t, .str word t1, .int page t2, .ref l, .bool told, .int here t3]) ∈ F ∧ (l, lstObj vs n) ∈ F ∧ AreDescs F kids vs
def AreDescs (F : Led) : List Kid → List Value → Prop
  | [], vs => vs = []
  | k :: ks, vs => ∃ v r, vs = v :: r ∧ IsDesc F k v ∧ AreDescs F ks r
end
mutual
theorem IsDesc.grow {F F' : Led} (s : F <:+ F') : ∀ {k : Kid} {v : Value}, IsDesc F k v → IsDesc F' k v
  | .content _, _, h => by unfold IsDesc at h ⊢; obtain ⟨D, t, t', e, m⟩ := h; exact ⟨D, t, t', e, s.subset m⟩
  | .mcrPg _ _, _, h => by unfold IsDesc at h ⊢; obtain ⟨D, t, t', t'', e, m⟩ := h; exact ⟨D, t, t', t'', e, s.subset m⟩
  | .mcr _, _, h => by unfold IsDesc at h ⊢; obtain ⟨D, t, t', e, m⟩ := h; exact ⟨D, t, t', e, s.subset m⟩
  | .objr _, _, h => by unfold IsDesc at h ⊢; obtain ⟨D, t, t', t'', e, m⟩ := h; exact ⟨D, t, t', t'', e, s.subset m⟩
  | .elem _ _ _ _ _ _, _, h => by
    unfold IsDesc at h ⊢
    obtain ⟨D, t, t1, t2, t3, l, n, vs, e, m1, m2, q⟩ := h
    exact ⟨D, t, t1, t2, t3, l, n, vs, e, s.subset m1, s.subset m2, AreDescs.grow s q⟩
theorem AreDescs.grow {F F' : Led} (s : F <:+ F') : ∀ {ks : List Kid} {vs : List Value}, AreDescs F ks vs → AreDescs F' ks vs
  | [], _, h => h
  | k :: ks, _, h => by
    unfold AreDescs at h ⊢
    obtain ⟨v, r, e, h1, h2⟩ := h
    exact ⟨v, r, e, IsDesc.grow s h1, AreDescs.grow s h2⟩
end
theorem AreDescs.of {F : Led} {ks : List Kid} {vs : List Value} (h : All2 (fun v k => IsDesc F k v) vs ks) : AreDescs F ks vs := by
  induction h with
  | nil => rfl
  | cons x _ ih => exact ⟨_, _, rfl, x, ih⟩
theorem AreItems.of {F : Led} {tb : List (Int × Value)} {ks : List Kid} {vs : List Value} (h : All2 (fun v k => IsItem w F tb k v) vs ks) : AreItems w F tb ks vs := by
  induction h with
  | nil => rfl
  | cons x _ ih => exact ⟨_, _, rfl, x, ih⟩
theorem AreDescs.all2 {F : Led} : ∀ {ks : List Kid} {vs : List Value}, AreDescs F ks vs → All2 (fun v k => IsDesc F k v) vs ks
  | [], _, h => by unfold AreDescs at h; subst h; exact .nil
  | k :: ks, _, h => by
    unfold AreDescs at h
    obtain ⟨v, r, rfl, h1, h2⟩ := h
    exact .cons h1 (AreDescs.all2 h2)
mutual
def hereK : Kid → List Int
  | .elem here _ _ _ _ ks => here :: hereL ks
  | _ => []
def hereL : List Kid → List Int
  | [] => []
  | k :: ks => hereK k ++ hereL ks
end
mutual
def wordsK : Kid → Prop
  | .elem _ _ word _ _ ks => IsWord word ∧ ks.length ≤ 3 ∧ wordsL ks
  | _ => True
def wordsL : List Kid → Prop
  | [] => True
  | k :: ks => wordsK k ∧ wordsL ks
end
structure KidOk (lo hi : Int) (cap : Nat) (k : Kid) : Prop where
  nd : (hereK k).Nodup
  rg : ∀ x ∈ hereK k, lo ≤ x ∧ x < hi
  sz : ksize k ≤ cap
  wd : wordsK k
structure KidsOk (lo hi : Int) (cap : Nat) (ks : List Kid) : Prop where
  nd : (hereL ks).Nodup
  rg : ∀ x ∈ hereL ks, lo ≤ x ∧ x < hi
  sz : ksizes ks ≤ cap
  wd : wordsL ks
theorem hereL_snoc (ks : List Kid) (k : Kid) : hereL (ks ++ [k]) = hereL ks ++ hereK k := by
  induction ks with
  | nil => show hereK k ++ [] = [] ++ hereK k; simp
  | cons x ks ih => show hereK x ++ hereL (ks ++ [k]) = (hereK x ++ hereL ks) ++ hereK k; rw [ih, List.append_assoc]
theorem ksizes_snoc (ks : List Kid) (k : Kid) : ksizes (ks ++ [k]) = ksizes ks + ksize k := by
  induction ks with
  | nil => show ksize k + ksizes [] = ksizes [] + ksize k; omega
  | cons x ks ih => show ksize x + ksizes (ks ++ [k]) = (ksize x + ksizes ks) + ksize k; rw [ih]; omega
theorem wordsL_snoc (ks : List Kid) (k : Kid) (h1 : wordsL ks) (h2 : wordsK k) : wordsL (ks ++ [k]) := by
  induction ks with
  | nil => exact ⟨h2, trivial⟩
  | cons x ks ih => exact ⟨h1.1, ih h1.2⟩
theorem KidsOk.snoc {lo mid hi : Int} {c1 c2 : Nat} {ks : List Kid} {k : Kid} (h1 : KidsOk lo mid c1 ks) (h2 : KidOk mid hi c2 k) (a : lo ≤ mid) (b : mid ≤ hi) : KidsOk lo hi (c1 + c2) (ks ++ [k]) where
  nd := by
    rw [hereL_snoc]
    exact List.nodup_append.mpr ⟨h1.nd, h2.nd, fun x hx y hy e => by
      have := h1.rg x hx
      have := h2.rg y hy
      omega⟩
  rg := fun x hx => by
    rw [hereL_snoc] at hx
    rcases List.mem_append.mp hx with q | q
    · have := h1.rg x q; omega
    · have := h2.rg x q; omega
  sz := by rw [ksizes_snoc]; have := h1.sz; have := h2.sz; omega
  wd := wordsL_snoc _ _ h1.wd h2.wd
theorem KidsOk.nil (lo hi : Int) : KidsOk lo hi 0 [] := ⟨List.nodup_nil, fun _ h => (nomatch h), Nat.le_refl _, trivial⟩
def wkv (n c : Int) (tn tc : Tok) (ta : Addr) : List (Str × Value) := [("next", .int n tn), ("content", .int c tc), ("table", .ref ta), ("may_be_direct", .bool true)]
/-- the pen, the world, its table, as they stand -/
structure WSt (w : World) (po wo to : Obj) (ta : Addr) (n c : Int) (tb : List (Int × Value)) : Prop where
  pen : IsPen po
  wor : ∃ tn tc, wo.IsDictOf (strKind PG w) (wkv n c tn tc ta)
  tab : to.IsDictOf (intKind PG w) tb
  lo : 20 ≤ n
  hi : n ≤ 500
  c0 : 0 ≤ c
  len : (tb.length : Int) + 20 ≤ n
  fresh : ∀ x, n ≤ x → valueAt tb x = none
structure Step (n c : Int) (tb : List (Int × Value)) (n' c' : Int) (tb' : List (Int × Value)) (cap : Nat) : Prop where
  n1 : n ≤ n'
  n2 : n' ≤ n + cap
  c1 : c ≤ c'
  same : ∀ x, x < n → valueAt tb' x = valueAt tb x
  ln : (tb'.length : Int) ≤ tb.length + (n' - n)
theorem Step.trans {n c n' c' n'' c'' : Int} {tb tb' tb'' : List (Int × Value)} {k k' : Nat} (a : Step n c tb n' c' tb' k) (b : Step n' c' tb' n'' c'' tb'' k') : Step n c tb n'' c'' tb'' (k + k') :=
  ⟨by have := a.n1; have := b.n1; omega, by have := a.n2; have := b.n2; push_cast; omega, by have := a.c1; have := b.c1; omega, fun x hx => by rw [b.same x (by have := a.n1; omega), a.same x hx], by have := a.ln; have := b.ln; omega⟩
theorem Step.tbs {n c n' c' : Int} {tb tb' : List (Int × Value)} {k : Nat} (a : Step n c tb n' c' tb' k) (hf : ∀ x, n ≤ x → valueAt tb x = none) : Tbs tb tb' := fun x v e => by
  by_cases h : x < n
  · rw [a.same x h]; exact e
  · rw [hf x (by omega)] at e; cases e
def capK (deep : Nat) : Nat := if deep = 0 then 13 else if deep = 1 then 4 else 1
def capE (deep : Nat) : Nat := 1 + 3 * capK deep
def KidV (w : World) (F : Led) (tb : List (Int × Value)) (v : Value) (k : Kid) : Prop := ∃ D iv dv, v = .ref D ∧ (D, tupObj [iv, dv]) ∈ F ∧ IsItem w F tb k iv ∧ IsDesc F k dv
theorem KidV.more {F F' : Led} {tb tb' : List (Int × Value)} {v : Value} {k : Kid} (h : KidV w F tb v k) (s : F <:+ F') (q : Tbs tb tb') : KidV w F' tb' v k :=
  let ⟨D, iv, dv, e, m, h1, h2⟩ := h; ⟨D, iv, dv, e, s.subset m, IsItem.more s q h1, IsDesc.grow s h2⟩
def ElC (w : World) (deep : Nat) : Prop := ∀ {fn : Fn} {S : Sit w fn} {σ : Sg} {E : Value → Heap → Prop} {pa wd ta : Addr} {po wo to : Obj} {n c : Int} {td : Tok} {tb : List (Int × Value)} {M F : Led} {Q : Value → Sg → Prop},
  S.dp + 20 < recursionLimit + 4 * deep → S.un + 60 < cLine + 10 * deep → Split σ.led ((pa, po) :: (wd, wo) :: (ta, to) :: M) F → WSt w po wo to ta n c tb → n + capE deep ≤ 500 →
  (∀ v F' po' wo' to' n' c' tb' kid, F <:+ F' → WSt w po' wo' to' ta n' c' tb' → Step n c tb n' c' tb' (capE deep) → KidV w F' tb' v kid → isElem kid = true → KidOk n n' (capE deep) kid → Q v { σ with led := ((pa, po') :: (wd, wo') :: (ta, to') :: M) ++ F' }) →
  W S σ (call (.ref 640) [.ref pa, .ref wd, .int (deep : Int) td]) Q E
def KidC (w : World) (deep : Nat) : Prop := ∀ {fn : Fn} {S : Sit w fn} {σ : Sg} {E : Value → Heap → Prop} {pa wd ta : Addr} {po wo to : Obj} {n c : Int} {td : Tok} {tb : List (Int × Value)} {M F : Led} {Q : Value → Sg → Prop},
  S.dp + 18 < recursionLimit + 4 * deep → S.un + 56 < cLine + 10 * deep → Split σ.led ((pa, po) :: (wd, wo) :: (ta, to) :: M) F → WSt w po wo to ta n c tb → n + capK deep ≤ 500 →
  (∀ v F' po' wo' to' n' c' tb' kid, F <:+ F' → WSt w po' wo' to' ta n' c' tb' → Step n c tb n' c' tb' (capK deep) → KidV w F' tb' v kid → KidOk n n' (capK deep) kid → Q v { σ with led := ((pa, po') :: (wd, wo') :: (ta, to') :: M) ++ F' }) →
  W S σ (call (.ref 635) [.ref pa, .ref wd, .int (deep : Int) td]) Q E
theorem WSt.bump {po wo to wo' : Obj} {ta : Addr} {n c : Int} {tb : List (Int × Value)} (h : WSt w po wo to ta n c tb) {tn tc : Tok} (q : wo'.IsDictOf (strKind PG w) (wkv n (c + 1) tn tc ta)) : WSt w po wo' to ta n (c + 1) tb :=
  ⟨h.pen, ⟨tn, tc, q⟩, h.tab, h.lo, h.hi, by have := h.c0; omega, h.len, h.fresh⟩
theorem leaf_ok {k : Kid} (n n' : Int) (cap : Nat) (hc : 1 ≤ cap) (h : isElem k = false) : KidOk n n' cap k := by
  cases k with
  | elem => cases h
  | _ => exact ⟨by rw [hereK] <;> simp, by rw [hereK] <;> simp, by rw [ksize] <;> first | exact hc | simp, trivial⟩
theorem wkv_len (n c : Int) (tn tc : Tok) (ta : Addr) : (wkv n c tn tc ta).length ≤ sizeLine := Nat.le_of_ble_eq_true rfl
theorem pages3 {p : Nat} (h : p < 3) : p = 0 ∨ p = 1 ∨ p = 2 := by omega
theorem kid_ok {deep : Nat} (hdeep : deep ≤ 2) (hE : deep < 2 → ElC w (deep + 1)) : KidC w deep := by
  intro fn S σ E pa wd ta po wo to n c td tb M F Q hd hu hl hs hcap h
  refine W.callF [("deep", .int (deep : Int) td), ("world", .ref wd), ("pen", .ref pa)] hl.perm (by k_dflt k_is) (by k_dflt k_is) (by omega) (fun _ _ => BindsTo.of_eq rfl) (by rfl) (by decide +kernel) (by rfl) (by rfl) (by rfl) ?_
  intro S' hdp hun
  obtain ⟨tn, tc, hwo⟩ := hs.wor
  refine W.xCons (W.JoinF (fun m A F5 => ∃ (d : Int) (t : Tok) (po' : Obj), IsPen po' ∧ 0 ≤ d ∧ d < 6 ∧ (2 ≤ deep → 1 ≤ d ∧ d ≤ 3) ∧ A = (pa, po') :: (wd, wo) :: (ta, to) :: M ∧ F5 = F ∧ Has [("way", .int d t), ("deep", .int (deep : Int) td), ("world", .ref wd), ("pen", .ref pa)] m) ?_ ?_)
  · walk_at "w"
    refine ite_of (fun h0 => ?_) (fun h0 => ?_)
    · have h0' : (deep : Int) < 2 := by simpa using h0
      walk_at "w"
      refine c_draw (by omega) (by walk_at "spl") hs.pen (by omega) (by omega) fun d tdd po' d0 d1 hp' => ?_
      walk_at "w"
      exact ⟨rfl, rfl, (pa, po') :: (wd, wo) :: (ta, to) :: M, F, by walk_at "cn", d, tdd, po', hp', d0, d1, fun z => by omega, rfl, rfl, by walk_at "has"⟩
    · walk_at "w"
      refine c_draw (by omega) (by walk_at "spl") hs.pen (by omega) (by omega) fun d tdd po' d0 d1 hp' => ?_
      walk_at "w"
      exact ⟨rfl, rfl, (pa, po') :: (wd, wo) :: (ta, to) :: M, F, by walk_at "cn", 1 + d, _, po', hp', by omega, by omega, fun z => by omega, rfl, rfl, by walk_at "has"⟩
  · rintro m A F5 ⟨d, t, po1, hp1, hd0, hd6, hd2, rfl, rfl, hm⟩
    refine W.weak hm ?_
    dsimp only
    walk_at "w"
    refine ite_of (fun h0 => ?_) (fun h0 => ?_)
    · have hd04 : d = 0 ∨ d = 4 := by
        simp at h0
        omega
      have hd2' : deep < 2 := by omega
      have ecap : capE (deep + 1) = capK deep := by
        have : deep = 0 ∨ deep = 1 := by omega
        rcases this with rfl | rfl <;> rfl
      walk_at "w"
      rw [show (deep : Int) + 1 = ((deep + 1 : Nat) : Int) by push_cast; rfl]
      refine W.cn (A := (pa, po1) :: (wd, wo) :: (ta, to) :: M) (by walk_at "cn") ?_
      dsimp only
      refine hE hd2' (by omega) (by omega) Split.app ⟨hp1, hs.wor, hs.tab, hs.lo, hs.hi, hs.c0, hs.len, hs.fresh⟩ (by rw [ecap]; exact hcap) fun v F' po' wo' to' n' c' tb' kid g hw' st hk he ho => ?_
      rw [ecap] at st ho
      walk_at "w"
      exact ⟨(pa, po') :: (wd, wo') :: (ta, to') :: M, _, by walk_at "cn", h v F' po' wo' to' n' c' tb' kid (by walk_at "suf") hw' st hk ho⟩
    · have hd04 : d ≠ 0 ∧ d ≠ 4 := by
        simp at h0
        omega
      have hwz := wkv_len n c tn tc ta
      walk_at "w"
      rename_i wo1 hwo1 t3
      refine W.cn (A := (pa, po1) :: (wd, wo1) :: (ta, to) :: M) (by walk_at "cn") ?_
      dsimp only
      refine c_draw (by omega) Split.app hp1 (by omega) (by omega) fun pg tpg po2 pg0 pg1 hp2 => ?_
      obtain ⟨p, rfl⟩ : ∃ p : Nat, pg = (p : Int) := ⟨pg.toNat, by omega⟩
      walk_at "w"
      refine c_Reference (by omega) (by walk_at "spl") fun r0 F6 g6 i0 => ?_
      walk_at "w"
      refine c_Reference (by omega) (by walk_at "spl") fun r1 F7 g7 i1 => ?_
      walk_at "w"
      refine c_Reference (by omega) (by walk_at "spl") fun r2 F8 g8 i2 => ?_
      have hw1 : WSt w po2 wo1 to ta n (c + 1) tb := ⟨hp2, ⟨_, _, hwo1⟩, hs.tab, hs.lo, hs.hi, by have := hs.c0; omega, hs.len, hs.fresh⟩
      have hst : Step n c tb n (c + 1) tb (capK deep) := ⟨by omega, by omega, by omega, fun _ _ => rfl, by omega⟩
      have hcap1 : 1 ≤ capK deep := by unfold capK; split <;> (try split) <;> omega
      walk_at "w"
      rename_i pl plo hpl
      refine ite_of (fun h1 => ?_) (fun h1 => ?_)
      · walk_at "w"
        rename_i Din Dout
        exact ⟨(pa, po2) :: (wd, wo1) :: (ta, to) :: M, _, by walk_at "cn", h (.ref Dout) _ po2 wo1 to n (c + 1) tb (.content c) (by walk_at "suf") hw1 hst ⟨Dout, .int c tc, .ref Din, rfl, by k_upd, by unfold IsItem; exact ⟨hs.c0, tc, rfl⟩, by unfold IsDesc; exact ⟨Din, _, _, rfl, by k_upd⟩⟩ (leaf_ok _ _ _ hcap1 rfl)⟩
      walk_at "w"
      refine ite_of (fun h2 => ?_) (fun h2 => ?_)
      · rcases pages3 (p := p) (by omega) with rfl | rfl | rfl
        · walk_at "w"
          refine c_Name (by omega) (by walk_at "spl") fun an F9 g9 in1 => ?_
          walk_at "w"
          exact ⟨(pa, po2) :: (wd, wo1) :: (ta, to) :: M, _, by walk_at "cn", h _ _ po2 wo1 to n (c + 1) tb (.mcrPg 0 c) (by walk_at "suf") hw1 hst ⟨_, _, _, rfl, by k_upd, by unfold IsItem; exact ⟨hs.c0, _, _, an, _, 3, _, rfl, ⟨_, by k_upd, by assumption⟩, rfl, ⟨_, in1.grow (by walk_at "suf")⟩, rfl, ⟨_, _, i0.grow (by walk_at "suf")⟩, by decide, rfl⟩, by unfold IsDesc; exact ⟨_, _, _, _, rfl, by k_upd⟩⟩ (leaf_ok _ _ _ hcap1 rfl)⟩
        · walk_at "w"
          refine c_Name (by omega) (by walk_at "spl") fun an F9 g9 in1 => ?_
          walk_at "w"
          exact ⟨(pa, po2) :: (wd, wo1) :: (ta, to) :: M, _, by walk_at "cn", h _ _ po2 wo1 to n (c + 1) tb (.mcrPg 1 c) (by walk_at "suf") hw1 hst ⟨_, _, _, rfl, by k_upd, by unfold IsItem; exact ⟨hs.c0, _, _, an, _, 4, _, rfl, ⟨_, by k_upd, by assumption⟩, rfl, ⟨_, in1.grow (by walk_at "suf")⟩, rfl, ⟨_, _, i1.grow (by walk_at "suf")⟩, by decide, rfl⟩, by unfold IsDesc; exact ⟨_, _, _, _, rfl, by k_upd⟩⟩ (leaf_ok _ _ _ hcap1 rfl)⟩
        · walk_at "w"
          refine c_Name (by omega) (by walk_at "spl") fun an F9 g9 in1 => ?_
          walk_at "w"
          exact ⟨(pa, po2) :: (wd, wo1) :: (ta, to) :: M, _, by walk_at "cn", h _ _ po2 wo1 to n (c + 1) tb (.mcrPg (-1) c) (by walk_at "suf") hw1 hst ⟨_, _, _, rfl, by k_upd, by unfold IsItem; exact ⟨hs.c0, _, _, an, _, 90, _, rfl, ⟨_, by k_upd, by assumption⟩, rfl, ⟨_, in1.grow (by walk_at "suf")⟩, rfl, ⟨_, _, i2.grow (by walk_at "suf")⟩, by decide, rfl⟩, by unfold IsDesc; exact ⟨_, _, _, _, rfl, by k_upd⟩⟩ (leaf_ok _ _ _ hcap1 rfl)⟩
      walk_at "w"
      refine ite_of (fun h3 => ?_) (fun h3 => ?_)
      · walk_at "w"
        refine c_Name (by omega) (by walk_at "spl") fun an F9 g9 in1 => ?_
        walk_at "w"
        exact ⟨(pa, po2) :: (wd, wo1) :: (ta, to) :: M, _, by walk_at "cn", h _ _ po2 wo1 to n (c + 1) tb (.mcr c) (by walk_at "suf") hw1 hst ⟨_, _, _, rfl, by k_upd, by unfold IsItem; exact ⟨hs.c0, _, _, an, _, rfl, ⟨_, by k_upd, by assumption⟩, rfl, ⟨_, in1.grow (by walk_at "suf")⟩, rfl, rfl⟩, by unfold IsDesc; exact ⟨_, _, _, rfl, by k_upd⟩⟩ (leaf_ok _ _ _ hcap1 rfl)⟩
      walk_at "w"
      refine c_Name (by omega) (by walk_at "spl") fun an F9 g9 in1 => ?_
      walk_at "w"
      refine c_Reference (by omega) (by walk_at "spl") fun r3 F10 g10 i3 => ?_
      walk_at "w"
      exact ⟨(pa, po2) :: (wd, wo1) :: (ta, to) :: M, _, by walk_at "cn", h _ _ po2 wo1 to n (c + 1) tb (.objr (5 + p)) (by walk_at "suf") hw1 hst ⟨_, _, _, rfl, by k_upd, by unfold IsItem; exact ⟨_, _, an, r3, rfl, ⟨_, by k_upd, by assumption⟩, rfl, ⟨_, in1.grow (by walk_at "suf")⟩, rfl, ⟨_, _, i3.grow (by walk_at "suf")⟩⟩, by unfold IsDesc; exact ⟨_, _, _, _, rfl, by k_upd⟩⟩ (leaf_ok _ _ _ hcap1 rfl)⟩
theorem W.IfExpJ {env : Env} {t a b : Expr} {pos : Pos} {Q : Value → Sg → Prop} (P : Value → Led → Led → Prop) (h1 : W S σ (eval (.IfExp t a b pos) env) (fun v σ' => σ'.m = σ.m ∧ σ'.blk = σ.blk ∧ ∃ A F, Cn σ'.led A F ∧ P v A F) E)
    (h2 : ∀ v A F, P v A F → Q v ⟨σ.m, σ.blk, A ++ F⟩) : W S σ (eval (.IfExp t a b pos) env) Q E :=
  W.postPerm h1 fun v σ' ⟨e1, e2, A, F, hc, p⟩ => by obtain ⟨m, bb, led⟩ := σ'; obtain rfl : m = σ.m := e1; obtain rfl : bb = σ.blk := e2; exact ⟨_, hc.perm, h2 v A F p⟩
theorem range_up {n : Nat} (h : n ≤ 30) : Builtin.Range.small 0 (n : Int) 1 = true ∧ Builtin.Range.rangeSize 0 (n : Int) 1 = (n : Int) := by
  have key : ∀ n ∈ List.range 31, Builtin.Range.small 0 (n : Int) 1 = true ∧ Builtin.Range.rangeSize 0 (n : Int) 1 = (n : Int) := by decide +kernel
  exact key n (List.mem_range.mpr (by omega))
theorem isiI_list {tb : List (Int × Value)} {k : Kid} {v : Value} {Q : Value → Sg → Prop} (hi : IsItem w σ.led tb k v) (h : Q (.bool false) σ) : W S σ (call (.builtin "isinstance") [v, .type "list"]) Q E := by
  cases k with
  | content n =>
    unfold IsItem at hi
    obtain ⟨_, t, rfl⟩ := hi
    walk_at "w"; exact h
  | mcrPg p n =>
    unfold IsItem at hi
    obtain ⟨_, d, kvs, _, _, _, _, rfl, ⟨o, h1, h2⟩, _⟩ := hi
    walk_at "w"; exact h
  | mcr n =>
    unfold IsItem at hi
    obtain ⟨_, d, kvs, _, _, rfl, ⟨o, h1, h2⟩, _⟩ := hi
    walk_at "w"; exact h
  | objr p =>
    unfold IsItem at hi
    obtain ⟨d, kvs, _, _, rfl, ⟨o, h1, h2⟩, _⟩ := hi
    walk_at "w"; exact h
  | elem here page word told direct kids =>
    unfold IsItem at hi
    obtain ⟨d, kvs, ⟨_, _, _, _, o, h1, h2⟩, hv, _⟩ := hi
    cases direct with
    | true => obtain rfl : v = .ref d := hv; walk_at "w"; exact h
    | false =>
      obtain ⟨a, rfl, _, _, _, _, _, _, r1, r2⟩ := hv
      walk_at "w"; exact h
theorem PgSh.of {F : Led} {kvs kvs' : List (Str × Value)} {p : Int} (h : PgSh w F kvs p) (e : valueAt kvs' "Pg" = valueAt kvs "Pg") : PgSh w F kvs' p := by
  cases h with
  | none q => exact .none (e.trans q)
  | ref q r => exact .ref (e.trans q) r
theorem stored_len' {kvs : List (Str × Value)} {k : Str} {v u : Value} (h : valueAt kvs k = some u) : (stored kvs k v).length = kvs.length := by
  unfold stored
  rw [valueAt_any, h, Option.isSome_some, if_pos rfl, List.length_map]
structure HeadF (w : World) (F : Led) (ho : Obj) (kvs : List (Str × Value)) (aS : Addr) (K : Option Value) (pgv : Int) : Prop where
  dict : ho.IsDictOf (strKind PG w) kvs
  len : kvs.length ≤ 4
  S : valueAt kvs "S" = some (.ref aS)
  T : valueAt kvs "Type" = none
  K : valueAt kvs "K" = K
  pg : PgSh w F kvs pgv
  at' : valueAt kvs "ActualText" = none
theorem HeadF.grow {F F' : Led} {ho : Obj} {kvs : List (Str × Value)} {aS : Addr} {K : Option Value} {pgv : Int} (h : HeadF w F ho kvs aS K pgv) (s : F <:+ F') : HeadF w F' ho kvs aS K pgv := ⟨h.dict, h.len, h.S, h.T, h.K, h.pg.grow s, h.at'⟩
def pgv (p : Int) : Int := if p < 2 then p else -1
theorem IsItem.res1 {F : Led} {tb : List (Int × Value)} {k : Kid} {v : Value} (h : IsItem w F tb k v) : ∃ u kk, Res1 w F tb v u ∧ PK w F u kk ∧ (kk == "array") = false ∧ (u == .none) = false := by
  cases k with
  | content n =>
    unfold IsItem at h
    obtain ⟨_, t, rfl⟩ := h
    exact ⟨_, _, .self .int, .int, rfl, rfl⟩
  | mcrPg p n =>
    unfold IsItem at h
    obtain ⟨_, d, kvs, _, _, _, _, rfl, h1, _⟩ := h
    exact ⟨_, _, .self h1.pk, h1.pk, rfl, rfl⟩
  | mcr n =>
    unfold IsItem at h
    obtain ⟨_, d, kvs, _, _, rfl, h1, _⟩ := h
    exact ⟨_, _, .self h1.pk, h1.pk, rfl, rfl⟩
  | objr p =>
    unfold IsItem at h
    obtain ⟨d, kvs, _, _, rfl, h1, _⟩ := h
    exact ⟨_, _, .self h1.pk, h1.pk, rfl, rfl⟩
  | elem here page word told direct kids =>
    unfold IsItem at h
    obtain ⟨d, kvs, ⟨tp, t, e1, e2, e3⟩, hv, _⟩ := h
    cases direct with
    | true => obtain rfl : v = .ref d := hv; exact ⟨_, _, .self e3.pk, e3.pk, rfl, rfl⟩
    | false =>
      obtain ⟨a, rfl, r⟩ := hv
      exact ⟨_, _, .hit r e1 e2 e3.pk, e3.pk, rfl, rfl⟩
theorem res1_one {F : Led} {tb : List (Int × Value)} {k : Kid} {v : Value} {kvs : List (Str × Value)} (e : valueAt kvs "K" = some v) (h : IsItem w F tb k v) : ∃ vs, KSh w F tb kvs vs ∧ AreItems w F tb [k] vs :=
  let ⟨_, _, q1, q2, q3, q4⟩ := h.res1
  ⟨[v], .one e q1 q2 q3 q4, v, [], rfl, h, rfl⟩
theorem el_ok {deep : Nat} (hdeep : deep ≤ 2) (hK : KidC w deep) : ElC w deep := by
  intro fn S σ E pa wd ta po wo to n c td tb M F Q hd hu hl hs hcap h
  refine W.callF [("deep", .int (deep : Int) td), ("world", .ref wd), ("pen", .ref pa)] hl.perm (by k_dflt k_is) (by k_dflt k_is) (by omega) (fun _ _ => BindsTo.of_eq rfl) (by rfl) (by decide +kernel) (by rfl) (by rfl) (by rfl) ?_
  intro S' hdp hun
  obtain ⟨tn, tc, hwo⟩ := hs.wor
  have hwz := wkv_len n c tn tc ta
  walk_at "w"
  refine W.AssignSwap2 (a := "page") (b := "word") ?_ rfl rfl
  walk_at "w"
  rename_i wo1 hwo1 t3
  refine c_draw (by omega) (by walk_at "spl") hs.pen (by omega) (by omega) fun pg tpg po2 pg0 pg1 hp2 => ?_
  walk_at "w"
  rename_i w1 w2 w3 w4 w5 w6 w7 wl
  refine W.cn (A := (pa, po2) :: (wd, wo1) :: (ta, to) :: M) (by walk_at "cn") ?_
  dsimp only
  refine c_pick (sl := wl) (by omega) Split.app hp2 (.head _) (by simp) (by simp) fun j v po3 hv hp3 => ?_
  obtain ⟨word, tw, rfl, hword⟩ : ∃ word tw, v = .str word tw ∧ IsWord word := by
    unfold IsWord
    match j with
    | 0 => exact ⟨_, _, (Option.some.inj hv).symm, .inl rfl⟩
    | 1 => exact ⟨_, _, (Option.some.inj hv).symm, .inr (.inl rfl)⟩
    | 2 => exact ⟨_, _, (Option.some.inj hv).symm, .inr (.inr (.inl rfl))⟩
    | 3 => exact ⟨_, _, (Option.some.inj hv).symm, .inr (.inr (.inr (.inl rfl)))⟩
    | 4 => exact ⟨_, _, (Option.some.inj hv).symm, .inr (.inr (.inr (.inr (.inl rfl))))⟩
    | 5 => exact ⟨_, _, (Option.some.inj hv).symm, .inr (.inr (.inr (.inr (.inr (.inl rfl)))))⟩
    | 6 => exact ⟨_, _, (Option.some.inj hv).symm, .inr (.inr (.inr (.inr (.inr (.inr rfl)))))⟩
    | j + 7 => simp at hv
  walk_at "w"
  refine ⟨_, _, _, rfl, .head _, ?_⟩
  walk_at "w"
  refine W.cn (A := (pa, po3) :: (wd, wo1) :: (ta, to) :: M) (by walk_at "cn") ?_
  dsimp only
  refine c_draw (by omega) Split.app hp3 (by omega) (by omega) fun dk tdk po4 dk0 dk1 hp4 => ?_
  obtain ⟨dn, rfl⟩ : ∃ p : Nat, dk = (p : Int) := ⟨dk.toNat, by omega⟩
  have hdn : dn ≤ 3 := by omega
  obtain ⟨hsm, hrs⟩ := range_up (n := dn) (by omega)
  walk_at "w"
  refine W.iterR dn (by k_upd) hsm hrs fun I => ?_
  rename_i rg tr1 tr2 tr3
  have hcapE : capE deep = 1 + 3 * capK deep := rfl
  have hw1 : WSt w po4 wo1 to ta (n + 1) c tb := ⟨hp4, ⟨_, _, hwo1⟩, hs.tab, by have := hs.lo; omega, by omega, hs.c0, by have := hs.len; omega, fun x hx => hs.fresh x (by omega)⟩
  refine CStart.itrF (Itr.range (a := 0) (c := 1) (n := dn)) (fun i vs A F' => ∃ po' wo' to' n' c' tb' ks, A = (pa, po') :: (wd, wo') :: (ta, to') :: M ∧ F <:+ F' ∧ WSt w po' wo' to' ta n' c' tb' ∧ Step (n + 1) c tb n' c' tb' (i * capK deep) ∧ All2 (KidV w F' tb') vs ks ∧ KidsOk (n + 1) n' (i * capK deep) ks ∧ vs.length = i) (Nat.le_trans hdn (by decide)) rfl (fun _ _ _ _ => trivial) (fun _ _ _ _ _ => trivial) ?_ ?_ ((pa, po4) :: (wd, wo1) :: (ta, to) :: M) _ (by walk_at "cn") ⟨po4, wo1, to, n + 1, c, tb, [], rfl, by walk_at "suf", hw1, ⟨by omega, by omega, by omega, fun _ _ => rfl, by omega⟩, .nil, by simpa using KidsOk.nil (n + 1) (n + 1), rfl⟩
  · rintro i v vs A F' D C k hi ⟨tv, rfl⟩ ⟨po', wo', to', n', c', tb', ks, rfl, g1, hw', hst, hv2, hks, hvl⟩ hz2
    have hcap3 : i * capK deep + capK deep ≤ 3 * capK deep := by
      have := Nat.mul_le_mul_right (capK deep) (show i + 1 ≤ 3 by omega)
      rw [Nat.succ_mul] at this
      exact this
    walk_at "w"
    refine hK (by omega) (by omega) (by walk_at "spl") hw' (by have := hst.n2; omega) fun v F2 po2' wo2' to2' n2 c2 tb2 kid g2 hw2 hst2 hkv hko => ?_
    refine ⟨⟨_, rfl⟩, rfl, (pa, po2') :: (wd, wo2') :: (ta, to2') :: M, F2, by walk_at "cn", po2', wo2', to2', n2, c2, tb2, ks ++ [kid], rfl, by walk_at "suf", hw2, ?_, ?_, ?_, by simp [hvl]⟩
    · rw [Nat.succ_mul]; exact hst.trans hst2
    · exact (hv2.mono fun _ _ q => q.more g2 (hst2.tbs hw'.fresh)).snoc hkv
    · rw [Nat.succ_mul]; exact hks.snoc hko hst.n1 hst2.n1
  · rintro D vs k A F' ⟨po', wo', to', n', c', tb', ks, rfl, g1, hw', hst, hv2, hks, hvl⟩
    have hcap3 : dn * capK deep ≤ 3 * capK deep := Nat.mul_le_mul_right _ hdn
    intro C mb
    walk_at "w"
    refine ⟨_, rfl, ?_⟩
    walk_at "w"
    refine W.frz D (by walk_at "ext") (by walk_at "spl") ?_
    dsimp only
    refine c_Name (by omega) (by walk_at "spl") fun aS F2 g2 iS => ?_
    have hkl : vs.length = ks.length := hv2.length
    have hvz : vs.length ≤ sizeLine := by rw [hvl]; exact Nat.le_trans hdn (by decide)
    walk_at "w"
    refine CStart.itrF (Itr.list (l := D) (vs := vs) (k := k)) (fun i us A F3 => A = (pa, po') :: (wd, wo') :: (ta, to') :: M ∧ F2 <:+ F3 ∧ All2 (fun v k => IsItem w F3 tb' k v) us (ks.take i)) hvz rfl (fun _ _ hp q => hp.mem_iff.mpr q) (fun i us A F3 ⟨e, s, _⟩ => by subst e; exact List.mem_append_right _ (s.subset (g2.subset (.head _)))) ?_ ?_ ((pa, po') :: (wd, wo') :: (ta, to') :: M) _ (by walk_at "cn") ⟨rfl, by walk_at "suf", .nil⟩
    · rintro i v us A F3 D2 C2 k2 hi hv ⟨rfl, g3, hI⟩ hz2
      obtain ⟨kd, hkd, Dk, iv, dv, rfl, mk, hki, hkd2⟩ := hv2.get hv
      have mk' : (Dk, tupObj [iv, dv]) ∈ F3 := List.IsSuffix.subset (show F' <:+ F3 by walk_at "suf") mk
      walk_at "w"
      refine ⟨⟨_, rfl⟩, rfl, _, _, by walk_at "cn", rfl, by walk_at "suf", ?_⟩
      rw [List.take_add_one, hkd]
      exact (hI.mono fun _ _ q => IsItem.more (by walk_at "suf") (fun _ _ e => e) q).snoc (IsItem.more (show F' <:+ _ by walk_at "suf") (fun _ _ e => e) hki)
    · rintro kl ivs k2 A F3 ⟨rfl, g3, hI⟩
      rw [hkl, List.take_length] at hI
      walk_at "ws"
      rename_i hdA tS tK I2 ho0 hho0
      have hil : ivs.length = ks.length := hI.length
      have hiz : ivs.length ≤ sizeLine := by rw [hil, ← hkl]; exact hvz
      refine W.cn (A := (hdA, ho0) :: (pa, po') :: (wd, wo') :: (ta, to') :: M) (by walk_at "cn") ?_
      dsimp only
      refine W.xCons (W.JoinF (fun m A F4 => ∃ ho kvs, A = (hdA, ho) :: (pa, po') :: (wd, wo') :: (ta, to') :: M ∧ ((kl, lstObj ivs k2) :: F3) <:+ F4 ∧ HeadF w F4 ho kvs aS (some (.ref kl)) (pgv pg) ∧ Has [("head", .ref hdA), ("kids", .ref D), ("page", .int pg tpg), ("word", .str word tw), ("here", .int n tn), ("deep", .int (deep : Int) td), ("world", .ref wd), ("pen", .ref pa)] m) ?_ ?_)
      · walk_at "w"
        refine ite_of (fun h1 => ?_) (fun h1 => ?_)
        · have h1' : pg < 2 := by simpa using h1
          walk_at "w"
          refine c_Reference (by omega) (by walk_at "spl") fun r F4 g4 ir => ?_
          walk_at "w"
          rename_i ho1 hho1
          have epg : pgOf (3 + pg) = pgv pg := by
            have : pg = 0 ∨ pg = 1 := by omega
            rcases this with rfl | rfl <;> decide
          exact ⟨rfl, rfl, (hdA, ho1) :: (pa, po') :: (wd, wo') :: (ta, to') :: M, _, by walk_at "cn", ho1, _, rfl, by walk_at "suf", ⟨hho1, Nat.le_of_ble_eq_true rfl, rfl, rfl, rfl, by rw [← epg]; exact .ref rfl ⟨_, _, ir.grow (by walk_at "suf")⟩, rfl⟩, by walk_at "has"⟩
        · have h1' : ¬ pg < 2 := by simpa using h1
          walk_at "w"
          exact ⟨rfl, rfl, (hdA, ho0) :: (pa, po') :: (wd, wo') :: (ta, to') :: M, _, by walk_at "cn", ho0, _, rfl, by walk_at "suf", ⟨hho0, Nat.le_of_ble_eq_true rfl, rfl, rfl, rfl, by unfold pgv; rw [if_neg h1']; exact .none rfl, rfl⟩, by walk_at "has"⟩
      rintro m A F4 ⟨ho1, kv1, rfl, g4, hH1, hm1⟩
      refine W.weak hm1 ?_
      dsimp only
      walk_at "w"
      refine W.cn (A := (pa, po') :: (hdA, ho1) :: (wd, wo') :: (ta, to') :: M) (by walk_at "cn") ?_
      dsimp only
      refine c_draw (by omega) Split.app hw'.pen (by omega) (by omega) fun fm tfm po5 fm0 fm1 hp5 => ?_
      refine W.storeL rfl (W.sNext (W.xCons (W.JoinF (fun m A F5 => ∃ ho kvs K', A = (hdA, ho) :: (pa, po5) :: (wd, wo') :: (ta, to') :: M ∧ F4 <:+ F5 ∧ HeadF w F5 ho kvs aS K' (pgv pg) ∧ (K' = some (.ref kl) ∨ ∃ v kd, ks = [kd] ∧ IsItem w F5 tb' kd v ∧ K' = some v) ∧ Has [("head", .ref hdA), ("kids", .ref D), ("page", .int pg tpg), ("word", .str word tw), ("here", .int n tn), ("deep", .int (deep : Int) td), ("world", .ref wd), ("pen", .ref pa)] m) ?_ ?_)))
      · have hz1 : kv1.length ≤ sizeLine := Nat.le_trans hH1.len (by decide)
        have hd1 := hH1.dict
        have eK1 := hH1.K
        dsimp only
        walk_at "w"
        refine ite_of (fun h1 => ?_) (fun h1 => ?_)
        · walk_at "w"
          refine ite_of (fun h2 => ?_) (fun h2 => ?_)
          · have hv1 : vs.length = 1 := by
              have : (vs.length : Int) = 1 := by simpa using h2
              omega
            obtain ⟨v0, rfl⟩ : ∃ v0, vs = [v0] := List.length_eq_one_iff.mp hv1
            obtain ⟨kd, hkd, D0, iv0, dv0, rfl, m0, hi0, _⟩ := hv2.get (i := 0) rfl
            obtain ⟨kd', rfl⟩ : ∃ k0, ks = [k0] := List.length_eq_one_iff.mp (by rw [← hkl]; rfl)
            obtain rfl : kd' = kd := Option.some.inj hkd
            have m0' : (D0, tupObj [iv0, dv0]) ∈ F4 := List.IsSuffix.subset (show F' <:+ F4 by walk_at "suf") m0
            walk_at "w"
            refine isiI_list (k := kd') (IsItem.more (show F' <:+ _ by walk_at "suf") (fun _ _ e => e) hi0) ?_
            walk_at "w"
            rename_i ho2 hho2
            exact ⟨rfl, rfl, (hdA, ho2) :: (pa, po5) :: (wd, wo') :: (ta, to') :: M, _, by walk_at "cn", ho2, _, _, rfl, by walk_at "suf", ⟨hho2, by rw [stored_len' eK1]; exact hH1.len, by rw [valueAt_stored]; exact hH1.S, by rw [valueAt_stored]; exact hH1.T, by rw [valueAt_stored]; rfl, (hH1.pg.grow (by walk_at "suf")).of (by rw [valueAt_stored]; rfl), by rw [valueAt_stored]; exact hH1.at'⟩, .inr ⟨iv0, kd', rfl, IsItem.more (show F' <:+ _ by walk_at "suf") (fun _ _ e => e) hi0, rfl⟩, by walk_at "has"⟩
          · walk_at "w"
            exact ⟨rfl, rfl, (hdA, ho1) :: (pa, po5) :: (wd, wo') :: (ta, to') :: M, _, by walk_at "cn", ho1, kv1, _, rfl, by walk_at "suf", hH1.grow (by walk_at "suf"), .inl rfl, by walk_at "has"⟩
        · walk_at "w"
          exact ⟨rfl, rfl, (hdA, ho1) :: (pa, po5) :: (wd, wo') :: (ta, to') :: M, _, by walk_at "cn", ho1, kv1, _, rfl, by walk_at "suf", hH1.grow (by walk_at "suf"), .inl rfl, by walk_at "has"⟩
      rintro m A F5 ⟨ho2, kv2, K2, rfl, g5, hH2, hK2, hm2⟩
      refine W.weak hm2 ?_
      dsimp only
      refine W.xCons (W.JoinF (fun m A F6 => ∃ ho kvs K', A = (hdA, ho) :: (pa, po5) :: (wd, wo') :: (ta, to') :: M ∧ F5 <:+ F6 ∧ HeadF w F6 ho kvs aS K' (pgv pg) ∧ ((ks = [] ∧ K' = none) ∨ (K' = some (.ref kl) ∨ ∃ v kd, ks = [kd] ∧ IsItem w F6 tb' kd v ∧ K' = some v)) ∧ Has [("head", .ref hdA), ("kids", .ref D), ("page", .int pg tpg), ("word", .str word tw), ("here", .int n tn), ("deep", .int (deep : Int) td), ("world", .ref wd), ("pen", .ref pa)] m) ?_ ?_)
      · have hz2 : kv2.length ≤ sizeLine := Nat.le_trans hH2.len (by decide)
        have hd2 := hH2.dict
        have eK2 := hH2.K
        dsimp only
        walk_at "w"
        cases vs with
        | nil =>
          obtain rfl : ks = [] := List.eq_nil_of_length_eq_zero hkl.symm
          obtain rfl : K2 = some (.ref kl) := by
            rcases hK2 with e | ⟨v, kd, e, _⟩
            · exact e
            · cases e
          walk_at "w"
          rename_i ho3 hho3
          exact ⟨rfl, rfl, (hdA, ho3) :: (pa, po5) :: (wd, wo') :: (ta, to') :: M, _, by walk_at "cn", ho3, _, _, rfl, by walk_at "suf", ⟨hho3, Nat.le_trans (without_len _ _) hH2.len, by rw [valueAt_without]; exact hH2.S, by rw [valueAt_without]; exact hH2.T, by rw [valueAt_without]; rfl, (hH2.pg.grow (by walk_at "suf")).of (by rw [valueAt_without]; rfl), by rw [valueAt_without]; exact hH2.at'⟩, .inl ⟨rfl, rfl⟩, by walk_at "has"⟩
        | cons v0 vr =>
          walk_at "w"
          exact ⟨rfl, rfl, (hdA, ho2) :: (pa, po5) :: (wd, wo') :: (ta, to') :: M, _, by walk_at "cn", ho2, kv2, K2, rfl, by walk_at "suf", hH2.grow (by walk_at "suf"), .inr (hK2.imp id fun ⟨v, kd, e, q, e2⟩ => ⟨v, kd, e, IsItem.more (by walk_at "suf") (fun _ _ e => e) q, e2⟩), by walk_at "has"⟩
      rintro m A F6 ⟨ho3, kv3, K3, rfl, g6, hH3, hK3, hm3⟩
      refine W.weak hm3 ?_
      dsimp only
      walk_at "w"
      refine W.cn (A := (pa, po5) :: (hdA, ho3) :: (wd, wo') :: (ta, to') :: M) (by walk_at "cn") ?_
      dsimp only
      refine c_draw (by omega) Split.app hp5 (by omega) (by omega) fun dt tdt po6 dt0 dt1 hp6 => ?_
      walk_at "ws"
      refine W.xCons (W.JoinF (fun m A F7 => ∃ ho kvs, A = (hdA, ho) :: (pa, po6) :: (wd, wo') :: (ta, to') :: M ∧ F6 <:+ F7 ∧ ho.IsDictOf (strKind PG w) kvs ∧ valueAt kvs "S" = some (.ref aS) ∧ valueAt kvs "Type" = none ∧ valueAt kvs "K" = K3 ∧ PgSh w F7 kvs (pgv pg) ∧ ToldAt w F7 kvs (dt == 0) ∧ Has (("is_told", .bool (dt == 0)) :: [("head", .ref hdA), ("kids", .ref D), ("page", .int pg tpg), ("word", .str word tw), ("here", .int n tn), ("deep", .int (deep : Int) td), ("world", .ref wd), ("pen", .ref pa)]) m) ?_ ?_)
      · have hz3 : kv3.length ≤ sizeLine := Nat.le_trans hH3.len (by decide)
        have hd3 := hH3.dict
        dsimp only
        walk_at "w"
        refine ite_of (fun h1 => ?_) (fun h1 => ?_)
        · walk_at "w"
          refine c_String (by omega) (by walk_at "spl") fun sa F7 g7 is7 => ?_
          walk_at "w"
          rename_i ho4 hho4
          exact ⟨rfl, rfl, (hdA, ho4) :: (pa, po6) :: (wd, wo') :: (ta, to') :: M, _, by walk_at "cn", ho4, _, rfl, by walk_at "suf", hho4, by rw [valueAt_stored]; exact hH3.S, by rw [valueAt_stored]; exact hH3.T, by rw [valueAt_stored]; exact hH3.K, (hH3.pg.grow (by walk_at "suf")).of (by rw [valueAt_stored]; rfl), by rw [h1]; exact ⟨sa, _, by rw [valueAt_stored]; rfl, is7.grow (by walk_at "suf")⟩, by rw [h1]; walk_at "has"⟩
        · walk_at "w"
          exact ⟨rfl, rfl, (hdA, ho3) :: (pa, po6) :: (wd, wo') :: (ta, to') :: M, _, by walk_at "cn", ho3, kv3, rfl, by walk_at "suf", hd3, hH3.S, hH3.T, hH3.K, hH3.pg.grow (by walk_at "suf"), by rw [h1]; exact hH3.at', by rw [h1]; walk_at "has"⟩
      rintro m A F7 ⟨ho4, kv4, rfl, g7, hd4, hpack⟩
      have hm4 := hpack.2.2.2.2.2
      refine W.weak hm4 ?_
      obtain ⟨tn', tc', hwo'⟩ := hw'.wor
      have htab := hw'.tab
      have htz : tb'.length ≤ sizeLine := by
        have h1 := hw'.len
        have h2 := hw'.hi
        exact Nat.le_trans (show tb'.length ≤ 500 by omega) (by decide)
      dsimp only
      refine W.xCons ?_
      refine W.AssignName ?_ rfl
      refine W.And2 ?_
      refine W.Subscript ?_
      walk_at "w1"
      walk_at "w1"
      refine W.dItemS (kvs := wkv n' c' tn' tc' ta) (o := wo') (v := .bool true) ?zz1 hwo' ?zz2 ?_ (by with_unfolding_all rfl) (by intro _; with_unfolding_all rfl)
      case zz1 => k_upd
      case zz2 => rfl
      walk_at "w"
      refine W.cn (A := (pa, po6) :: (hdA, ho4) :: (wd, wo') :: (ta, to') :: M) (by walk_at "cn") ?_
      dsimp only
      refine c_draw (by omega) Split.app hp6 (by omega) (by omega) fun dd tdd po7 dd0 dd1 hp7 => ?_
      walk_at "ws"
      refine W.xCons ?_
      refine W.AssignOne rfl ?_
      refine W.TupleE ?_
      walk_at "w1"
      walk_at "w1"
      walk_at "w1"
      walk_at "w1"
      walk_at "w1"
      walk_at "w1"
      walk_at "w1"
      refine W.Subscript ?_
      walk_at "w1"
      walk_at "w1"
      refine W.dItemS (kvs := wkv n' c' tn' tc' ta) (o := wo') (v := .ref ta) ?zz3 hwo' ?zz4 ?_ (by with_unfolding_all rfl) (by intro _; with_unfolding_all rfl)
      case zz3 => k_upd
      case zz4 => rfl
      walk_at "ws"
      rename_i tz tpa ttk to7 hto7
      refine W.cn (A := (pa, po7) :: (wd, wo') :: (ta, to7) :: M) (by walk_at "cn") ?_
      dsimp only
      refine W.xCons ?_
      walk_at "wx"
      refine W.IfExpJ (fun v A F9 => A = (pa, po7) :: (wd, wo') :: (ta, to7) :: M ∧ ((tpa, tupObj [.int 0 tz, .ref hdA]) :: (hdA, ho4) :: F7) <:+ F9 ∧ (if (dd == 0) = true then v = .ref hdA else ∃ a, v = .ref a ∧ RefAt w F9 a n)) ?_ ?_
      · walk_at "w"
        refine ite_of (fun h1 => ?_) (fun h1 => ?_)
        · walk_at "w"
          exact ⟨rfl, rfl, (pa, po7) :: (wd, wo') :: (ta, to7) :: M, _, by walk_at "cn", rfl, by walk_at "suf", by rw [h1]; rfl⟩
        · walk_at "w"
          refine c_Reference (by omega) (by walk_at "spl") fun r F9 g9 ir => ?_
          exact ⟨rfl, rfl, (pa, po7) :: (wd, wo') :: (ta, to7) :: M, _, by walk_at "cn", rfl, by walk_at "suf", by rw [h1]; exact ⟨_, rfl, _, _, ir⟩⟩
      rintro v0 A F9 ⟨rfl, g9, hv0⟩
      dsimp only
      walk_at "wx"
      refine W.IfExpJ (fun v A F10 => A = (pa, po7) :: (wd, wo') :: (ta, to7) :: M ∧ F9 <:+ F10 ∧ ∃ t, v = .int (pgv pg) t) ?_ ?_
      · walk_at "w"
        refine ite_of (fun h1 => ?_) (fun h1 => ?_)
        · have h1' : pg < 2 := by simpa using h1
          walk_at "w"
          exact ⟨rfl, rfl, (pa, po7) :: (wd, wo') :: (ta, to7) :: M, _, by walk_at "cn", rfl, by walk_at "suf", tpg, by unfold pgv; rw [if_pos h1']⟩
        · have h1' : ¬ pg < 2 := by simpa using h1
          walk_at "w"
          exact ⟨rfl, rfl, (pa, po7) :: (wd, wo') :: (ta, to7) :: M, _, by walk_at "cn", rfl, by walk_at "suf", _, by unfold pgv; rw [if_neg h1']⟩
      rintro v1 A F10 ⟨rfl, g10, tpv, rfl⟩
      dsimp only
      have mD : (D, lstObj vs k) ∈ F10 := List.IsSuffix.subset (show F2 <:+ F10 by walk_at "suf") (g2.subset (.head _))
      walk_at "w"
      refine CStart.itrF (Itr.list (l := D) (vs := vs) (k := k)) (fun i us A F11 => A = (pa, po7) :: (wd, wo') :: (ta, to7) :: M ∧ F10 <:+ F11 ∧ All2 (fun v k => IsDesc F11 k v) us (ks.take i)) hvz rfl (fun _ _ hp q => hp.mem_iff.mpr q) (fun i us A F3 ⟨e, s, _⟩ => by subst e; exact List.mem_append_right _ (s.subset mD)) ?_ ?_ ((pa, po7) :: (wd, wo') :: (ta, to7) :: M) _ (by walk_at "cn") ⟨rfl, by walk_at "suf", .nil⟩
      · rintro i v us A F11 D2 C2 k9 hi hv ⟨rfl, g11, hI2⟩ hz2
        obtain ⟨kd, hkd, Dk, iv, dv, rfl, mk, hki, hkd2⟩ := hv2.get hv
        have mk' : (Dk, tupObj [iv, dv]) ∈ F11 := List.IsSuffix.subset (show F' <:+ F11 by walk_at "suf") mk
        walk_at "w"
        refine ⟨⟨_, rfl⟩, rfl, _, _, by walk_at "cn", rfl, by walk_at "suf", ?_⟩
        rw [List.take_add_one, hkd]
        exact (hI2.mono fun _ _ q => IsDesc.grow (by walk_at "suf") q).snoc (IsDesc.grow (show F' <:+ _ by walk_at "suf") hkd2)
      · rintro dl dvs k9 A F11 ⟨rfl, g11, hI2⟩
        rw [hkl, List.take_length] at hI2
        walk_at "w"
        rename_i Dd Dt
        have hn0 : valueAt tb' n = none := by
          rw [hst.same n (by omega)]
          exact hs.fresh n (Int.le_refl _)
        have htbs : Tbs tb' (stored tb' n (.ref tpa)) := fun x v e => by
          rw [valueAt_stored, if_neg]
          · exact e
          · rintro rfl
            rw [hn0] at e; cases e
        obtain ⟨eS, eT, eK, ePg, eTo, _⟩ := hpack
        have n12 := hst.n1
        have n22 := hst.n2
        have c12 := hst.c1
        have hlo := hs.lo
        have hhi' := hw'.hi
        have eAt : valueAt (stored tb' n (.ref tpa)) n = some (.ref tpa) := by rw [valueAt_stored, if_pos rfl]
        refine ⟨(pa, po7) :: (wd, wo') :: (ta, to7) :: M, _, by walk_at "cn", h _ _ po7 wo' to7 n' c' (stored tb' n (.ref tpa)) (.elem n (pgv pg) word (dt == 0) (dd == 0) ks) (by walk_at "suf") ⟨hp7, ⟨tn', tc', hwo'⟩, hto7, hw'.lo, hw'.hi, hw'.c0, ?_, ?_⟩ ⟨by omega, by omega, c12, ?_, ?_⟩ ⟨Dt, v0, .ref Dd, rfl, by k_upd, ?_, ?_⟩ rfl ⟨?_, ?_, ?_, ?_⟩⟩
        · have := stored_len tb' n (.ref tpa)
          have := hw'.len
          have := hs.len
          have := hst.ln
          omega
        · intro x hx
          rw [valueAt_stored, if_neg (by omega)]
          exact hw'.fresh x hx
        · intro x hx
          rw [valueAt_stored, if_neg (by omega)]
          exact hst.same x (by omega)
        · have := stored_len tb' n (.ref tpa)
          have := hst.ln
          omega
        · unfold IsItem
          refine ⟨hdA, kv4, ⟨tpa, tz, eAt, by k_upd, ⟨ho4, by k_upd, hd4⟩⟩, ?_, eT, ⟨aS, eS, _, iS.grow (by walk_at "suf")⟩, ePg.grow (by walk_at "suf"), eTo.grow (by walk_at "suf"), ?_⟩
          · cases e : (dd == 0) with
            | true => rw [e] at hv0; exact hv0
            | false =>
              rw [e] at hv0
              obtain ⟨a, e1, r⟩ := hv0
              exact ⟨a, e1, RefAt.grow r (by walk_at "suf")⟩
          · rcases hK3 with ⟨e1, e2⟩ | e2 | ⟨v, kd, e1, hi0, e2⟩
            · subst e1
              cases hI
              exact ⟨[], .none (eK.trans e2), rfl⟩
            · exact ⟨ivs, .list (eK.trans e2) (by k_upd), AreItems.of (hI.mono fun _ _ q => IsItem.more (by walk_at "suf") htbs q)⟩
            · subst e1
              refine res1_one (eK.trans e2) (IsItem.more (by walk_at "suf") htbs hi0)
        · unfold IsDesc
          exact ⟨Dd, _, _, _, _, dl, _, _, rfl, by k_upd, by k_upd, AreDescs.of (hI2.mono fun _ _ q => IsDesc.grow (by walk_at "suf") q)⟩
        · unfold hereK
          refine List.nodup_cons.mpr ⟨fun z => ?_, hks.nd⟩
          have := hks.rg n z
          omega
        · unfold hereK
          intro x hx
          rcases List.mem_cons.mp hx with rfl | hx
          · omega
          · have := hks.rg x hx
            omega
        · unfold ksize
          have := hks.sz
          omega
        · exact ⟨hword, by omega, hks.wd⟩
theorem el0 : ElC w 0 := el_ok (by omega) (kid_ok (by omega) fun _ => el_ok (by omega) (kid_ok (by omega) fun _ => el_ok (by omega) (kid_ok (by omega) fun h => absurd h (by omega))))
theorem PagesW.more {F F' : Led} {tb tb' : List (Int × Value)} (h : PagesW w F tb) (s : F <:+ F') (q : Tbs tb tb') : PagesW w F' tb' := by
  obtain ⟨cat, a2, d2, l2, b3, b4, d3, d4, aT, aT3, aT4, nl, kcat, k2, k3, k4, h1, h2, h3, h4, h5, h6, h7, h8, h9, h10, h11, h12, h13, h14, h15, h16, h17, h18, h19, h20, h21, h22, h23, h24, h25, h26⟩ := h
  exact ⟨cat, a2, d2, l2, b3, b4, d3, d4, aT, aT3, aT4, nl, kcat, k2, k3, k4, h1.more s q, h2, RefAt.grow h3 s, h4.more s q, h5, NameAt.grow h6 s, h7, h8, h9, h10, h11, s.subset h12, RefAt.grow h13 s, RefAt.grow h14 s, h15.more s q, h16, NameAt.grow h17 s, h18, h19, h20, h21, h22, h23.more s q, h24, NameAt.grow h25 s, h26⟩
/-- the world as it is handed over: its shelf sh, the table's object ta (apart), the root r10 -/
structure WorldAt (w : World) (F : Led) (sh ta : Addr) (tb : List (Int × Value)) (tops : List Kid) (xs : List Value) (tp10 r10 : Addr) (k10 : List (Str × Value)) : Prop where
  shelf : ∃ tr kvs a, Inst2 w.params 363 "table" (.ref ta) "trailer" (.ref tr) sh F ∧ SDict w F tr kvs ∧ valueAt kvs "Root" = some (.ref a) ∧ RefAt w F a 1
  no10 : valueAt tb 10 = none
  len : tb.length ≤ 490
  pages : PagesW w F tb
  root : ∃ cat kcat a10, Entry w F tb 1 cat kcat ∧ valueAt kcat "StructTreeRoot" = some (.ref a10) ∧ RefAt w F a10 10
  tp : ∃ t, (tp10, tupObj [.int 0 t, .ref r10]) ∈ F
  r10 : SDict w F r10 k10
  roles : RolesAt w F k10
  K : ∃ kl n, valueAt k10 "K" = some (.ref kl) ∧ (kl, lstObj xs n) ∈ F
  k10 : k10.length ≤ 5
  items : AreItems w F tb tops xs
  sz : ksizes tops ≤ 80
  nd : (hereL tops).Nodup
  rg : ∀ x ∈ hereL tops, 20 ≤ x
  wd : wordsL tops
  el : ∀ k ∈ tops, isElem k = true
  ln : tops.length ≤ 2
theorem mul7 {d : Int} (h0 : 0 ≤ d) (h1 : d < 2) : IntMulOk 7 d := by
  have : d = 0 ∨ d = 1 := by omega
  rcases this with rfl | rfl <;> mul_fits
theorem stored_le {K : Type} [DecidableEq K] {kvs : List (K × Value)} {k : K} {v : Value} {m : Nat} (h : kvs.length ≤ m) : (stored kvs k v).length ≤ m + 1 := Nat.le_trans (stored_len kvs k v) (by omega)
theorem c_world {pa : Addr} {po : Obj} {Q : Value → Sg → Prop} (hd : S.dp + 30 < recursionLimit) (hu : S.un + 200 < cLine) {M F : Led} (hl : Split σ.led ((pa, po) :: M) F) (hp : IsPen po)
    (h : ∀ (F' : Led) (po' to : Obj) (R sh tds ta tp10 r10 : Addr) (dvs xs : List Value) (dn : Nat) (tb : List (Int × Value)) (tops : List Kid) (k10 : List (Str × Value)), F <:+ F' → IsPen po' → (R, tupObj [.ref sh, .ref tds]) ∈ F' → (tds, lstObj dvs dn) ∈ F' → AreDescs F' tops dvs →
      to.IsDictOf (intKind PG w) (stored tb 10 (.ref tp10)) → WorldAt w F' sh ta tb tops xs tp10 r10 k10 → Q (.ref R) { σ with led := ((pa, po') :: (ta, to) :: M) ++ F' }) :
    W S σ (call (.ref 645) [.ref pa, .bool true]) Q E := by
  refine W.callF [("may_be_direct", .bool true), ("pen", .ref pa)] hl.perm (by k_dflt k_is) (by k_dflt k_is) (by omega) (fun _ _ => BindsTo.of_eq rfl) (by rfl) (by decide +kernel) (by rfl) (by rfl) (by rfl) ?_
  intro S' hdp hun
  walk_at "w"
  rename_i wd w1 w2 w3 w4 w5 ta to hto0 hto w6 wo hwo0 w7
  have hwo : wo.IsDictOf (strKind PG w) (wkv 20 0 w2 w4 ta) := hwo0
  clear hwo0 hto0
  refine W.cn (A := (pa, po) :: (wd, wo) :: (ta, to) :: M) (by walk_at "cn") ?_
  dsimp only
  refine c_draw (by omega) Split.app hp (by omega) (by omega) fun dk tdk po1 dk0 dk1 hp1 => ?_
  obtain ⟨dn, rfl⟩ : ∃ p : Nat, dk = (p : Int) := ⟨dk.toNat, by omega⟩
  have hdn : dn ≤ 2 := by omega
  obtain ⟨hsm, hrs⟩ := range_up (n := dn) (by omega)
  walk_at "w"
  refine W.iterR dn (by k_upd) hsm hrs fun I => ?_
  have hcapE : capE 0 = 40 := rfl
  have hw1 : WSt w po1 wo to ta 20 0 [] := ⟨hp1, ⟨_, _, hwo⟩, hto, by omega, by omega, by omega, by simp, fun x hx => rfl⟩
  refine CStart.itrF (Itr.range (a := 0) (c := 1) (n := dn)) (fun i vs A F' => ∃ po' wo' to' n' c' tb' ks, A = (pa, po') :: (wd, wo') :: (ta, to') :: M ∧ F <:+ F' ∧ WSt w po' wo' to' ta n' c' tb' ∧ Step 20 0 [] n' c' tb' (i * capE 0) ∧ All2 (KidV w F' tb') vs ks ∧ KidsOk 20 n' (i * capE 0) ks ∧ vs.length = i ∧ (∀ k ∈ ks, isElem k = true)) (Nat.le_trans hdn (by decide)) rfl (fun _ _ _ _ => trivial) (fun _ _ _ _ _ => trivial) ?_ ?_ ((pa, po1) :: (wd, wo) :: (ta, to) :: M) _ (by walk_at "cn") ⟨po1, wo, to, 20, 0, [], [], rfl, by walk_at "suf", hw1, ⟨by omega, by omega, by omega, fun _ _ => rfl, by simp⟩, .nil, by simpa using KidsOk.nil 20 20, rfl, by simp⟩
  · rintro i v vs A F' D C k hi ⟨tv, rfl⟩ ⟨po', wo', to', n', c', tb', ks, rfl, g1, hw', hst, hv2, hks, hvl, hel⟩ hz2
    have hi2 : i ≤ 1 := by omega
    have hi3 : i * capE 0 ≤ 40 := by
      have := Nat.mul_le_mul_right (capE 0) hi2
      omega
    walk_at "w"
    refine el0 (by omega) (by omega) (by walk_at "spl") hw' (by have := hst.n2; omega) fun v F2 po2' wo2' to2' n2 c2 tb2 kid g2 hw2 hst2 hkv hke hko => ?_
    refine ⟨⟨_, rfl⟩, rfl, (pa, po2') :: (wd, wo2') :: (ta, to2') :: M, F2, by walk_at "cn", po2', wo2', to2', n2, c2, tb2, ks ++ [kid], rfl, by walk_at "suf", hw2, ?_, ?_, ?_, by simp [hvl], ?_⟩
    · rw [Nat.succ_mul]; exact hst.trans hst2
    · exact (hv2.mono fun _ _ q => q.more g2 (hst2.tbs hw'.fresh)).snoc hkv
    · rw [Nat.succ_mul]; exact hks.snoc hko hst.n1 hst2.n1
    · intro k hk
      rcases List.mem_append.mp hk with q | q
      · exact hel k q
      · obtain rfl := List.mem_singleton.mp q; exact hke
  · rintro D vs k A F' ⟨po', wo', to', n', c', tb', ks, rfl, g1, hw', hst, hv2, hks, hvl, hel⟩
    intro C mb
    walk_at "w"
    refine ⟨_, rfl, ?_⟩
    walk_at "w"
    refine W.frz D (by walk_at "ext") (by walk_at "spl") ?_
    dsimp only
    obtain ⟨tn', tc', hwo'⟩ := hw'.wor
    refine W.dItemS (kvs := wkv n' c' tn' tc' ta) (o := wo') (v := .ref ta) ?zz1 hwo' ?zz2 ?_ (by with_unfolding_all rfl) (by intro _; with_unfolding_all rfl)
    case zz1 => exact .tail _ (.head _)
    case zz2 => rfl
    walk_at "ws"
    have htab := hw'.tab
    refine W.cn (A := (ta, to') :: (pa, po') :: M) (by walk_at "cn") ?_
    dsimp only
    have hln : tb'.length ≤ 480 := by have := hw'.len; have := hw'.hi; omega
    have hz0 : tb'.length ≤ sizeLine := Nat.le_trans (show _ ≤ 500 by omega) (by decide)
    walk_at "w"
    rename_i tz1 dCat tz1a tz1b
    refine c_Name (by omega) (by walk_at "spl") fun aCat F1 g2 iCat => ?_
    walk_at "w"
    refine c_Reference (by omega) (by walk_at "spl") fun a2 F2 g3 i2 => ?_
    walk_at "w"
    refine c_Reference (by omega) (by walk_at "spl") fun a10 F3 g4 i10 => ?_
    walk_at "ws"
    rename_i oCat hCat tp1 tt1 to1 hto1
    obtain ⟨tb1, etb1⟩ : ∃ t, t = stored tb' 1 (.ref tp1) := ⟨_, rfl⟩
    rw [← etb1] at hto1
    have hl1 : tb1.length ≤ 481 := by rw [etb1]; exact stored_le hln
    have hz1 : tb1.length ≤ sizeLine := Nat.le_trans (show _ ≤ 500 by omega) (by decide)
    refine W.cn (A := (ta, to1) :: (pa, po') :: M) (by walk_at "cn") ?_
    dsimp only
    refine W.xCons ?_
    walk_at "ws"
    rename_i tz2 dPgs tz2a tz2b
    refine c_Name (by omega) (by walk_at "spl") fun aPgs F4 g5 iPgs => ?_
    walk_at "w"
    refine c_Reference (by omega) (by walk_at "spl") fun b3 F5 g6 i3 => ?_
    walk_at "w"
    refine c_Reference (by omega) (by walk_at "spl") fun b4 F6 g7 i4 => ?_
    walk_at "ws"
    rename_i l2 t2a t2b oPgs hPgs tp2 tt2 to2 hto2
    obtain ⟨tb2, etb2⟩ : ∃ t, t = stored tb1 2 (.ref tp2) := ⟨_, rfl⟩
    rw [← etb2] at hto2
    have hl2 : tb2.length ≤ 482 := by rw [etb2]; exact stored_le hl1
    have hz2 : tb2.length ≤ sizeLine := Nat.le_trans (show _ ≤ 500 by omega) (by decide)
    refine W.cn (A := (pa, po') :: (ta, to2) :: M) (by walk_at "cn") ?_
    dsimp only
    have hpC := hw'.pen
    refine W.xCons ?_
    walk_at "ws"
    rename_i tn3 tn4 Dn34 In34
    refine FLoop.turn (Itr.tuple (vs := [.int 3 tn3, .int 4 tn4])) 0 rfl (by simp) (by k_upd) fun v hv => ?_
    obtain rfl := Option.some.inj hv
    walk_at "w"
    rename_i tz3 dp3 tz3a tz3b
    refine W.cn (A := (pa, po') :: (ta, to2) :: M) (by walk_at "cn") ?_
    dsimp only
    refine c_Name (by omega) (by walk_at "spl") fun aT3 G3a gg3a iT3 => ?_
    walk_at "w"
    refine c_Reference (by omega) (by walk_at "spl") fun p3 G3b gg3b ip3 => ?_
    walk_at "w"
    refine c_draw (by omega) (by walk_at "spl") hpC (by omega) (by omega) fun ds3 tds3 po3 ds30 ds31 hp3 => ?_
    clear hpC
    have hpC := hp3
    refine W.mulI (mul7 ds30 ds31) fun tmm3 => ?_
    walk_at "w"
    rename_i od3 hod3 tp3 to3 hto3
    obtain ⟨tb3, etb3⟩ : ∃ t, t = stored tb2 3 (.ref tp3) := ⟨_, rfl⟩
    rw [← etb3] at hto3
    have hl3 : tb3.length ≤ 483 := by rw [etb3]; exact stored_le hl2
    have hz3 : tb3.length ≤ sizeLine := Nat.le_trans (show _ ≤ 500 by omega) (by decide)
    refine FLoop.turn (Itr.tuple (vs := [.int 3 tn3, .int 4 tn4])) 1 rfl (by simp) (by k_upd) fun v hv => ?_
    obtain rfl := Option.some.inj hv
    walk_at "w"
    rename_i tz4 dp4 tz4a tz4b
    refine W.cn (A := (pa, po3) :: (ta, to3) :: M) (by walk_at "cn") ?_
    dsimp only
    refine c_Name (by omega) (by walk_at "spl") fun aT4 G4a gg4a iT4 => ?_
    walk_at "w"
    refine c_Reference (by omega) (by walk_at "spl") fun p4 G4b gg4b ip4 => ?_
    walk_at "w"
    refine c_draw (by omega) (by walk_at "spl") hpC (by omega) (by omega) fun ds4 tds4 po4 ds40 ds41 hp4 => ?_
    clear hpC
    have hpC := hp4
    refine W.mulI (mul7 ds40 ds41) fun tmm4 => ?_
    walk_at "w"
    rename_i od4 hod4 tp4 to4 hto4
    obtain ⟨tb4, etb4⟩ : ∃ t, t = stored tb3 4 (.ref tp4) := ⟨_, rfl⟩
    rw [← etb4] at hto4
    have hl4 : tb4.length ≤ 484 := by rw [etb4]; exact stored_le hl3
    have hz4 : tb4.length ≤ sizeLine := Nat.le_trans (show _ ≤ 500 by omega) (by decide)
    refine FLoop.stop (Itr.tuple (vs := [.int 3 tn3, .int 4 tn4])) rfl (by k_upd) ?_
    walk_at "w"
    rename_i tn5 tn6 tn7 Dn57 In57
    refine FLoop.turn (Itr.tuple (vs := [.int 5 tn5, .int 6 tn6, .int 7 tn7])) 0 rfl (by simp) (by k_upd) fun v hv => ?_
    obtain rfl := Option.some.inj hv
    walk_at "w"
    refine W.cn (A := (ta, to4) :: (pa, po4) :: M) (by walk_at "cn") ?_
    dsimp only
    refine c_Name (by omega) (by walk_at "spl") fun aT5 G5a gg5a iT5 => ?_
    walk_at "w"
    rename_i od5 hod5 tp5 to5 hto5
    obtain ⟨tb5, etb5⟩ : ∃ t, t = stored tb4 5 (.ref tp5) := ⟨_, rfl⟩
    rw [← etb5] at hto5
    have hl5 : tb5.length ≤ 485 := by rw [etb5]; exact stored_le hl4
    have hz5 : tb5.length ≤ sizeLine := Nat.le_trans (show _ ≤ 500 by omega) (by decide)
    refine FLoop.turn (Itr.tuple (vs := [.int 5 tn5, .int 6 tn6, .int 7 tn7])) 1 rfl (by simp) (by k_upd) fun v hv => ?_
    obtain rfl := Option.some.inj hv
    walk_at "w"
    refine W.cn (A := (ta, to5) :: (pa, po4) :: M) (by walk_at "cn") ?_
    dsimp only
    refine c_Name (by omega) (by walk_at "spl") fun aT6 G6a gg6a iT6 => ?_
    walk_at "w"
    rename_i od6 hod6 tp6 to6 hto6
    obtain ⟨tb6, etb6⟩ : ∃ t, t = stored tb5 6 (.ref tp6) := ⟨_, rfl⟩
    rw [← etb6] at hto6
    have hl6 : tb6.length ≤ 486 := by rw [etb6]; exact stored_le hl5
    have hz6 : tb6.length ≤ sizeLine := Nat.le_trans (show _ ≤ 500 by omega) (by decide)
    refine FLoop.turn (Itr.tuple (vs := [.int 5 tn5, .int 6 tn6, .int 7 tn7])) 2 rfl (by simp) (by k_upd) fun v hv => ?_
    obtain rfl := Option.some.inj hv
    walk_at "w"
    refine W.cn (A := (ta, to6) :: (pa, po4) :: M) (by walk_at "cn") ?_
    dsimp only
    refine c_Name (by omega) (by walk_at "spl") fun aT7 G7a gg7a iT7 => ?_
    walk_at "w"
    rename_i od7 hod7 tp7 to7 hto7
    obtain ⟨tb7, etb7⟩ : ∃ t, t = stored tb6 7 (.ref tp7) := ⟨_, rfl⟩
    rw [← etb7] at hto7
    have hl7 : tb7.length ≤ 487 := by rw [etb7]; exact stored_le hl6
    have hz7 : tb7.length ≤ sizeLine := Nat.le_trans (show _ ≤ 500 by omega) (by decide)
    refine FLoop.stop (Itr.tuple (vs := [.int 5 tn5, .int 6 tn6, .int 7 tn7])) rfl (by k_upd) ?_
    walk_at "w"
    rename_i rolD rolt1 rolt2
    refine W.cn (A := (ta, to7) :: (pa, po4) :: M) (by walk_at "cn") ?_
    dsimp only
    refine c_Name (by omega) (by walk_at "spl") fun nA G8 gg8 inA => ?_
    walk_at "w"
    refine c_Name (by omega) (by walk_at "spl") fun nB G9 gg9 inB => ?_
    walk_at "w"
    refine c_Name (by omega) (by walk_at "spl") fun nX G10 gg10 inX => ?_
    walk_at "w"
    refine c_Name (by omega) (by walk_at "spl") fun nY G11 gg11 inY => ?_
    walk_at "ws"
    rename_i rolO hrol
    refine W.cn (A := (ta, to7) :: (pa, po4) :: M) (by walk_at "cn") ?_
    dsimp only
    refine W.xCons ?_
    walk_at "w"
    rename_i tz10 d10 tz10a tz10b
    refine c_Name (by omega) (by walk_at "spl") fun aSR G12 gg12 iSR => ?_
    walk_at "w"
    have hkl : vs.length = ks.length := hv2.length
    have hvz : vs.length ≤ sizeLine := by rw [hvl]; exact Nat.le_trans hdn (by decide)
    have mD : (D, lstObj vs k) ∈ G12 := List.IsSuffix.subset (show ((wd, wo') :: (D, lstObj vs k) :: F') <:+ G12 by walk_at "suf") (.tail _ (.head _))
    refine CStart.itrF (Itr.list (l := D) (vs := vs) (k := k)) (fun i us A F3 => A = (ta, to7) :: (pa, po4) :: M ∧ G12 <:+ F3 ∧ All2 (fun v k => IsItem w F3 tb' k v) us (ks.take i)) hvz rfl (fun _ _ hp q => hp.mem_iff.mpr q) (fun i us A F3 ⟨e, s, _⟩ => by subst e; exact List.mem_append_right _ (s.subset mD)) ?_ ?_ ((ta, to7) :: (pa, po4) :: M) _ (by walk_at "cn") ⟨rfl, by walk_at "suf", .nil⟩
    · rintro i v us A F3 D2 C2 k2 hi hv ⟨rfl, g3', hI⟩ hz2'
      obtain ⟨kd, hkd, Dk, iv, dv, rfl, mk, hki, hkd2⟩ := hv2.get hv
      have mk' : (Dk, tupObj [iv, dv]) ∈ F3 := List.IsSuffix.subset (show F' <:+ F3 by walk_at "suf") mk
      walk_at "w"
      refine ⟨⟨_, rfl⟩, rfl, _, _, by walk_at "cn", rfl, by walk_at "suf", ?_⟩
      rw [List.take_add_one, hkd]
      exact (hI.mono fun _ _ q => IsItem.more (by walk_at "suf") (fun _ _ e => e) q).snoc (IsItem.more (show F' <:+ _ by walk_at "suf") (fun _ _ e => e) hki)
    rintro kl ivs k2 A F3' ⟨rfl, g3', hI⟩
    rw [hkl, List.take_length] at hI
    walk_at "ws"
    rename_i o10 ho10 tp10 tt10 to10 hto10
    refine W.cn (A := (pa, po4) :: (ta, to10) :: M) (by walk_at "cn") ?_
    dsimp only
    refine W.xCons ?_
    walk_at "w"
    rename_i trD trt1 trt2 trt3
    refine c_Reference (by omega) (by walk_at "spl") fun aRoot G13 gg13 iRoot => ?_
    walk_at "w"
    rename_i tro htr
    refine c_Shelf (by omega) (by walk_at "spl") fun sh G14 gg14 iSh => ?_
    walk_at "w"
    have mD2 : (D, lstObj vs k) ∈ G14 := List.IsSuffix.subset (show G12 <:+ G14 by walk_at "suf") mD
    refine CStart.itrF (Itr.list (l := D) (vs := vs) (k := k)) (fun i us A F11 => A = (pa, po4) :: (ta, to10) :: M ∧ ((trD, tro) :: G14) <:+ F11 ∧ All2 (fun v k => IsDesc F11 k v) us (ks.take i)) hvz rfl (fun _ _ hp q => hp.mem_iff.mpr q) (fun i us A F3 ⟨e, s, _⟩ => by subst e; exact List.mem_append_right _ (s.subset (.tail _ mD2))) ?_ ?_ ((pa, po4) :: (ta, to10) :: M) _ (by walk_at "cn") ⟨rfl, by walk_at "suf", .nil⟩
    · rintro i v us A F11 D2 C2 k9 hi hv ⟨rfl, g11, hI2⟩ hz2'
      obtain ⟨kd, hkd, Dk, iv, dv, rfl, mk, hki, hkd2⟩ := hv2.get hv
      have mk' : (Dk, tupObj [iv, dv]) ∈ F11 := List.IsSuffix.subset (show F' <:+ F11 by walk_at "suf") mk
      walk_at "w"
      refine ⟨⟨_, rfl⟩, rfl, _, _, by walk_at "cn", rfl, by walk_at "suf", ?_⟩
      rw [List.take_add_one, hkd]
      exact (hI2.mono fun _ _ q => IsDesc.grow (by walk_at "suf") q).snoc (IsDesc.grow (show F' <:+ _ by walk_at "suf") hkd2)
    rintro dl dvs k9 A F11 ⟨rfl, g11, hI2⟩
    rw [hkl, List.take_length] at hI2
    walk_at "w"
    rename_i Rr
    have hnone : ∀ x : Int, x < 20 → valueAt tb' x = none := fun x hx => by rw [hst.same x hx]; rfl
    have e7 : ∀ x, valueAt tb7 x = if x = 7 then some (.ref tp7) else if x = 6 then some (.ref tp6) else if x = 5 then some (.ref tp5) else if x = 4 then some (.ref tp4) else if x = 3 then some (.ref tp3) else if x = 2 then some (.ref tp2) else if x = 1 then some (.ref tp1) else valueAt tb' x := fun x => by
      rw [etb7, valueAt_stored, etb6, valueAt_stored, etb5, valueAt_stored, etb4, valueAt_stored, etb3, valueAt_stored, etb2, valueAt_stored, etb1, valueAt_stored]
    have htbs : Tbs tb' tb7 := fun x v e => by
      have hx : 20 ≤ x := by
        rcases Int.lt_or_le x 20 with q | q
        · rw [hnone x q] at e; cases e
        · exact q
      rw [e7, if_neg (by omega), if_neg (by omega), if_neg (by omega), if_neg (by omega), if_neg (by omega), if_neg (by omega), if_neg (by omega)]
      exact e
    have v1 : valueAt tb7 1 = some (.ref tp1) := by rw [e7]; rfl
    have v2 : valueAt tb7 2 = some (.ref tp2) := by rw [e7]; rfl
    have v3 : valueAt tb7 3 = some (.ref tp3) := by rw [e7]; rfl
    have v4 : valueAt tb7 4 = some (.ref tp4) := by rw [e7]; rfl
    have v10 : valueAt tb7 10 = none := by rw [e7]; exact hnone 10 (by decide)
    have hcap2 : dn * capE 0 ≤ 80 := by
      have := Nat.mul_le_mul_right (capE 0) hdn
      omega
    refine ⟨(pa, po4) :: (ta, to10) :: M, _, by walk_at "cn", h _ po4 to10 Rr sh dl ta tp10 d10 dvs ivs k9 tb7 ks _ (by walk_at "suf") hpC (by k_upd) (by k_upd) (AreDescs.of (hI2.mono fun _ _ q => IsDesc.grow (by walk_at "suf") q)) hto10 ⟨?_, v10, by omega, ?_, ?_, ⟨tz10, by k_upd⟩, ⟨o10, by k_upd, ho10⟩, ?_, ⟨kl, k2, rfl, by k_upd⟩, Nat.le_of_ble_eq_true rfl, ?_, Nat.le_trans hks.sz hcap2, hks.nd, fun x hx => (hks.rg x hx).1, hks.wd, hel, by omega⟩⟩
    · exact ⟨trD, _, aRoot, iSh.grow (by walk_at "suf"), ⟨tro, List.IsSuffix.subset (show ((trD, tro) :: G14) <:+ _ by walk_at "suf") (.head _), htr⟩, rfl, ⟨_, _, iRoot.grow (by walk_at "suf")⟩⟩
    · exact ⟨dCat, a2, dPgs, l2, b3, b4, dp3, dp4, aPgs, aT3, aT4, 0, _, _, _, _, ⟨tp1, tz1, v1, by k_upd, oCat, by k_upd, hCat⟩, rfl, ⟨_, _, i2.grow (by walk_at "suf")⟩, ⟨tp2, tz2, v2, by k_upd, oPgs, by k_upd, hPgs⟩, rfl, ⟨_, iPgs.grow (by walk_at "suf")⟩, rfl, rfl, rfl, rfl, rfl, by k_upd, ⟨_, _, i3.grow (by walk_at "suf")⟩, ⟨_, _, i4.grow (by walk_at "suf")⟩,
        ⟨tp3, tz3, v3, by k_upd, od3, by k_upd, hod3⟩, rfl, ⟨_, iT3.grow (by walk_at "suf")⟩, rfl, rfl, rfl, rfl, Nat.le_of_ble_eq_true rfl, ⟨tp4, tz4, v4, by k_upd, od4, by k_upd, hod4⟩, rfl, ⟨_, iT4.grow (by walk_at "suf")⟩, rfl, rfl, rfl, rfl, Nat.le_of_ble_eq_true rfl⟩
    · exact ⟨dCat, _, a10, ⟨tp1, tz1, v1, by k_upd, oCat, by k_upd, hCat⟩, rfl, ⟨_, _, i10.grow (by walk_at "suf")⟩⟩
    · exact ⟨rolD, nA, nB, nX, nY, _, rfl, ⟨rolO, by k_upd, hrol⟩, ⟨_, inA.grow (by walk_at "suf")⟩, ⟨_, inB.grow (by walk_at "suf")⟩, ⟨_, inX.grow (by walk_at "suf")⟩, ⟨_, inY.grow (by walk_at "suf")⟩⟩
    · exact AreItems.of (hI.mono fun _ _ q => IsItem.more (by walk_at "suf") htbs q)
theorem rowsL_nil (d a : Int) (n : Nat) : rowsL [] d a n = [] := by rw [rowsL]
theorem rowsL_snoc (k : Kid) (d a : Int) : ∀ (ks : List Kid) (n : Nat), rowsL (ks ++ [k]) d a n = rowsL ks d a n ++ rowsK k d a (n + (rowsL ks d a n).length)
  | [], n => by
    show rowsL [k] d a n = _
    rw [rowsL_cons, rowsL_nil, rowsL_nil, List.append_nil, List.nil_append, List.length_nil, Nat.add_zero]
  | x :: ks, n => by
    show rowsL (x :: (ks ++ [k])) d a n = _
    rw [rowsL_cons, rowsL_cons, rowsL_snoc k d a ks, List.append_assoc, List.length_append, Nat.add_assoc]
/-- a row, as the law's flat list tells it -/
def FlatV (F : Led) (v : Value) (r : Row) : Prop := ∃ D dv t, v = .ref D ∧ (D, tupObj [dv, .int r.depth t]) ∈ F ∧ IsDesc F (rowKid r) dv
theorem FlatV.grow {F F' : Led} {v : Value} {r : Row} (h : FlatV F v r) (s : F <:+ F') : FlatV F' v r := let ⟨D, dv, t, e, m, q⟩ := h; ⟨D, dv, t, e, s.subset m, IsDesc.grow s q⟩
theorem ksizes_mem {k : Kid} : ∀ {ks : List Kid}, k ∈ ks → ksize k ≤ ksizes ks
  | x :: ks, h => by
    unfold ksizes
    rcases List.mem_cons.mp h with rfl | h
    · omega
    · have := ksizes_mem h; omega
theorem ksizes_take (ks : List Kid) : ∀ i, ksizes (ks.take i) ≤ ksizes ks := by
  induction ks with
  | nil => intro i; simp
  | cons x ks ih =>
    intro i
    cases i with
    | zero => simp [ksizes]
    | succ i => rw [List.take_succ_cons]; unfold ksizes; have := ih i; omega
theorem c_flat (N : Nat) : ∀ {fn : Fn} {S : Sit w fn} {σ : Sg} {E : Value → Heap → Prop} {tl : Addr} {ks : List Kid} {vs : List Value} {k : Nat} {d : Int} {td : Tok} (a : Int) (n : Nat) {M F : Led} {Q : Value → Sg → Prop}, ksizes ks ≤ N → N ≤ 200 → S.dp + N + 2 < recursionLimit → S.un + 4 * N + 60 < cLine → Split σ.led M F → (tl, lstObj vs k) ∈ F → AreDescs F ks vs →
    (∀ fl us kk F', F <:+ F' → (fl, lstObj us kk) ∈ F' → All2 (FlatV F') us (rowsL ks d a n) → Q (.ref fl) { σ with led := M ++ F' }) → W S σ (call (.ref 652) [.ref tl, .int d td]) Q E := by
  induction N using Nat.strongRecOn with
  | ind N ih =>
  intro fn S σ E tl ks vs k d td a n M F Q hsz hN hd hu hl hm hA h
  refine W.callF [("depth", .int d td), ("tops", .ref tl)] hl.perm (by k_dflt k_is) (by k_dflt k_is) (by omega) (fun _ _ => BindsTo.of_eq rfl) (by rfl) (by decide +kernel) (by rfl) (by rfl) (by rfl) ?_
  intro S' hdp hun
  have hv := hA.all2
  walk_at "w"
  rename_i f0 I
  refine FLoop.itrF (Itr.list (l := tl) (vs := vs) (k := k)) (fun i m A F' => A = M ∧ F <:+ F' ∧ ∃ fl us kk, Has [("found", .ref fl), ("depth", .int d td), ("tops", .ref tl)] m ∧ (fl, lstObj us kk) ∈ F' ∧ All2 (FlatV F') us (rowsL (ks.take i) d a n)) rfl (fun _ _ hp q => hp.mem_iff.mpr q) (fun i m A F' ⟨e, s, _⟩ => by subst e; exact List.mem_append_right _ (s.subset hm)) ?_ ?_ M _ (by walk_at "cn") ⟨rfl, by walk_at "suf", f0, [], 0, by walk_at "has", by k_upd, by rw [List.take_zero, rowsL_nil]; exact .nil⟩
  · rintro i v m A F' hi hv0 ⟨rfl, s2, fl, us, kk, hmm, mf, hF⟩
    refine W.weak hmm ?_
    obtain ⟨kd, hkd, hdv⟩ := hv.get hv0
    have hdv := hdv.grow s2
    have hkm : kd ∈ ks := List.mem_of_getElem? hkd
    have hks := ksizes_mem hkm
    have hul : us.length ≤ 200 := by
      rw [hF.length]
      have := rowsL_len (ks.take i) d a n
      have := ksizes_take ks i
      omega
    have e0 : rowsL (ks.take (i+1)) d a n = rowsL (ks.take i) d a n ++ rowsK kd d a (n + (rowsL (ks.take i) d a n).length) := by rw [List.take_add_one, hkd]; exact rowsL_snoc ..
    have stay : ∀ {kd : Kid}, isElem kd = false → rowsK kd d a (n + (rowsL (ks.take i) d a n).length) = [] := fun {kd} h => by cases kd <;> first | (unfold rowsK; rfl) | cases h
    cases kd with
    | elem here page word told direct kids =>
      have hdv0 := hdv
      unfold IsDesc at hdv
      obtain ⟨D, t, t1, t2, t3, l, kn, kvs, rfl, mD, ml, hK⟩ := hdv
      unfold ksize at hks
      walk_at "w"
      rename_i x1 x2
      refine W.addL (by k_upd) (by k_upd) (by rw [List.length_append]; exact Nat.le_trans (Nat.add_le_add_right hul 1) (by decide)) fun D3 => ?_
      dsimp only
      walk_at "w"
      refine ih (N - 1) (by omega) (n + (rowsL (ks.take i) d a n).length) (n + (rowsL (ks.take i) d a n).length + 1) (by omega) (by omega) (by omega) (by omega) (by walk_at "spl") (List.IsSuffix.subset (show F' <:+ _ by walk_at "suf") ml) (hK.grow (by walk_at "suf")) fun fl2 us2 kk2 F3 g3 m3 hF3 => ?_
      walk_at "w"
      refine W.addL (by k_upd) (by k_upd) ?_ fun D4 => ?_
      · have := hF3.length
        have := rowsL_len kids (d + 1) (n + (rowsL (ks.take i) d a n).length) (n + (rowsL (ks.take i) d a n).length + 1)
        rw [List.length_append, List.length_append]
        exact Nat.le_trans (show _ ≤ 200 + 1 + 200 by simp only [List.length_cons, List.length_nil]; omega) (by decide)
      dsimp only
      walk_at "w"
      refine ⟨rfl, _, _, by walk_at "cn", rfl, by walk_at "suf", D4, _, _, by walk_at "has", by k_upd, ?_⟩
      rw [e0, rowsK, List.append_cons (rowsL (ks.take i) d a n)]
      refine All2.app (All2.snoc ?_ ?_) ?_
      · exact hF.mono fun _ _ q => q.grow (by walk_at "suf")
      · exact ⟨x1, .ref D, td, rfl, by k_upd, IsDesc.grow (by walk_at "suf") hdv0⟩
      · exact hF3.mono fun _ _ q => q.grow (by walk_at "suf")
    | _ =>
      unfold IsDesc at hdv
      rw [stay rfl, List.append_nil] at e0
      first
        | obtain ⟨D, t, t', rfl, mD⟩ := hdv
        | obtain ⟨D, t, t', t'', rfl, mD⟩ := hdv
      walk_at "w"
      exact ⟨rfl, _, _, by walk_at "cn", rfl, by walk_at "suf", fl, us, kk, by walk_at "has", by k_upd, by rw [e0]; exact hF.mono fun _ _ q => q.grow (by walk_at "suf")⟩
  · rintro m A F' ⟨rfl, s2, fl, us, kk, hmm, mf, hF⟩
    refine W.weak hmm ?_
    walk_at "w"
    rw [show vs.length = ks.length from hv.length, List.take_length] at hF
    exact ⟨A, _, by walk_at "cn", h fl us kk _ (by walk_at "suf") (by k_upd) (hF.mono fun _ _ q => q.grow (by walk_at "suf"))⟩
-- plain facts of the rows
mutual
theorem rowsK_here : ∀ (k : Kid) (d a : Int) (n : Nat), (rowsK k d a n).map (·.here) = hereK k
  | .elem here page word told direct ks, d, a, n => by rw [rowsK, hereK, List.map_cons, rowsL_here ks]
  | .content _, _, _, _ => by rw [rowsK, hereK] <;> simp
  | .mcrPg _ _, _, _, _ => by rw [rowsK, hereK] <;> simp
  | .mcr _, _, _, _ => by rw [rowsK, hereK] <;> simp
  | .objr _, _, _, _ => by rw [rowsK, hereK] <;> simp
theorem rowsL_here : ∀ (ks : List Kid) (d a : Int) (n : Nat), (rowsL ks d a n).map (·.here) = hereL ks
  | [], _, _, _ => by rw [rowsL, hereL]; rfl
  | k :: ks, d, a, n => by rw [rowsL, hereL, List.map_append, rowsK_here k, rowsL_here ks]
end
theorem nums_sub (rs : List Row) : (nums rs).Sublist (rs.map (·.here)) := by
  induction rs with
  | nil => exact .slnil
  | cons r rs ih =>
    unfold nums at ih ⊢
    rw [List.filterMap_cons, List.map_cons]
    split
    · exact ih.cons _
    · rename_i b e
      by_cases hd : r.direct = true
      · rw [if_pos hd] at e; cases e
      · rw [if_neg hd] at e; cases e; exact ih.cons_cons _
theorem nums_nodup {ks : List Kid} (h : (hereL ks).Nodup) (d a : Int) (n : Nat) : (nums (rowsL ks d a n)).Nodup := (nums_sub _).nodup (by rw [rowsL_here]; exact h)
mutual
theorem rowsK_all {P : Kid → Prop} (hP : ∀ {here page word told direct ks}, P (.elem here page word told direct ks) → ∀ k ∈ ks, P k) : ∀ {k : Kid} {d a : Int} {n : Nat}, P k → ∀ r ∈ rowsK k d a n, P (rowKid r)
  | .elem here page word told direct ks, d, a, n, h, r, hr => by
    rw [rowsK] at hr
    rcases List.mem_cons.mp hr with rfl | hr
    · exact h
    · exact rowsL_all hP (hP h) r hr
  | .content _, _, _, _, _, _, hr => by rw [rowsK] at hr <;> first | cases hr | (intros; simp_all)
  | .mcrPg _ _, _, _, _, _, _, hr => by rw [rowsK] at hr <;> first | cases hr | (intros; simp_all)
  | .mcr _, _, _, _, _, _, hr => by rw [rowsK] at hr <;> first | cases hr | (intros; simp_all)
  | .objr _, _, _, _, _, _, hr => by rw [rowsK] at hr <;> first | cases hr | (intros; simp_all)
theorem rowsL_all {P : Kid → Prop} (hP : ∀ {here page word told direct ks}, P (.elem here page word told direct ks) → ∀ k ∈ ks, P k) : ∀ {ks : List Kid} {d a : Int} {n : Nat}, (∀ k ∈ ks, P k) → ∀ r ∈ rowsL ks d a n, P (rowKid r)
  | [], _, _, _, _, _, hr => by rw [rowsL] at hr; cases hr
  | k :: ks, d, a, n, h, r, hr => by
    rw [rowsL] at hr
    rcases List.mem_append.mp hr with hr | hr
    · exact rowsK_all hP (h k (.head _)) r hr
    · exact rowsL_all hP (fun k q => h k (.tail _ q)) r hr
end
theorem wordsL_mem {k : Kid} : ∀ {ks : List Kid}, wordsL ks → k ∈ ks → wordsK k
  | x :: ks, h, hm => by
    rw [wordsL] at h
    rcases List.mem_cons.mp hm with rfl | hm
    · exact h.1
    · exact wordsL_mem h.2 hm
theorem rows_words {ks : List Kid} (h : wordsL ks) {d a : Int} {n : Nat} : ∀ r ∈ rowsL ks d a n, IsWord r.word ∧ r.kids.length ≤ 3 := fun r hr => by
  have := rowsL_all (P := wordsK) (fun {here page word told direct ks} h k hk => by rw [wordsK] at h; exact wordsL_mem h.2.2 hk) (fun k hk => wordsL_mem h hk) r hr
  unfold rowKid at this
  rw [wordsK] at this
  exact ⟨this.1, this.2.1⟩
theorem rows_size {ks : List Kid} {d a : Int} {n : Nat} : ∀ r ∈ rowsL ks d a n, ksize (rowKid r) ≤ ksizes ks := fun r hr =>
  rowsL_all (P := fun k => ksize k ≤ ksizes ks) (fun {here page word told direct ks} h k hk => by
    rw [ksize] at h
    have := ksizes_mem hk
    omega) (fun k hk => ksizes_mem hk) r hr
theorem rows_item {F : Led} {tb : List (Int × Value)} {ks : List Kid} {vs : List Value} (h : AreItems w F tb ks vs) {d a : Int} {n : Nat} : ∀ r ∈ rowsL ks d a n, ∃ v, IsItem w F tb (rowKid r) v := fun r hr => by
  have mem : ∀ {ks : List Kid} {vs : List Value}, AreItems w F tb ks vs → ∀ k ∈ ks, ∃ v, IsItem w F tb k v := fun {ks vs} h k hk => by
    obtain ⟨i, hi⟩ := List.mem_iff_getElem?.mp hk
    obtain ⟨v, _, q⟩ := h.all2.get' hi
    exact ⟨v, q⟩
  exact rowsL_all (P := fun k => ∃ v, IsItem w F tb k v) (fun {here page word told direct ks} ⟨v, h⟩ k hk => by
    unfold IsItem at h
    obtain ⟨_, _, _, _, _, _, _, _, vs, _, hA⟩ := h
    exact mem hA k hk) (fun k hk => mem h k hk) r hr
/-- the row, told by its number once more -/
def againK (r : Row) : Kid := .elem r.here r.page r.word r.told false r.kids
theorem again_item {F : Led} {tb : List (Int × Value)} {r : Row} {v : Value} (h : IsItem w F tb (rowKid r) v) {F' : Led} {tb' : List (Int × Value)} (s : F <:+ F') (q : Tbs tb tb') {a : Addr} (ha : RefAt w F' a r.here) : IsItem w F' tb' (againK r) (.ref a) := by
  have h := IsItem.more s q h
  unfold rowKid at h
  unfold againK
  unfold IsItem at h ⊢
  obtain ⟨d, kvs, h1, h2, h3⟩ := h
  exact ⟨d, kvs, h1, ⟨a, rfl, ha⟩, h3⟩
theorem again_size (r : Row) : ksize (againK r) = ksize (rowKid r) := by unfold againK rowKid; rw [ksize, ksize]
theorem again_twice (r : Row) (ks : List Kid) (d a : Int) (n : Nat) : ¬ (nums (rowsL (againK r :: (ks ++ [againK r])) d a n)).Nodup := by
  have e : ∀ n, ∃ l, nums (rowsK (againK r) d a n) = r.here :: l := fun n => ⟨_, by unfold againK; rw [rowsK]; unfold nums; rw [List.filterMap_cons_some (b := r.here)]; simp⟩
  rw [rowsL_cons, rowsL_snoc, nums_app, nums_app]
  obtain ⟨l1, e1⟩ := e n
  rw [e1]
  generalize hN : n + (rowsK (againK r) d a n).length + _ = N
  obtain ⟨l2, e2⟩ := e N
  rw [e2]
  intro h
  have := (List.nodup_cons.mp h).1
  exact this (List.mem_append_right _ (List.mem_append_right _ (.head _)))
theorem ksizes_app (a b : List Kid) : ksizes (a ++ b) = ksizes a + ksizes b := by
  induction a with
  | nil => rw [List.nil_append, ksizes]; omega
  | cons k a ih => rw [List.cons_append, ksizes, ksizes, ih]; omega
theorem ksizes_one (k : Kid) : ksizes [k] = ksize k := by rw [ksizes, ksizes]; omega
-- plain facts of the texts
theorem strOkL_e : strOkL "" := fun c hc => by
  have z : ("" : Str).cps.toList = [] := by decide
  rw [z] at hc; cases hc
theorem strOkL_T : strOkL "T" := fun c hc => by
  have z : ("T" : Str).cps.toList = [84] := by decide
  rw [z] at hc
  have : c = 84 := by simpa using hc
  rw [this]; decide
theorem txAt_short {tx : Tx} (h : ∀ p ∈ tx, p.2.length ≤ 2) (k : Int × Int) : (txAt tx k).length ≤ 2 := by
  unfold txAt
  cases e : tx.find? fun p => p.1 = k with
  | none => exact Nat.le_of_ble_eq_true rfl
  | some p => exact h p (List.mem_of_find?_eq_some e)
theorem txAt_ok {tx : Tx} (h : ∀ p ∈ tx, strOkL p.2) (k : Int × Int) : strOkL (txAt tx k) := by
  unfold txAt
  cases e : tx.find? fun p => p.1 = k with
  | none => exact strOkL_e
  | some p => exact h p (List.mem_of_find?_eq_some e)
mutual
theorem textK_short {tx : Tx} (h : ∀ p ∈ tx, p.2.length ≤ 2) : ∀ k : Kid, (textK tx k).length ≤ 2 * ksize k
  | .elem here page word told direct ks => by
    rw [textK, ksize]
    split
    · exact Nat.le_trans (show _ ≤ 2 by decide) (by omega)
    · rw [joinE_len]; have := textL_short h page ks; omega
  | .content _ => by rw [textK] <;> first | exact Nat.zero_le _ | (intros; simp_all)
  | .mcrPg _ _ => by rw [textK] <;> first | exact Nat.zero_le _ | (intros; simp_all)
  | .mcr _ => by rw [textK] <;> first | exact Nat.zero_le _ | (intros; simp_all)
  | .objr _ => by rw [textK] <;> first | exact Nat.zero_le _ | (intros; simp_all)
theorem textL_short {tx : Tx} (h : ∀ p ∈ tx, p.2.length ≤ 2) (page : Int) : ∀ ks : List Kid, ((textL tx page ks).map (·.length)).sum ≤ 2 * ksizes ks
  | [] => by rw [textL, ksizes]; simp
  | k :: ks => by
    have h1 := textK_short h k
    have h2 := textL_short h page ks
    have h3 := ksize_pos k
    rw [textL_cons, ksizes, List.map_cons, List.sum_cons]
    split
    · omega
    · have : (leafText tx page k).length ≤ 2 := by
        unfold leafText
        split
        · exact txAt_short h _
        · exact Nat.le_of_ble_eq_true rfl
      omega
end
mutual
theorem textK_ok {tx : Tx} (h : ∀ p ∈ tx, strOkL p.2) : ∀ k : Kid, strOkL (textK tx k)
  | .elem here page word told direct ks => by
    rw [textK]
    split
    · exact strOkL_T
    · exact strOkL_join fun y hy => textL_ok h page ks y hy
  | .content _ => by rw [textK] <;> first | exact strOkL_e | (intros; simp_all)
  | .mcrPg _ _ => by rw [textK] <;> first | exact strOkL_e | (intros; simp_all)
  | .mcr _ => by rw [textK] <;> first | exact strOkL_e | (intros; simp_all)
  | .objr _ => by rw [textK] <;> first | exact strOkL_e | (intros; simp_all)
theorem textL_ok {tx : Tx} (h : ∀ p ∈ tx, strOkL p.2) (page : Int) : ∀ ks : List Kid, ∀ y ∈ textL tx page ks, strOkL y
  | [], y, hy => by rw [textL] at hy; cases hy
  | k :: ks, y, hy => by
    rw [textL_cons] at hy
    rcases List.mem_cons.mp hy with rfl | hy
    · split
      · exact textK_ok h k
      · unfold leafText
        split
        · exact txAt_ok h _
        · exact strOkL_e
    · exact textL_ok h page ks y hy
end
/-- the signs that the law gathers: nothing for a told object -/
def lawL (tx : Tx) (page : Int) : List Kid → List Str
  | [] => []
  | k :: ks => if isElem k = true then textK tx k :: lawL tx page ks else match kidTold page k with
    | some p => txAt tx p :: lawL tx page ks
    | none => lawL tx page ks
theorem lawL_join (tx : Tx) (page : Int) (ks : List Kid) : Txt.join "" (lawL tx page ks) = Txt.join "" (textL tx page ks) := by
  refine joinE_eq ?_
  induction ks with
  | nil => rw [textL]; rfl
  | cons k ks ih =>
    rw [textL_cons]
    unfold lawL
    by_cases hk : isElem k = true
    · rw [if_pos hk, if_pos hk, List.map_cons, List.map_cons, List.flatten_cons, List.flatten_cons, ih]
    · rw [if_neg hk, if_neg hk]
      unfold leafText
      cases kidTold page k with
      | some p => rw [List.map_cons, List.map_cons, List.flatten_cons, List.flatten_cons, ih]
      | none => rw [List.map_cons, List.flatten_cons, ih]; rfl
theorem lawL_snoc (tx : Tx) (page : Int) (k : Kid) : ∀ ks : List Kid, lawL tx page (ks ++ [k]) = lawL tx page ks ++ (if isElem k = true then [textK tx k] else match kidTold page k with | some p => [txAt tx p] | none => [])
  | [] => by
    show lawL tx page [k] = _
    unfold lawL lawL
    split
    · rfl
    · cases kidTold page k <;> rfl
  | x :: ks => by
    show lawL tx page (x :: (ks ++ [k])) = lawL tx page (x :: ks) ++ _
    conv => lhs; unfold lawL
    conv => rhs; arg 1; unfold lawL
    rw [lawL_snoc tx page k ks]
    split
    · rfl
    · cases kidTold page x <;> rfl
theorem lawL_len (tx : Tx) (page : Int) : ∀ ks : List Kid, (lawL tx page ks).length ≤ ks.length
  | [] => by simp [lawL]
  | k :: ks => by
    have := lawL_len tx page ks
    unfold lawL
    split
    · simp only [List.length_cons]; omega
    · cases kidTold page k <;> simp only [List.length_cons] <;> omega
theorem lawL_sum {tx : Tx} (h : ∀ p ∈ tx, p.2.length ≤ 2) (page : Int) (ks : List Kid) : ((lawL tx page ks).map (·.length)).sum ≤ 2 * ksizes ks := by
  rw [← joinE_len, lawL_join, joinE_len]
  exact textL_short h page ks
theorem c_lcontents {D : Addr} {here page : Int} {word : Str} {told direct : Bool} {kids : List Kid} {M F : Led} {Q : Value → Sg → Prop} (hd : S.dp + 2 < recursionLimit) (hl : Split σ.led M F) (hD : IsDesc F (.elem here page word told direct kids) (.ref D)) (hz : kids.length ≤ 1000)
    (h : ∀ F' l n vs, F <:+ F' → (l, lstObj vs n) ∈ F' → PairVs F' vs (pairsOf page kids) → Q (.ref l) { σ with led := M ++ F' }) : W S σ (call (.ref 657) [.ref D]) Q E := by
  refine W.callF [("element", .ref D)] hl.perm (by k_dflt k_is) (by k_dflt k_is) (by omega) (fun _ _ => BindsTo.of_eq rfl) (by rfl) (by decide +kernel) (by rfl) (by rfl) (by rfl) ?_
  intro S' hdp hun
  unfold IsDesc at hD
  obtain ⟨D', t, t1, t2, t3, l, n, vs, e, mD, ml, hA⟩ := hD
  obtain rfl := Value.ref.inj e
  have hv := hA.all2
  have hvl : vs.length = kids.length := hv.length
  have hvz : vs.length ≤ sizeLine := by rw [hvl]; exact Nat.le_trans hz (by decide)
  walk_at "w"
  refine CStart.itrF (Itr.list (l := l) (vs := vs) (k := n)) (fun i us A' F2 => A' = M ∧ F <:+ F2 ∧ PairVs F2 us (pairsOf page (kids.take i))) hvz rfl (fun _ _ hp q => hp.mem_iff.mpr q) (fun i us A F' ⟨e, s, _⟩ => by subst e; exact List.mem_append_right _ (s.subset ml)) ?_ ?_ M _ (by walk_at "cn") ⟨rfl, by walk_at "suf", .nil⟩
  · rintro i v us A' F2 D2 C2 k2 hi' hv0 ⟨rfl, s3, hP⟩ hz2
    obtain ⟨kd, hkd, hdv⟩ := hv.get hv0
    have hdv := hdv.grow s3
    have e0 : pairsOf page (kids.take (i+1)) = pairsOf page (kids.take i) ++ (match kidTold page kd with | some p => [p] | none => []) := by
      rw [List.take_add_one, hkd]; exact pairsOf_snoc page kd _
    have mD' := s3.subset mD
    cases kd with
    | elem =>
      unfold IsDesc at hdv
      obtain ⟨D, _, _, _, _, _, _, _, rfl, mK, _, _⟩ := hdv
      walk_at "w"
      exact ⟨⟨_, rfl⟩, rfl, _, _, by walk_at "cn", rfl, by walk_at "suf", by rw [e0]; exact (List.append_nil (pairsOf page (kids.take i))).symm ▸ hP⟩
    | objr =>
      unfold IsDesc at hdv
      obtain ⟨D, _, _, _, rfl, mK⟩ := hdv
      walk_at "w"
      exact ⟨⟨_, rfl⟩, rfl, _, _, by walk_at "cn", rfl, by walk_at "suf", by rw [e0]; exact (List.append_nil (pairsOf page (kids.take i))).symm ▸ hP⟩
    | mcrPg =>
      unfold IsDesc at hdv
      obtain ⟨D, _, _, _, rfl, mK⟩ := hdv
      walk_at "w"
      exact ⟨⟨_, rfl⟩, rfl, _, _, by walk_at "cn", rfl, by walk_at "suf", by rw [e0]; exact PairVs.snoc (hP.grow (by walk_at "suf")) (by k_upd)⟩
    | content =>
      unfold IsDesc at hdv
      obtain ⟨D, _, _, rfl, mK⟩ := hdv
      walk_at "w"
      exact ⟨⟨_, rfl⟩, rfl, _, _, by walk_at "cn", rfl, by walk_at "suf", by rw [e0]; exact PairVs.snoc (hP.grow (by walk_at "suf")) (by k_upd)⟩
    | mcr =>
      unfold IsDesc at hdv
      obtain ⟨D, _, _, rfl, mK⟩ := hdv
      walk_at "w"
      exact ⟨⟨_, rfl⟩, rfl, _, _, by walk_at "cn", rfl, by walk_at "suf", by rw [e0]; exact PairVs.snoc (hP.grow (by walk_at "suf")) (by k_upd)⟩
  · rintro D2 us k2 A' F2 ⟨rfl, s3, hP⟩
    rw [hvl, List.take_length] at hP
    walk_at "w"
    exact ⟨A', _, by walk_at "cn", h _ D2 _ us (by walk_at "suf") (by k_upd) (hP.grow (by walk_at "suf"))⟩
theorem c_ltext (N : Nat) : ∀ {fn : Fn} {S : Sit w fn} {σ : Sg} {E : Value → Heap → Prop} {D td : Addr} {here page : Int} {word : Str} {told direct : Bool} {kids : List Kid} {tx : Tx} {M F : Led} {Q : Value → Sg → Prop}, ksize (.elem here page word told direct kids) ≤ N → N ≤ 200 → S.dp + N + 2 < recursionLimit → S.un + 4 * N + 60 < cLine → Split σ.led M F →
    IsDesc F (.elem here page word told direct kids) (.ref D) → TextsAt w F td tx → (∀ p ∈ tx, p.2.length ≤ 2) →
    (∀ F' t, F <:+ F' → Q (.str (textK tx (.elem here page word told direct kids)) t) { σ with led := M ++ F' }) → W S σ (call (.ref 664) [.ref D, .ref td]) Q E := by
  induction N using Nat.strongRecOn with
  | ind N ih =>
  intro fn S σ E D td here page word told direct kids tx M F Q hsz hN hd hu hl hD hT hx h
  refine W.callF [("texts", .ref td), ("element", .ref D)] hl.perm (by k_dflt k_is) (by k_dflt k_is) (by omega) (fun _ _ => BindsTo.of_eq rfl) (by rfl) (by decide +kernel) (by rfl) (by rfl) (by rfl) ?_
  intro S' hdp hun
  unfold IsDesc at hD
  obtain ⟨D', t, t1, t2, t3, l, n, vs, e, mD, ml, hA⟩ := hD
  obtain rfl := Value.ref.inj e
  have hv := hA.all2
  have hvl : vs.length = kids.length := hv.length
  rw [ksize] at hsz
  have hkl := ksizes_len kids
  have etx : textK tx (.elem here page word told direct kids) = if told = true then ("T" : Str) else Txt.join "" (textL tx page kids) := by rw [textK]
  rw [etx] at h
  cases told with
  | true =>
    walk_at "w"
    exact ⟨M, _, by walk_at "cn", h _ _ (by walk_at "suf")⟩
  | false =>
    rw [if_neg (by decide), ← lawL_join] at h
    walk_at "w"
    rename_i sa sx I
    refine FLoop.itrF (Itr.list (l := l) (vs := vs) (k := n)) (fun i m A F' => ∃ svs sn, A = (sa, lstObj svs sn) :: M ∧ F <:+ F' ∧ Has [("signs", .ref sa), ("texts", .ref td), ("element", .ref D)] m ∧ All2 StrV svs (lawL tx page (kids.take i))) rfl (fun _ _ hp q => hp.mem_iff.mpr q) (fun i m A F' ⟨_, _, e, s, _⟩ => by subst e; exact List.mem_append_right _ (s.subset ml)) ?_ ?_ ((sa, lstObj [] 0) :: M) _ (by walk_at "cn") ⟨[], 0, rfl, by walk_at "suf", by walk_at "has", .nil⟩
    · rintro i v m A F' hi hv0 ⟨svs, sn, rfl, s2, hmm, hS⟩
      refine W.weak hmm ?_
      obtain ⟨kd, hkd, hdv⟩ := hv.get hv0
      have hdv := hdv.grow s2
      have hks := ksizes_mem (List.mem_of_getElem? hkd)
      have hsz2 : svs.length ≤ sizeLine := by
        rw [hS.length]
        have := lawL_len tx page (kids.take i)
        have : (kids.take i).length ≤ kids.length := by rw [List.length_take]; omega
        exact Nat.le_trans (show _ ≤ 200 by omega) (by decide)
      have mD' := s2.subset mD
      have e0 : lawL tx page (kids.take (i+1)) = lawL tx page (kids.take i) ++ (if isElem kd = true then [textK tx kd] else match kidTold page kd with | some p => [txAt tx p] | none => []) := by rw [List.take_add_one, hkd]; exact lawL_snoc ..
      cases kd with
      | elem here2 page2 word2 told2 direct2 kids2 =>
        have hdv0 := hdv
        unfold IsDesc at hdv
        obtain ⟨D2, _, _, _, _, _, _, _, rfl, mK, _, _⟩ := hdv
        walk_at "w"
        refine ih (N - 1) (by omega) (by omega) (by omega) (by omega) (by omega) (by walk_at "spl") (hdv0.grow (by walk_at "suf")) (hT.grow (by walk_at "suf")) hx fun F3 t3 g3 => ?_
        walk_at "w"
        exact ⟨rfl, _, _, by walk_at "cn", _, _, rfl, by walk_at "suf", by walk_at "has", by rw [e0]; exact hS.snoc ⟨t3, rfl⟩⟩
      | objr =>
        unfold IsDesc at hdv
        obtain ⟨D2, _, _, _, rfl, mK⟩ := hdv
        walk_at "w"
        exact ⟨rfl, _, _, by walk_at "cn", _, _, rfl, by walk_at "suf", by walk_at "has", by rw [e0]; exact (List.append_nil (lawL tx page (kids.take i))).symm ▸ hS⟩
      | mcrPg =>
        unfold IsDesc at hdv
        obtain ⟨D2, _, _, _, rfl, mK⟩ := hdv
        walk_at "w"
        refine W.tMeth (hT.grow (by walk_at "suf")) ?_
        walk_at "w"
        refine W.tGetT (hT.grow (by walk_at "suf")) (by omega) (by k_upd) fun u => ?_
        walk_at "w"
        exact ⟨rfl, _, _, by walk_at "cn", _, _, rfl, by walk_at "suf", by walk_at "has", by rw [e0]; exact hS.snoc ⟨u, rfl⟩⟩
      | _ =>
        unfold IsDesc at hdv
        obtain ⟨D2, _, _, rfl, mK⟩ := hdv
        walk_at "w"
        refine W.tMeth (hT.grow (by walk_at "suf")) ?_
        walk_at "w"
        refine W.tGetT (hT.grow (by walk_at "suf")) (by omega) (by k_upd) fun u => ?_
        walk_at "w"
        exact ⟨rfl, _, _, by walk_at "cn", _, _, rfl, by walk_at "suf", by walk_at "has", by rw [e0]; exact hS.snoc ⟨u, rfl⟩⟩
    · rintro m A F' ⟨svs, sn, rfl, s2, hmm, hS⟩
      refine W.weak hmm ?_
      walk_at "w"
      rw [hvl, List.take_length] at hS
      have hsum := lawL_sum hx page kids
      refine W.joinL (by k_upd) (StrVs.are hS) (by rw [show ("" : Str).length = 0 by decide, Nat.mul_zero, Nat.add_zero]; omega) fun u => ?_
      walk_at "w"
      exact ⟨M, _, by walk_at "cn", h _ u (by walk_at "suf")⟩
-- the law's own body, by parts
def lawFor : List Stmt → List Stmt
  | [_, .For _ _ b _ _, _] => b
  | _ => []
theorem fn_inj {f : Addr} {name name' qual qual' : Str} {params params' : Arguments} {body body' : List Stmt} {scope scope' : Scope} {dV kV doc pm cdv ct oc dV' kV' doc' pm' cdv' ct' oc' : Value} {an od an' od' : Option Addr} {osl osl' : Array (Option Value)}
    (h : (hd.heap_39 w.params).lookup f = some ⟨oc, od, .func (fnOf name qual params body scope dV kV doc pm an cdv ct), osl⟩) (h' : (hd.heap_39 w.params).lookup f = some ⟨oc', od', .func (fnOf name' qual' params' body' scope' dV' kV' doc' pm' an' cdv' ct'), osl'⟩) :
    body = body' ∧ scope = scope' ∧ qual = qual' ∧ cdv = cdv' := by
  have h3 := Option.some.inj (h.symm.trans h')
  have e : FuncData.body (fnOf name qual params body scope dV kV doc pm an cdv ct) = FuncData.body (fnOf name' qual' params' body' scope' dV' kV' doc' pm' an' cdv' ct') ∧ scope = scope' ∧ qual = qual' ∧ cdv = cdv' := by
    injection h3 with e1 e2 e3 e4
    injection e3 with e3
    injection e3 with a1 a2 a3 a4 a5
    subst_vars
    exact ⟨by assumption, rfl, rfl, rfl⟩
  exact ⟨FuncBody.stmts.inj e.1, e.2⟩
/-- the world and the law's flat list of it -/
structure Ready (w : World) (F : Led) (sh ta : Addr) (to : Obj) (tb : List (Int × Value)) (tops : List Kid) (xs : List Value) (tp10 r10 : Addr) (k10 : List (Str × Value)) (fl : Addr) : Prop where
  world : WorldAt w F sh ta tb tops xs tp10 r10 k10
  tab : to.IsDictOf (intKind PG w) (stored tb 10 (.ref tp10))
  flat : ∃ us kk, (fl, lstObj us kk) ∈ F ∧ All2 (FlatV F) us (rowsL tops 0 (-1) 0)
theorem tbs10 {tb : List (Int × Value)} (h : valueAt tb 10 = none) (v : Value) : Tbs tb (stored tb 10 v) := fun x u e => by
  rw [valueAt_stored]
  split
  · subst_vars; rw [h] at e; cases e
  · exact e
section
variable {F F1 : Led} {sh ta : Addr} {to : Obj} {tb : List (Int × Value)} {tops : List Kid} {xs : List Value} {tp10 r10 : Addr} {k10 : List (Str × Value)} {fl : Addr}
theorem Ready.shelf (R : Ready w F1 sh ta to tb tops xs tp10 r10 k10 fl) (s : ((ta, to) :: F1) <:+ F) : ShelfAt w F sh (stored tb 10 (.ref tp10)) := by
  have s1 : F1 <:+ F := (List.suffix_cons _ _).trans s
  obtain ⟨tr, kvs, a, h1, h2, h3, h4⟩ := R.world.shelf
  exact ⟨ta, tr, kvs, a, h1.grow s1, ⟨to, s.subset (.head _), R.tab⟩, SDict.grow h2 s1, h3, RefAt.grow h4 s1⟩
theorem Ready.pages (R : Ready w F1 sh ta to tb tops xs tp10 r10 k10 fl) (s : ((ta, to) :: F1) <:+ F) : PagesW w F (stored tb 10 (.ref tp10)) :=
  R.world.pages.more ((List.suffix_cons _ _).trans s) (tbs10 R.world.no10 _)
theorem Ready.root (R : Ready w F1 sh ta to tb tops xs tp10 r10 k10 fl) (s : ((ta, to) :: F1) <:+ F) : SRootW w F (stored tb 10 (.ref tp10)) r10 k10 := by
  have s1 : F1 <:+ F := (List.suffix_cons _ _).trans s
  obtain ⟨cat, kcat, a10, h1, h2, h3⟩ := R.world.root
  obtain ⟨t, h4⟩ := R.world.tp
  exact ⟨cat, kcat, a10, h1.more s1 (tbs10 R.world.no10 _), h2, RefAt.grow h3 s1, tp10, t, by rw [valueAt_stored, if_pos rfl], s1.subset h4, SDict.grow R.world.r10 s1⟩
theorem Ready.roles (R : Ready w F1 sh ta to tb tops xs tp10 r10 k10 fl) (s : ((ta, to) :: F1) <:+ F) : RolesAt w F k10 := R.world.roles.grow ((List.suffix_cons _ _).trans s)
theorem Ready.K (R : Ready w F1 sh ta to tb tops xs tp10 r10 k10 fl) (s : ((ta, to) :: F1) <:+ F) : KSh w F (stored tb 10 (.ref tp10)) k10 xs := by
  obtain ⟨kl, n, h1, h2⟩ := R.world.K
  exact .list h1 (((List.suffix_cons _ _).trans s).subset h2)
theorem Ready.items (R : Ready w F1 sh ta to tb tops xs tp10 r10 k10 fl) (s : ((ta, to) :: F1) <:+ F) : AreItems w F (stored tb 10 (.ref tp10)) tops xs :=
  AreItems.more ((List.suffix_cons _ _).trans s) (tbs10 R.world.no10 _) R.world.items
theorem Ready.nums (R : Ready w F1 sh ta to tb tops xs tp10 r10 k10 fl) : (nums (rowsL tops 0 (-1) 0)).Nodup := nums_nodup R.world.nd _ _ _
theorem Ready.rows (R : Ready w F1 sh ta to tb tops xs tp10 r10 k10 fl) : ∀ r ∈ rowsL tops 0 (-1) 0, IsWord r.word ∧ r.kids.length ≤ 3 := rows_words R.world.wd
theorem Ready.len (R : Ready w F1 sh ta to tb tops xs tp10 r10 k10 fl) : (rowsL tops 0 (-1) 0).length ≤ 80 := Nat.le_trans (rowsL_len _ _ _ _) R.world.sz
end
/-- between two parts of the law's turn -/
def Mid (w : World) (pa sh ta fl : Addr) (to : Obj) (tb : List (Int × Value)) (tops : List Kid) (xs : List Value) (tp10 r10 : Addr) (k10 : List (Str × Value)) (m : Loc) (A F : Led) : Prop :=
  ∃ po F1, A = [(pa, po)] ∧ IsPen po ∧ ((ta, to) :: F1) <:+ F ∧ Ready w F1 sh ta to tb tops xs tp10 r10 k10 fl ∧ Has [("pen", .ref pa), ("shelf", .ref sh), ("flat", .ref fl)] m
def txv (p n : Int) : Str := Txt.mul (Txt.item "abcd" (Int.fmod (p + 3 * n) 4)) (Int.fmod n 3)
def txRow (p : Int) (k : Nat) : Tx := (List.range k).map fun n : Nat => ((p, (n : Int)), txv p n)
def TX : Tx := txRow (-1) 12 ++ txRow 0 12 ++ txRow 1 12
theorem TX_nodup : (TX.map (·.1)).Nodup := by decide +kernel
theorem TX_len : TX.length = 36 := by decide +kernel
theorem TX_short : ∀ p ∈ TX, p.2.length ≤ 2 := by decide +kernel
theorem TX_ok : ∀ p ∈ TX, p.2.cps.all (· < 0x110000) = true := by decide +kernel
theorem TX_hash : ∀ p ∈ TX, tupleKeyHash (intKind PG w) [p.1.1, p.1.2] ≠ noneHash := by
  have e : ∀ p : (Int × Int) × Str, tupleKeyHash (intKind PG w) [p.1.1, p.1.2] = reduceHash (Builtin.Tuple.tupleHashOf ([p.1.1, p.1.2].map hashInt)) := fun p => rfl
  simp only [e]
  decide +kernel
theorem mul3 {d : Int} (h0 : 0 ≤ d) (h1 : d < 12) : IntMulOk 3 d := by
  have : d = 0 ∨ d = 1 ∨ d = 2 ∨ d = 3 ∨ d = 4 ∨ d = 5 ∨ d = 6 ∨ d = 7 ∨ d = 8 ∨ d = 9 ∨ d = 10 ∨ d = 11 := by omega
  rcases this with rfl | rfl | rfl | rfl | rfl | rfl | rfl | rfl | rfl | rfl | rfl | rfl <;> mul_fits
theorem TX_okL : ∀ p ∈ TX, strOkL p.2 := fun p hp c hc => by
  have := TX_ok p hp
  rw [← Array.all_toList, List.all_eq_true] at this
  exact of_decide_eq_true (this c hc)
def TXp : Nat → Tx
  | 0 => []
  | 1 => txRow (-1) 12
  | 2 => txRow (-1) 12 ++ txRow 0 12
  | _ => TX
theorem txRow_succ (p : Int) (j : Nat) : txRow p (j + 1) = txRow p j ++ [((p, (j : Int)), txv p j)] := by
  unfold txRow
  rw [List.range_succ, List.map_append]; rfl
theorem TXp_len {i : Nat} (h : i < 3) : (TXp i).length ≤ 24 := by
  have : i = 0 ∨ i = 1 ∨ i = 2 := by omega
  rcases this with rfl | rfl | rfl <;> decide +kernel
theorem TextsAt.less {L L' : Led} {td : Addr} {tx : Tx} (T : TextsAt w L td tx) (h : ∀ p ∈ L, (p.2.cls = .type "tuple" ∨ p.2.cls = .type "dict") → p ∈ L') : TextsAt w L' td tx := by
  obtain ⟨o, es, ep, xs, h1, h2, h3, h4, h5, h6, h7⟩ := T
  exact ⟨o, es, ep, xs, h _ h1 (.inr h2.1), h2, h3, h4, h5, h6.mono fun _ _ ⟨e, ⟨t, t', m⟩, q⟩ => ⟨e, ⟨t, t', h _ m (.inl rfl)⟩, q⟩, h7⟩
theorem All2.unmap {α β γ : Type} {R : α → γ → Prop} {f : β → γ} {as : List α} : ∀ {bs : List β}, All2 R as (bs.map f) → All2 (fun a b => R a (f b)) as bs := by
  intro bs
  induction bs generalizing as with
  | nil => intro h; cases h; exact .nil
  | cons b bs ih => intro h; cases h with | cons x r => exact .cons x (ih r)
theorem canLay_map {β : Type} {bs : List β} {f : β → PyData} (h : ∀ b ∈ bs, (f b).canLay0 = true) : (PyData.list (bs.map f)).canLay0 = true := by
  show PyData.canLayAll0 _ = true
  exact canLay_list fun d hd => by obtain ⟨b, hb, rfl⟩ := List.mem_map.mp hd; exact h b hb
theorem depth_map {β : Type} {bs : List β} {f : β → PyData} {n : Nat} (h : ∀ b ∈ bs, (f b).depth ≤ n) : (PyData.list (bs.map f)).depth ≤ n + 1 := by
  show PyData.depthAll _ + 1 ≤ n + 1
  exact Nat.succ_le_succ (depth_list fun d hd => by obtain ⟨b, hb, rfl⟩ := List.mem_map.mp hd; exact h b hb)
theorem desc_elem {F : Led} {r : Row} {v : Value} (h : IsDesc F (rowKid r) v) : ∃ D, v = .ref D ∧ IsDesc F (.elem r.here r.page r.word r.told r.direct r.kids) (.ref D) := by
  have h' := h
  unfold rowKid at h h'
  unfold IsDesc at h'
  obtain ⟨D, _, _, _, _, _, _, _, rfl, _⟩ := h'
  exact ⟨D, rfl, h⟩
theorem lawB {name qual : Str} {params : Arguments} {body : List Stmt} {scope : Scope} {dV kV doc pm cdv ct oc : Value} {an od : Option Addr} {osl : Array (Option Value)} (ho : (hd.heap_39 w.params).lookup 676 = some ⟨oc, od, .func (fnOf name qual params body scope dV kV doc pm an cdv ct), osl⟩) {fa : Addr} {cd : Value} {S : Sit w ⟨qual, scope, fa, cd⟩} (hdp : S.dp + 300 < recursionLimit) (hun : S.un + 1200 < cLine)
    {pa sh ta fl : Addr} {to : Obj} {tb : List (Int × Value)} {tops : List Kid} {xs : List Value} {tp10 r10 : Addr} {k10 : List (Str × Value)} {m : Loc} {A F : Led} {r : List (Addr × BlkE)} {rest : List Stmt} {Q : Flow → Sg → Prop} (hM : Mid w pa sh ta fl to tb tops xs tp10 r10 k10 m A F)
    (h : ∀ m' A' F', F <:+ F' → Mid w pa sh ta fl to tb tops xs tp10 r10 k10 m' A' F' → W S ⟨m', r, A' ++ F'⟩ (execs rest S.env) Q E) : W S ⟨m, r, A ++ F⟩ (execs (((lawFor body).drop 6).take 2 ++ rest) S.env) Q E := by
  obtain ⟨rfl, rfl, rfl, rfl⟩ := fn_inj ho (by k_dflt k_is)
  obtain ⟨po, F1, rfl, hpo, sF, R, hmm⟩ := hM
  have hF1 : F1 <:+ F := (List.suffix_cons _ _).trans sF
  refine W.weak hmm ?_
  dsimp only [lawFor, List.drop, List.take, List.cons_append, List.nil_append]
  walk_at "w"
  refine W.ListComp2 rfl (by decide) rfl (by decide) ?_ (by intro _; rfl)
  walk_at "w"
  rename_i qa qb qc qd T I
  refine CStart2.itr (Itr.tuple (l := T) (vs := [.int (-1) qb, .int 0 qc, .int 1 qd])) (fun i us led => ∃ F', Cn led [(pa, po)] F' ∧ ((T, tupObj [.int (-1) qb, .int 0 qc, .int 1 qd]) :: F) <:+ F' ∧ TPairs F' us (TXp i)) rfl (fun i us led ⟨F', hc, s, _⟩ => hc.perm.mem_iff.mpr (List.mem_append_right _ (s.subset (.head _)))) (by intro _ _; rfl) ?_ ?_ ⟨_, by walk_at "cn", by walk_at "suf", .nil⟩
  · rintro i v us led D C k hD hi hv ⟨F', hc, s2, hP⟩
    obtain ⟨p, tp, rfl, hTX, hi3⟩ : ∃ p tp, v = .int p tp ∧ TXp (i + 1) = TXp i ++ txRow p 12 ∧ i < 3 ∧ (p = -1 ∨ p = 0 ∨ p = 1) := by
      have : i = 0 ∨ i = 1 ∨ i = 2 := by have : i < 3 := hi; omega
      rcases this with rfl | rfl | rfl
      · exact ⟨-1, qb, (Option.some.inj hv).symm, rfl, by decide, .inl rfl⟩
      · exact ⟨0, qc, (Option.some.inj hv).symm, rfl, by decide, .inr (.inl rfl)⟩
      · exact ⟨1, qd, (Option.some.inj hv).symm, rfl, by decide, .inr (.inr rfl)⟩
    refine W.cn hc ?_
    walk_at "w"
    refine W.iterR 12 (by k_upd) (by decide) (by decide) fun I2 => ?_
    intro s x
    have hPl : us.length = (TXp i).length := hP.length
    have hTl := TXp_len hi3.1
    refine inner_itr (base := [("page", .int p tp)]) (vs0 := us) (k0 := k) (I := I2) (Itr.range (a := 0) (c := 1) (n := 12)) (fun j us2 led2 => ∃ F2, Cn led2 [(pa, po)] F2 ∧ F' <:+ F2 ∧ TPairs F2 us2 (TXp i ++ txRow p j)) hD (by rw [hPl]; exact Nat.le_trans (show _ ≤ 36 by omega) (by decide)) (fun _ _ _ _ => trivial) ?_ x ⟨_, by walk_at "cn", by walk_at "suf", ?_⟩ ?_
    · rintro j v us2 led2 k2 hj ⟨tj, rfl⟩ ⟨F2, hc2, s3, hP2⟩ hlen
      rw [show (0 : Int) + (j : Int) * 1 = (j : Int) by omega]
      refine W.cn hc2 ?_
      walk_at "w"
      have h4 : (("abcd" : Str).length : Int) = 4 := by decide
      refine W.modI (by decide) fun u1 => ?_
      refine W.strItem (Int.fmod_nonneg_of_pos _ (by decide)) (by rw [h4]; exact Int.fmod_lt_of_pos _ (by decide)) (by decide) fun u2 hu2 => ?_
      walk_at "w"
      refine W.modI (by decide) fun u3 => ?_
      refine W.strMul (by rw [hu2]; decide) (Int.fmod_nonneg_of_pos _ (by decide)) (Int.le_of_lt (Int.lt_of_lt_of_le (Int.fmod_lt_of_pos _ (by decide)) (by decide))) fun u4 => ?_
      walk_at "w"
      refine ⟨⟨_, rfl, ?_⟩, rfl, _, by walk_at "cn", by walk_at "suf", ?_⟩
      · walk_at "has"
      · rw [txRow_succ, ← List.append_assoc]
        refine All2.snoc ?_ ?_
        · exact hP2.mono fun _ _ ⟨t, k, u, a, b, e, m1, m2⟩ => ⟨t, k, u, a, b, e, by k_upd, by k_upd⟩
        · exact ⟨_, _, _, _, _, rfl, by k_upd, by k_upd⟩
    · rw [show txRow p 0 = [] from rfl, List.append_nil]
      exact hP.mono fun _ _ ⟨t, k, u, a, b, e, m1, m2⟩ => ⟨t, k, u, a, b, e, by k_upd, by k_upd⟩
    · rintro vs k2 led2 h2 tk2 hlen2 ⟨F2, hc2, s3, hP2⟩ y
      exact ⟨vs, k2, _, led2, h2, tk2, rfl, y, F2, hc2, s2.trans s3, by rw [hTX]; exact hP2⟩
  · rintro D us k led ⟨F', hc, s2, hP⟩
    refine W.cn (A := [(pa, po)]) (F := (D, lstObj us k) :: F') (.skip hc) ?_
    dsimp only
    walk_at "w"
    refine W.dictOfT (tx := TX) (by k_upd) (hP.mono fun _ _ ⟨t, k, u, a, b, e, m1, m2⟩ => ⟨t, k, u, a, b, e, by k_upd, by k_upd⟩) TX_nodup (by rw [TX_len]; decide) (by omega) TX_hash fun TD o hT => ?_
    have hT : TextsAt w ((TD, o) :: (D, lstObj us k) :: F') TD TX := hT.less fun p hp hq => by
      rcases List.mem_cons.mp hp with rfl | hp
      · exact .head _
      · rcases List.mem_cons.mp hp with rfl | hp
        · obtain ⟨_, _, _, _, _, _, _, rfl⟩ := hpo
          rcases hq with hq | hq <;> exact absurd (Value.type.inj hq) (by decide)
        · exact .tail _ hp
    refine W.cn (A := [(pa, po)]) (by walk_at "cn") ?_
    dsimp only
    walk_at "w"
    refine c_texts (by omega) (by omega) (by walk_at "spl") (R.shelf (by walk_at "suf")) (R.pages (by walk_at "suf")) (R.root (by walk_at "suf")) (R.K (by walk_at "suf")) (R.items (by walk_at "suf")) (Nat.le_trans R.world.sz (by decide)) R.nums hT (fun r hr => ?_) fun F3 l n vs g3 m3 hV => ?_
    · have h1 := rows_size r hr
      have h2 := R.world.sz
      have h3 := textL_short TX_short r.page r.kids
      have h4 := (R.rows r hr).2
      unfold rowKid at h1
      rw [ksize] at h1
      exact ⟨by omega, by omega⟩
    obtain ⟨us2, kk2, m4, hF⟩ := R.flat
    walk_at "w"
    have m4' : (fl, lstObj us2 kk2) ∈ F3 := List.IsSuffix.subset (show F1 <:+ F3 by walk_at "suf") m4
    have hul : us2.length = (rowsL tops 0 (-1) 0).length := hF.length
    have hrl := R.len
    have hz : us2.length ≤ sizeLine := by rw [hul]; exact Nat.le_trans hrl (by decide)
    refine CStart.itrF (Itr.list (l := fl) (vs := us2) (k := kk2)) (fun i vs2 A F4 => A = [(pa, po)] ∧ F3 <:+ F4 ∧ All2 (fun v r => StrV v (textR TX r)) vs2 ((rowsL tops 0 (-1) 0).take i)) hz rfl (fun _ _ hp q => hp.mem_iff.mpr q) (fun i vs A F' ⟨e, s, _⟩ => by subst e; exact List.mem_append_right _ (s.subset m4')) ?_ ?_ [(pa, po)] _ (by walk_at "cn") ⟨rfl, by walk_at "suf", .nil⟩
    · rintro i v vs2 A F4 D2 C2 k2 hi hv ⟨rfl, s4, hO⟩ hz2
      obtain ⟨rw', hr, hFl⟩ := hF.get hv
      obtain ⟨Dt, dv, t, rfl, mt, hd⟩ := hFl.grow (show F1 <:+ F4 by walk_at "suf")
      obtain ⟨De, rfl, hd⟩ := desc_elem hd
      have hsz := rows_size rw' (List.mem_of_getElem? hr)
      have hsz2 := R.world.sz
      unfold rowKid at hsz
      walk_at "w"
      refine c_ltext 100 (by omega) (by omega) (by omega) (by omega) (by walk_at "spl") (IsDesc.grow (by walk_at "suf") hd) (hT.grow (by walk_at "suf")) TX_short fun F5 t5 g5 => ?_
      exact ⟨⟨_, rfl⟩, rfl, _, _, by walk_at "cn", rfl, by walk_at "suf", by rw [List.take_add_one, hr]; exact hO.snoc ⟨t5, rfl⟩⟩
    · rintro D2 us3 k3 A F4 ⟨rfl, s4, hO⟩
      rw [hul, List.take_length] at hO
      refine W.neSame (d := .list ((rowsL tops 0 (-1) 0).map fun r => .str (textR TX r))) (RV.list (by k_upd) (All2.RVs ((All2.unmap hV).mono fun _ _ ⟨t, e⟩ => by subst e; exact RV.str))) (RV.list (by k_upd) (All2.RVs (hO.mono fun _ _ ⟨t, e⟩ => by subst e; exact RV.str))) (canLay_map fun r _ => strOk_of (textK_ok TX_okL _)) (Nat.le_trans (depth_map (n := 0) fun _ _ => Nat.le_refl _) (by decide)) (by omega) ?_
      walk_at "w"
      refine W.cn (A := [(pa, po)]) (by walk_at "cn") (h _ _ _ ?_ ⟨po, F1, rfl, hpo, ?_, R, ?_⟩)
      · walk_at "suf"
      · walk_at "suf"
      · walk_at "has"
theorem lawC {name qual : Str} {params : Arguments} {body : List Stmt} {scope : Scope} {dV kV doc pm cdv ct oc : Value} {an od : Option Addr} {osl : Array (Option Value)} (ho : (hd.heap_39 w.params).lookup 676 = some ⟨oc, od, .func (fnOf name qual params body scope dV kV doc pm an cdv ct), osl⟩) {fa : Addr} {cd : Value} {S : Sit w ⟨qual, scope, fa, cd⟩} (hdp : S.dp + 300 < recursionLimit) (hun : S.un + 1200 < cLine)
    {pa sh ta fl : Addr} {to : Obj} {tb : List (Int × Value)} {tops : List Kid} {xs : List Value} {tp10 r10 : Addr} {k10 : List (Str × Value)} {m : Loc} {A F : Led} {r : List (Addr × BlkE)} {rest : List Stmt} {Q : Flow → Sg → Prop} (hM : Mid w pa sh ta fl to tb tops xs tp10 r10 k10 m A F)
    (h : ∀ m' A' F', F <:+ F' → Mid w pa sh ta fl to tb tops xs tp10 r10 k10 m' A' F' → W S ⟨m', r, A' ++ F'⟩ (execs rest S.env) Q E) : W S ⟨m, r, A ++ F⟩ (execs (((lawFor body).drop 8).take 2 ++ rest) S.env) Q E := by
  obtain ⟨rfl, rfl, rfl, rfl⟩ := fn_inj ho (by k_dflt k_is)
  obtain ⟨po, F1, rfl, hpo, sF, R, hmm⟩ := hM
  have hF1 : F1 <:+ F := (List.suffix_cons _ _).trans sF
  obtain ⟨us2, kk2, m4f, hF⟩ := R.flat
  have hul : us2.length = (rowsL tops 0 (-1) 0).length := hF.length
  have hrl := R.len
  have hz : us2.length ≤ sizeLine := by rw [hul]; exact Nat.le_trans hrl (by decide)
  refine W.weak hmm ?_
  dsimp only [lawFor, List.drop, List.take, List.cons_append, List.nil_append]
  walk_at "w"
  refine c_elements (by omega) (by omega) (by walk_at "spl") (R.shelf (by walk_at "suf")) (R.root (by walk_at "suf")) (R.K (by walk_at "suf")) (R.items (by walk_at "suf")) (Nat.le_trans R.world.sz (by decide)) R.nums fun F2 le ln evs g2 me hE => ?_
  have hEl : evs.length = (rowsL tops 0 (-1) 0).length := hE.length
  have hz1 : evs.length ≤ sizeLine := by rw [hEl]; exact Nat.le_trans hrl (by decide)
  walk_at "w"
  refine CStart.itrF (Itr.list (l := le) (vs := evs) (k := ln)) (fun i vs A F3 => A = [(pa, po)] ∧ F2 <:+ F3 ∧ All2 (fun v r => RV F3 v (.list ((objsOf r.kids).map .int))) vs ((rowsL tops 0 (-1) 0).take i)) hz1 rfl (fun _ _ hp q => hp.mem_iff.mpr q) (fun i vs A F' ⟨e, s, _⟩ => by subst e; exact List.mem_append_right _ (s.subset me)) ?_ ?_ [(pa, po)] _ (by walk_at "cn") ⟨rfl, by walk_at "suf", .nil⟩
  · rintro i v vs A F3 D C k hi hv ⟨rfl, s3, hO⟩ hz2
    obtain ⟨rw', hr, hX⟩ := hE.get hv
    obtain ⟨X, rv, dX, kX, tX, tX', rfl, iX, kX1, hS, pX, toX, xsX, KX, AX⟩ := hX.grow s3
    have hxk : xsX.length = rw'.kids.length := AX.length
    have h3 := (R.rows rw' (List.mem_of_getElem? hr)).2
    walk_at "w"
    refine c_objects (by omega) (by walk_at "spl") (R.shelf (by walk_at "suf")) (iX.grow (by walk_at "suf")) (SDict.grow kX1 (by walk_at "suf")) (AreItems.more (by walk_at "suf") (fun _ _ e => e) AX) (KX.grow (by walk_at "suf")) (by omega) fun F4 l n ovs g4 m4 hO4 => ?_
    have hol : ovs.length = (objsOf rw'.kids).length := hO4.length
    have hoz : (objsOf rw'.kids).length ≤ rw'.kids.length := List.length_filterMap_le _ _
    have hz4 : ovs.length ≤ sizeLine := by rw [hol]; exact Nat.le_trans (show _ ≤ 3 by omega) (by decide)
    walk_at "w"
    refine CStart.itrF (Itr.list (l := l) (vs := ovs) (k := n)) (fun j us A F5 => A = [(pa, po)] ∧ F4 <:+ F5 ∧ All2 (fun v (x : Int) => ∃ t, v = .int x t) us ((objsOf rw'.kids).take j)) hz4 rfl (fun _ _ hp q => hp.mem_iff.mpr q) (fun i vs A F' ⟨e, s, _⟩ => by subst e; exact List.mem_append_right _ (s.subset m4)) ?_ ?_ [(pa, po)] _ (by walk_at "cn") ⟨rfl, by walk_at "suf", .nil⟩
    · rintro j v us A F5 D5 C5 k5 hj hv5 ⟨rfl, s5, hU⟩ hz5
      obtain ⟨p, hp, hv6⟩ := hO4.get hv5
      obtain ⟨aO, rfl, h3⟩ := hv6.grow s5
      obtain ⟨_, _, dr, nr, _, _, r1, r2⟩ := h3
      walk_at "w"
      exact ⟨⟨_, rfl⟩, rfl, _, _, by walk_at "cn", rfl, by walk_at "suf", by rw [List.take_add_one, hp]; exact hU.snoc ⟨_, rfl⟩⟩
    · rintro D5 us k5 A F5 ⟨rfl, s5, hU⟩
      rw [hol, List.take_length] at hU
      walk_at "w"
      refine ⟨⟨_, rfl⟩, rfl, _, _, by walk_at "cn", rfl, by walk_at "suf", ?_⟩
      rw [List.take_add_one, hr]
      refine All2.snoc (hO.mono fun _ _ q => RV.grow q (by walk_at "suf")) ?_
      exact RV.list (by k_upd) (All2.RVs (hU.mono fun _ _ ⟨t, e⟩ => by subst e; exact RV.int))
  · rintro D vs k A F3 ⟨rfl, s3, hO⟩
    rw [hEl, List.take_length] at hO
    intro C mb
    walk_at "w"
    refine ⟨_, rfl, ?_⟩
    walk_at "w"
    have m4g : (fl, lstObj us2 kk2) ∈ F3 := List.IsSuffix.subset (show F1 <:+ F3 by walk_at "suf") m4f
    refine CStart.itrF (Itr.list (l := fl) (vs := us2) (k := kk2)) (fun i vs2 A F4 => A = [(pa, po)] ∧ ((D, lstObj vs k) :: F3) <:+ F4 ∧ All2 (fun v r => RV F4 v (.list ((objsOf r.kids).map .int))) vs2 ((rowsL tops 0 (-1) 0).take i)) hz rfl (fun _ _ hp q => hp.mem_iff.mpr q) (fun i vs A F' ⟨e, s, _⟩ => by subst e; exact List.mem_append_right _ (s.subset (.tail _ m4g))) ?_ ?_ [(pa, po)] _ (by walk_at "cn") ⟨rfl, by walk_at "suf", .nil⟩
    · rintro i v vs2 A F4 D2 C2 k2 hi hv ⟨rfl, s4, hO2⟩ hz2
      obtain ⟨rw', hr, hFl⟩ := hF.get hv
      obtain ⟨Dt, dv, t, rfl, mt, hdd⟩ := hFl.grow (show F1 <:+ F4 by walk_at "suf")
      obtain ⟨De, rfl, hdd⟩ := desc_elem hdd
      have h3 := (R.rows rw' (List.mem_of_getElem? hr)).2
      unfold IsDesc at hdd
      obtain ⟨D', td, td1, td2, td3, l, n, dvs, e, mD, ml, hA⟩ := hdd
      obtain rfl := Value.ref.inj e
      have hdv := hA.all2
      have hdl : dvs.length = rw'.kids.length := hdv.length
      have hz4 : dvs.length ≤ sizeLine := by rw [hdl]; exact Nat.le_trans (show _ ≤ 3 by omega) (by decide)
      walk_at "w"
      refine CStart.itrF (Itr.list (l := l) (vs := dvs) (k := n)) (fun j us A F5 => A = [(pa, po)] ∧ F4 <:+ F5 ∧ All2 (fun v (x : Int) => ∃ t, v = .int x t) us (objsOf (rw'.kids.take j))) hz4 rfl (fun _ _ hp q => hp.mem_iff.mpr q) (fun i vs A F' ⟨e, s, _⟩ => by subst e; exact List.mem_append_right _ (s.subset ml)) ?_ ?_ [(pa, po)] _ (by walk_at "cn") ⟨rfl, by walk_at "suf", .nil⟩
      · rintro j v us A F5 D5 C5 k5 hj hv5 ⟨rfl, s5, hU⟩ hz5
        obtain ⟨kd, hkd, hd6⟩ := hdv.get hv5
        have hd6 := hd6.grow s5
        have e0 : objsOf (rw'.kids.take (j+1)) = objsOf (rw'.kids.take j) ++ (match objOf kd with | some p => [p] | none => []) := by
          rw [List.take_add_one, hkd]; exact objsOf_snoc _ _
        cases kd with
        | objr p =>
          unfold IsDesc at hd6
          obtain ⟨D6, _, _, _, rfl, mK⟩ := hd6
          walk_at "w"
          exact ⟨⟨_, rfl⟩, rfl, _, _, by walk_at "cn", rfl, by walk_at "suf", by rw [e0]; exact hU.snoc ⟨_, rfl⟩⟩
        | elem =>
          unfold IsDesc at hd6
          obtain ⟨D6, _, _, _, _, _, _, _, rfl, mK, _, _⟩ := hd6
          walk_at "w"
          exact ⟨⟨_, rfl⟩, rfl, _, _, by walk_at "cn", rfl, by walk_at "suf", by rw [e0]; exact (List.append_nil (objsOf (rw'.kids.take j))).symm ▸ hU⟩
        | mcrPg =>
          unfold IsDesc at hd6
          obtain ⟨D6, _, _, _, rfl, mK⟩ := hd6
          walk_at "w"
          exact ⟨⟨_, rfl⟩, rfl, _, _, by walk_at "cn", rfl, by walk_at "suf", by rw [e0]; exact (List.append_nil (objsOf (rw'.kids.take j))).symm ▸ hU⟩
        | _ =>
          unfold IsDesc at hd6
          obtain ⟨D6, _, _, rfl, mK⟩ := hd6
          walk_at "w"
          exact ⟨⟨_, rfl⟩, rfl, _, _, by walk_at "cn", rfl, by walk_at "suf", by rw [e0]; exact (List.append_nil (objsOf (rw'.kids.take j))).symm ▸ hU⟩
      · rintro D5 us k5 A F5 ⟨rfl, s5, hU⟩
        rw [hdl, List.take_length] at hU
        walk_at "w"
        refine ⟨⟨_, rfl⟩, rfl, _, _, by walk_at "cn", rfl, by walk_at "suf", ?_⟩
        rw [List.take_add_one, hr]
        refine All2.snoc (hO2.mono fun _ _ q => RV.grow q (by walk_at "suf")) ?_
        exact RV.list (by k_upd) (All2.RVs (hU.mono fun _ _ ⟨t, e⟩ => by subst e; exact RV.int))
    · rintro D2 us3 k3 A F4 ⟨rfl, s4, hO2⟩
      rw [hul, List.take_length] at hO2
      have hint : ∀ l : List Int, (PyData.list (l.map .int)).canLay0 = true := fun l => canLay_map fun _ _ => rfl
      have hdep : ∀ l : List Int, (PyData.list (l.map .int)).depth ≤ 1 := fun l => depth_map (n := 0) fun _ _ => Nat.le_refl _
      refine W.neSame (d := .list ((rowsL tops 0 (-1) 0).map fun r => .list ((objsOf r.kids).map .int))) (RV.list (by k_upd) (All2.RVs (hO.mono fun _ _ q => RV.grow q (by walk_at "suf")))) (RV.list (by k_upd) (All2.RVs (hO2.mono fun _ _ q => RV.grow q (by walk_at "suf")))) (canLay_map fun r _ => hint _) (Nat.le_trans (depth_map (n := 1) fun _ _ => hdep _) (by decide)) (by omega) ?_
      walk_at "w"
      refine W.cn (A := [(pa, po)]) (by walk_at "cn") (h _ _ _ ?_ ⟨po, F1, rfl, hpo, ?_, R, ?_⟩)
      · walk_at "suf"
      · walk_at "suf"
      · walk_at "has"
theorem WorldAt.grow {F F' : Led} {sh ta : Addr} {tb : List (Int × Value)} {tops : List Kid} {xs : List Value} {tp10 r10 : Addr} {k10 : List (Str × Value)} (h : WorldAt w F sh ta tb tops xs tp10 r10 k10) (s : F <:+ F') : WorldAt w F' sh ta tb tops xs tp10 r10 k10 where
  shelf := let ⟨tr, kvs, a, h1, h2, h3, h4⟩ := h.shelf; ⟨tr, kvs, a, h1.grow s, SDict.grow h2 s, h3, RefAt.grow h4 s⟩
  no10 := h.no10
  len := h.len
  pages := h.pages.more s fun _ _ e => e
  root := let ⟨cat, kcat, a10, h1, h2, h3⟩ := h.root; ⟨cat, kcat, a10, h1.grow s, h2, RefAt.grow h3 s⟩
  tp := let ⟨t, m⟩ := h.tp; ⟨t, s.subset m⟩
  r10 := SDict.grow h.r10 s
  roles := h.roles.grow s
  K := let ⟨kl, n, e, m⟩ := h.K; ⟨kl, n, e, s.subset m⟩
  k10 := h.k10
  items := AreItems.more s (fun _ _ e => e) h.items
  sz := h.sz
  nd := h.nd
  rg := h.rg
  wd := h.wd
  el := h.el
  ln := h.ln
theorem rowData_ok {r : Row} (h : IsWord r.word) : (rowData r).canLay0 = true := by
  have h1 : (PyData.str (roleOf r.word)).canLay0 = true := by
    rcases h with e | e | e | e | e | e | e <;> rw [e] <;> decide +kernel
  have h2 : (PyData.tuple ((pairsOf r.page r.kids).map fun p => .int p.2)).canLay0 = true := by
    show PyData.canLayAll0 _ = true
    exact canLay_list fun d hd => by obtain ⟨b, hb, rfl⟩ := List.mem_map.mp hd; rfl
  unfold rowData
  show PyData.canLayAll0 _ = true
  refine canLay_list fun d hd => ?_
  simp only [List.mem_cons, List.not_mem_nil, or_false] at hd
  rcases hd with rfl | rfl | rfl | rfl
  · rfl
  · exact h1
  · rfl
  · exact h2
theorem rowData_depth (r : Row) : (rowData r).depth ≤ 2 := by
  have h2 : (PyData.tuple ((pairsOf r.page r.kids).map fun p => .int p.2)).depth ≤ 1 := by
    show PyData.depthAll _ + 1 ≤ 0 + 1
    exact Nat.succ_le_succ (depth_list fun d hd => by obtain ⟨b, hb, rfl⟩ := List.mem_map.mp hd; exact Nat.le_refl _)
  unfold rowData
  show PyData.depthAll _ + 1 ≤ 1 + 1
  refine Nat.succ_le_succ (depth_list fun d hd => ?_)
  simp only [List.mem_cons, List.not_mem_nil, or_false] at hd
  rcases hd with rfl | rfl | rfl | rfl
  · exact Nat.zero_le _
  · exact Nat.zero_le _
  · exact Nat.zero_le _
  · exact h2
theorem lawA {name qual : Str} {params : Arguments} {body : List Stmt} {scope : Scope} {dV kV doc pm cdv ct oc : Value} {an od : Option Addr} {osl : Array (Option Value)} (ho : (hd.heap_39 w.params).lookup 676 = some ⟨oc, od, .func (fnOf name qual params body scope dV kV doc pm an cdv ct), osl⟩) {fa : Addr} {cd : Value} {S : Sit w ⟨qual, scope, fa, cd⟩} (hdp : S.dp + 300 < recursionLimit) (hun : S.un + 1200 < cLine)
    {pa : Addr} {po : Obj} {m : Loc} {F : Led} {r : List (Addr × BlkE)} {rest : List Stmt} {Q : Flow → Sg → Prop} (hpo : IsPen po) (hmm : Has [("pen", .ref pa)] m)
    (h : ∀ m' A' F' sh ta fl to tb tops xs tp10 r10 k10, F <:+ F' → Mid w pa sh ta fl to tb tops xs tp10 r10 k10 m' A' F' → W S ⟨m', r, A' ++ F'⟩ (execs rest S.env) Q E) : W S ⟨m, r, [(pa, po)] ++ F⟩ (execs ((lawFor body).take 6 ++ rest) S.env) Q E := by
  obtain ⟨rfl, rfl, rfl, rfl⟩ := fn_inj ho (by k_dflt k_is)
  refine W.weak hmm ?_
  dsimp only [lawFor, List.take, List.cons_append, List.nil_append]
  walk_at "w"
  refine c_world (by omega) (by omega) (by walk_at "spl") hpo fun F1 po1 to R sh tds ta tp10 r10 dvs xs dn tb tops k10 s1 hpo1 mR mT hD hTo hW => ?_
  walk_at "w"
  refine c_flat 100 (-1) 0 (Nat.le_trans hW.sz (by decide)) (by omega) (by omega) (by omega) (by walk_at "spl") mT hD fun fl us2 kk2 F2 s2 m2 hF => ?_
  have hul : us2.length = (rowsL tops 0 (-1) 0).length := hF.length
  have hrl : (rowsL tops 0 (-1) 0).length ≤ 80 := Nat.le_trans (rowsL_len _ _ _ _) hW.sz
  have hz : us2.length ≤ sizeLine := by rw [hul]; exact Nat.le_trans hrl (by decide)
  walk_at "w"
  rename_i rd y1 y2 y3 y4 y5 y6 y7 y8 ro hro0 du I
  have hro : ro.IsDictOf (strKind PG w) [("A", .str "P" y2), ("B", .str "P" y4), ("X", .str "X" y6), ("Y", .str "Y" y8)] := hro0
  clear hro0
  refine FLoop.itrF (Itr.list (l := fl) (vs := us2) (k := kk2)) (fun i m A F' => ∃ dvs2 dn2, A = [(du, lstObj dvs2 dn2), (pa, po1), (ta, to)] ∧ ((rd, ro) :: F2) <:+ F' ∧ Has [("due", .ref du), ("roles", .ref rd), ("flat", .ref fl), ("shelf", .ref sh), ("pen", .ref pa)] m ∧ All2 (fun v r => RV F' v (rowData r)) dvs2 ((rowsL tops 0 (-1) 0).take i)) rfl (fun _ _ hp q => hp.mem_iff.mpr q) (fun i m A F' ⟨_, _, e, s, _⟩ => by subst e; exact List.mem_append_right _ (s.subset (.tail _ m2))) ?_ ?_ [(du, lstObj [] 0), (pa, po1), (ta, to)] _ (by walk_at "cn") ⟨[], 0, rfl, by walk_at "suf", by walk_at "has", .nil⟩
  · rintro i v m A F' hi hv ⟨dvs2, dn2, rfl, s3, hm, hO⟩
    refine W.weak hm ?_
    have s3' : F2 <:+ F' := (List.suffix_cons _ _).trans s3
    have mro : (rd, ro) ∈ F' := s3.subset (.head _)
    obtain ⟨rw', hr, hFl⟩ := hF.get hv
    obtain ⟨Dt, dv, t, rfl, mt, hdd⟩ := hFl.grow s3'
    obtain ⟨De, rfl, hdd⟩ := desc_elem hdd
    have hdd0 := hdd
    obtain ⟨hword, h3⟩ := rows_words hW.wd rw' (List.mem_of_getElem? hr)
    unfold IsDesc at hdd
    obtain ⟨D', td, td1, td2, td3, l, n, kdvs, e, mD, ml, hA⟩ := hdd
    obtain rfl := Value.ref.inj e
    have hrv : ∀ t, ∃ u, (valueAt ([("A", .str "P" y2), ("B", .str "P" y4), ("X", .str "X" y6), ("Y", .str "Y" y8)] : List (Str × Value)) rw'.word).getD (.str rw'.word t) = .str (roleOf rw'.word) u := fun t => by
      rcases hword with e | e | e | e | e | e | e <;> rw [e] <;> exact ⟨_, rfl⟩
    have hol : dvs2.length ≤ sizeLine := by
      rw [hO.length, List.length_take]
      exact Nat.le_trans (show _ ≤ 80 by omega) (by decide)
    walk_at "w"
    refine c_lcontents (by omega) (by walk_at "spl") hdd0 (by omega) fun F4 l4 n4 pvs g4 m4 hP => ?_
    have hpz : pvs.length ≤ sizeLine := by
      have := pairsOf_len rw'.page rw'.kids
      rw [hP.length]
      exact Nat.le_trans (show _ ≤ 3 by omega) (by decide)
    refine W.storeL rfl (W.sNext (W.xCons (W.JoinF (fun m A F5 => A = [(du, lstObj dvs2 dn2), (pa, po1), (ta, to)] ∧ F4 <:+ F5 ∧ ∃ t2, Has [("page", .int (pageOf rw') t2), ("pairs", .ref l4), ("depth", .int rw'.depth t), ("element", .ref De), ("due", .ref du), ("roles", .ref rd), ("flat", .ref fl), ("shelf", .ref sh), ("pen", .ref pa)] m) ?_ ?_)))
    · dsimp only
      walk_at "w"
      cases hps : pairsOf rw'.page rw'.kids with
      | nil =>
        rw [hps] at hP
        cases hP
        have hpg : pageOf rw' = rw'.page := by unfold pageOf; rw [hps]
        walk_at "w"
        exact ⟨rfl, rfl, _, _, by walk_at "cn", rfl, by walk_at "suf", _, by rw [hpg]; walk_at "has"⟩
      | cons pr ps =>
        rw [hps] at hP
        obtain ⟨⟩ | @⟨Dp, tp, tp', a, b, vs', _, mp, hP'⟩ := hP
        have hpg : pageOf rw' = a := by unfold pageOf; rw [hps]
        walk_at "w"
        exact ⟨rfl, rfl, _, _, by walk_at "cn", rfl, by walk_at "suf", tp, by rw [hpg]; walk_at "has"⟩
    · rintro m A F5 ⟨rfl, g5, t2, hm2⟩
      refine W.weak hm2 ?_
      have mro5 : (rd, ro) ∈ F5 := List.IsSuffix.subset (show F' <:+ F5 by walk_at "suf") mro
      have mD5 := List.IsSuffix.subset (show F' <:+ F5 by walk_at "suf") mD
      walk_at "w"
      refine CStart.itrF (Itr.list (l := l4) (vs := pvs) (k := n4)) (fun i us A F' => A = [(du, lstObj dvs2 dn2), (pa, po1), (ta, to)] ∧ F5 <:+ F' ∧ All2 (fun v p => RV F' v (.int p)) us (((pairsOf rw'.page rw'.kids).map (·.2)).take i)) hpz rfl (fun _ _ hp q => hp.mem_iff.mpr q) (fun i vs A F' ⟨e, s, _⟩ => by subst e; exact List.mem_append_right _ (List.IsSuffix.subset (show F4 <:+ F' by walk_at "suf") m4)) ?_ ?_ [(du, lstObj dvs2 dn2), (pa, po1), (ta, to)] _ (by walk_at "cn") ⟨rfl, by walk_at "suf", .nil⟩
      · rintro j v us A F6 D C k hj hv6 ⟨rfl, s6, hT⟩ hz2
        obtain ⟨Dp, tp, tp', a, b, rfl, mp, hpj⟩ := hP.get hv6
        have mp' : (Dp, tupObj [.int a tp, .int b tp']) ∈ F6 := List.IsSuffix.subset (show F4 <:+ F6 by walk_at "suf") mp
        walk_at "w"
        refine ⟨⟨_, rfl⟩, rfl, _, _, by walk_at "cn", rfl, by walk_at "suf", ?_⟩
        rw [List.take_add_one, List.getElem?_map, hpj]
        exact (hT.mono fun _ _ q => q.grow (by walk_at "suf")).snoc RV.int
      · rintro D us k A F6 ⟨rfl, s6, hT⟩
        rw [show pvs.length = ((pairsOf rw'.page rw'.kids).map (·.2)).length by rw [hP.length, List.length_map], List.take_length] at hT
        have hul6 : us.length ≤ sizeLine := by
          rw [hT.length, List.length_map, ← hP.length]; exact hpz
        walk_at "w"
        refine ⟨rfl, _, _, by walk_at "cn", _, _, rfl, by walk_at "suf", by walk_at "has", ?_⟩
        rw [List.take_add_one, hr]
        refine (hO.mono fun _ _ q => q.grow (by walk_at "suf")).snoc ?_
        obtain ⟨u, hu⟩ := hrv td1
        rw [hu]
        unfold rowData
        refine RV.tuple (.head _) (.cons .int (.cons .str (.cons .int (.cons (RV.tuple (.tail _ (.head _)) ?_) .nil))))
        have e := All2.RVs (f := fun p => PyData.int p) hT
        rw [List.map_map] at e
        exact e.grow (by walk_at "suf")
  · rintro m A F' ⟨dvs2, dn2, rfl, s3, hm, hO⟩
    refine W.weak hm ?_
    rw [hul, List.take_length] at hO
    have s3' : F2 <:+ F' := (List.suffix_cons _ _).trans s3
    have R : Ready w F' sh ta to tb tops xs tp10 r10 k10 fl := ⟨hW.grow (by walk_at "suf"), hTo, us2, kk2, s3'.subset m2, hF.mono fun _ _ q => q.grow s3'⟩
    refine W.cn (A := [(pa, po1)]) (by walk_at "cn") ?_
    dsimp only
    walk_at "w"
    refine c_rows (M := [(pa, po1)]) (F := (du, lstObj dvs2 dn2) :: (ta, to) :: F') (by omega) (by omega) (.cons .nil) (R.shelf (by walk_at "suf")) (R.pages (by walk_at "suf")) (R.root (by walk_at "suf")) (R.roles (by walk_at "suf")) (R.K (by walk_at "suf")) (R.items (by walk_at "suf")) (Nat.le_trans hW.sz (by decide)) R.nums (fun r hr => ⟨(R.rows r hr).1, by have := (R.rows r hr).2; omega⟩) fun F3 l3 n3 vs3 g3 m3 hV3 => ?_
    walk_at "w"
    refine W.neSame (d := .list ((rowsL tops 0 (-1) 0).map rowData)) (RV.list (by k_upd) (hV3.grow (by walk_at "suf"))) (RV.list (by k_upd) ((All2.RVs hO).grow (by walk_at "suf"))) (canLay_map fun r hr => rowData_ok (R.rows r hr).1) (Nat.le_trans (depth_map (n := 2) fun r _ => rowData_depth r) (by decide)) (by omega) ?_
    walk_at "w"
    refine W.cn (A := [(pa, po1)]) (by walk_at "cn") (h _ _ _ _ _ _ _ _ _ _ _ _ _ ?_ ⟨po1, F', rfl, hpo1, ?_, R, ?_⟩)
    · walk_at "suf"
    · walk_at "suf"
    · walk_at "has"
theorem W.dItemIG {value slice : Expr} {d : Addr} {o : Obj} {kvs : List (Int × Value)} {k : Int} {tk : Tok} {v : Value} {Q : Value → Sg → Prop} (hm : (d, o) ∈ σ.led) (hdd : o.IsDictOf (intKind PG w) kvs) (hl : valueAt kvs k = some v) (h : Q v σ)
    (hs : subscripted slice false (.ref d) (.int k tk) = PySem.operate [.ref d, .int k tk] (getItem (.ref d) (.int k tk))) : W S σ (subscriptTail value slice (.ref d) (.int k tk)) Q E := fun s x => by
  have hD := kda_dict x.news hm hdd
  exact tail_any hD.typeIs PySem.F.slot_dict_getitem.lookup (wpAny_getItem_of is_int hD.mapOf hl ⟨σ, s.heap, _, rfl, x, h⟩) hs
theorem pull {F F1 : Led} {p : Addr × Obj} (s : (p :: F1) <:+ F) : ∃ F3, F.Perm (p :: F3) ∧ F1 <:+ F3 := by
  obtain ⟨X, rfl⟩ := s
  exact ⟨X ++ F1, List.perm_middle, ⟨X, rfl⟩⟩
theorem c_put {sh ta : Addr} {to : Obj} {kvs : List (Int × Value)} {tr v : Value} {t10 t0 : Tok} {Q : Value → Sg → Prop} (hd : S.dp + 2 < recursionLimit) {M F : Led} (hl : Split σ.led ((ta, to) :: M) F) (hs : Inst2 w.params 363 "table" (.ref ta) "trailer" tr sh F) (ht : to.IsDictOf (intKind PG w) kvs) (hz : kvs.length ≤ sizeLine)
    (h : ∀ to' F' tpn t, F <:+ F' → to'.IsDictOf (intKind PG w) (stored kvs 10 (.ref tpn)) → (tpn, tupObj [.int 0 t, v]) ∈ F' → Q .none { σ with led := ((ta, to') :: M) ++ F' }) : W S σ (call (.ref 327) [.ref sh, .int 10 t10, .int 0 t0, v]) Q E := by
  refine W.callF [("value", v), ("generation", .int 0 t0), ("number", .int 10 t10), ("self", .ref sh)] hl.perm (by k_dflt k_is) (by k_dflt k_is) (by omega) (fun _ _ => BindsTo.of_eq rfl) (by rfl) (by decide +kernel) (by rfl) (by rfl) (by rfl) ?_
  intro S' hdp hun
  obtain ⟨dx, n, t1, t2, m1, m2⟩ := hs
  walk_at "w"
  rename_i tpn to' hto'
  exact ⟨(ta, to') :: M, _, by walk_at "cn", h _ _ tpn t0 (by walk_at "suf") hto' (by k_upd)⟩
theorem tbs10' {tb : List (Int × Value)} (h : valueAt tb 10 = none) (v v' : Value) : Tbs tb (stored (stored tb 10 v) 10 v') := fun x u e => by
  rw [valueAt_stored]
  split
  · subst_vars; rw [h] at e; cases e
  · exact tbs10 h v x u e
theorem lawD {name qual : Str} {params : Arguments} {body : List Stmt} {scope : Scope} {dV kV doc pm cdv ct oc : Value} {an od : Option Addr} {osl : Array (Option Value)} (ho : (hd.heap_39 w.params).lookup 676 = some ⟨oc, od, .func (fnOf name qual params body scope dV kV doc pm an cdv ct), osl⟩) {fa : Addr} {cd : Value} {S : Sit w ⟨qual, scope, fa, cd⟩} (hdp : S.dp + 300 < recursionLimit) (hun : S.un + 1200 < cLine) (hout : frs S.outer = [])
    {pa sh ta fl : Addr} {to : Obj} {tb : List (Int × Value)} {tops : List Kid} {xs : List Value} {tp10 r10 : Addr} {k10 : List (Str × Value)} {m : Loc} {A F : Led} {r : List (Addr × BlkE)} {rest : List Stmt} {Q : Flow → Sg → Prop} (hM : Mid w pa sh ta fl to tb tops xs tp10 r10 k10 m A F)
    (h : ∀ m' po' F', IsPen po' → Has [("pen", .ref pa)] m' → W S ⟨m', r, [(pa, po')] ++ F'⟩ (execs rest S.env) Q E) : W S ⟨m, r, A ++ F⟩ (execs ((lawFor body).drop 10 ++ rest) S.env) Q E := by
  obtain ⟨rfl, rfl, rfl, rfl⟩ := fn_inj ho (by k_dflt k_is)
  obtain ⟨po, F1, rfl, hpo, sF, R, hmm⟩ := hM
  obtain ⟨F3, hp3, s3⟩ := pull sF
  obtain ⟨us2, kk2, m4f, hF⟩ := R.flat
  have hul : us2.length = (rowsL tops 0 (-1) 0).length := hF.length
  have hrl := R.len
  have hz : us2.length ≤ sizeLine := by rw [hul]; exact Nat.le_trans hrl (by decide)
  refine W.weak hmm ?_
  refine W.perm (led' := [(pa, po), (ta, to)] ++ F3) (hp3.append_left [(pa, po)]) ?_
  dsimp only [lawFor, List.drop, List.cons_append, List.nil_append]
  walk_at "w"
  refine CStart.itrF (Itr.list (l := fl) (vs := us2) (k := kk2)) (fun i vs2 A F4 => A = [(pa, po), (ta, to)] ∧ F3 <:+ F4 ∧ All2 (fun v (r : Row) => ∃ t, v = .int r.here t) vs2 ((rowsL tops 0 (-1) 0).take i)) hz rfl (fun _ _ hp q => hp.mem_iff.mpr q) (fun i vs A F' ⟨e, s, _⟩ => by subst e; exact List.mem_append_right _ (s.subset (s3.subset m4f))) ?_ ?_ [(pa, po), (ta, to)] _ (by walk_at "cn") ⟨rfl, by walk_at "suf", .nil⟩
  · rintro i v vs2 A F4 D2 C2 k2 hi hv ⟨rfl, s4, hO⟩ hz2
    obtain ⟨rw', hr, hFl⟩ := hF.get hv
    obtain ⟨Dt, dv, t, rfl, mt, hdd⟩ := hFl.grow (show F1 <:+ F4 by walk_at "suf")
    obtain ⟨De, rfl, hdd⟩ := desc_elem hdd
    unfold IsDesc at hdd
    obtain ⟨D', td, td1, td2, td3, l, n, dvs, e, mD, ml, hA⟩ := hdd
    obtain rfl := Value.ref.inj e
    walk_at "w"
    exact ⟨⟨_, rfl⟩, rfl, _, _, by walk_at "cn", rfl, by walk_at "suf", by rw [List.take_add_one, hr]; exact hO.snoc ⟨_, rfl⟩⟩
  · rintro bn us k A F4 ⟨rfl, s4, hO⟩
    rw [hul, List.take_length] at hO
    have hz5 : us.length ≤ sizeLine := by rw [hO.length]; exact Nat.le_trans hrl (by decide)
    intro C mb
    walk_at "w"
    refine ⟨_, rfl, ?_⟩
    walk_at "w"
    refine ite_of (fun h0 => ?_) (fun h0 => ?_)
    rotate_left
    · walk_at "w"
      refine W.cn (A := [(pa, po)]) (by walk_at "cn") (h _ _ _ hpo ?_)
      walk_at "has"
    refine W.cn (A := [(pa, po), (ta, to)]) (by walk_at "cn") ?_
    dsimp only
    have h0' : 0 < us.length := by
      cases us with
      | nil => cases h0
      | cons _ _ => exact Nat.succ_pos _
    obtain ⟨tr, kvs, aR, hI, hTr, hRoot, hRef⟩ := R.world.shelf
    obtain ⟨dx, nn, t1, t2, ms1, ms2⟩ := id hI
    obtain ⟨ttp, mtp⟩ := R.world.tp
    obtain ⟨ro0, mro, hro⟩ := R.world.r10
    obtain ⟨kl, kn, hkl, mkl⟩ := R.world.K
    have hv10 : valueAt (stored tb 10 (.ref tp10)) 10 = some (.ref tp10) := by rw [valueAt_stored, if_pos rfl]
    have hk10 := R.world.k10
    have hk10z : k10.length ≤ sizeLine := Nat.le_trans hk10 (by decide)
    have hTo := R.tab
    walk_at "w"
    refine c_pick (M := [(ta, to)]) (by omega) (.cons (.cons .nil)) hpo (sl := bn) (vs := us) (n := k) (by k_upd) h0' (by rw [hO.length]; omega) fun j v po2 hj hpo2 => ?_
    obtain ⟨rw', hr, t, rfl⟩ := hO.get hj
    walk_at "w"
    refine W.dItemIG (kvs := stored tb 10 (.ref tp10)) (o := to) (v := .ref tp10) ?zz1 hTo ?zz2 ?_ ?zz3
    case zz1 => k_upd
    case zz2 => exact hv10
    case zz3 => with_unfolding_all rfl
    walk_at "w"
    rename_i rtA rt hrt tq
    have hxl : xs.length = tops.length := R.world.items.all2.length
    have htl := R.world.ln
    refine c_Reference (by omega) (by walk_at "spl") fun a1 F5 g5 i1 => ?_
    walk_at "w"
    refine W.addL (by k_upd) (by k_upd) (by rw [List.length_append]; exact Nat.le_trans (show _ ≤ 3 by simp only [List.length_cons, List.length_nil]; omega) (by decide)) fun D6 => ?_
    dsimp only
    walk_at "w"
    refine c_Reference (by omega) (by walk_at "spl") fun a2 F6 g6 i2 => ?_
    walk_at "w"
    refine W.addL (by k_upd) (by k_upd) (Nat.le_trans (show _ ≤ 4 by simp only [List.length_append, List.length_cons, List.length_nil]; omega) (by decide)) fun D7 => ?_
    dsimp only
    walk_at "w"
    have hlz : (stored tb 10 (.ref tp10)).length ≤ sizeLine := Nat.le_trans (stored_le R.world.len) (by decide)
    refine W.cn (A := [(ta, to), (pa, po2)]) (by walk_at "cn") ?_
    dsimp only
    refine c_put (M := [(pa, po2)]) (by omega) (.cons (.cons .nil)) (hI.grow (by walk_at "suf")) hTo hlz fun to' F7 tpn tt g7 hto' mtp' => ?_
    walk_at "w"
    rename_i x1 x2 ro3 hro3 x3 x4
    refine w_callTry (P := fun led' => (pa, po2) ∈ led') (binds := [("shelf", .ref sh)]) hout (by k_dflt k_is) (by decide +kernel) (by k_dflt k_is) (by k_dflt k_is) (by omega) (fun _ _ => BindsTo.of_eq rfl) (by rfl) (by decide +kernel) (by rfl) (by rfl) (by rfl) (by rfl) (by k_dflt k_is) (by decide) (fun S' h1 h2 => ?_) (fun led' hP => ?_)
    · walk_at "w"
      have sL : F1 <:+ ((ta, to') :: (pa, po2) :: F7) := by walk_at "suf"
      have hTbs : Tbs tb (stored (stored tb 10 (.ref tp10)) 10 (.ref tpn)) := fun x u e => tbs10' R.world.no10 _ _ x u e
      have hrm := List.mem_of_getElem? hr
      obtain ⟨vi, hvi⟩ := rows_item R.world.items rw' hrm
      have hrs := rows_size rw' hrm
      have hws := R.world.sz
      obtain ⟨cat, kcat, a10, q1, q2, q3⟩ := R.world.root
      refine c_elements_gen (tops := againK rw' :: (tops ++ [againK rw'])) (xs := .ref a1 :: (xs ++ [.ref a2])) (k10 := stored k10 "K" (.ref D7)) (r10 := rtA) (tb := stored (stored tb 10 (.ref tp10)) 10 (.ref tpn)) (M := []) (F := (ta, to') :: (pa, po2) :: F7) (by omega) (by omega) .nil ⟨ta, tr, kvs, aR, hI.grow sL, ⟨to', .head _, hto'⟩, SDict.grow hTr sL, hRoot, RefAt.grow hRef sL⟩
        ⟨cat, kcat, a10, q1.more sL hTbs, q2, RefAt.grow q3 sL, tpn, tt, by rw [valueAt_stored, if_pos rfl], .tail _ (.tail _ mtp'), ro3, .tail _ (.tail _ (g7.subset (by k_upd))), hro3⟩
        (.list (by rw [valueAt_stored, if_pos rfl]) (.tail _ (.tail _ (g7.subset (.head _)))))
        (AreItems.of (.cons (again_item hvi sL hTbs ⟨_, _, i1.grow (by walk_at "suf")⟩) ((R.world.items.all2.mono fun _ _ q => IsItem.more sL hTbs q).snoc (again_item hvi sL hTbs ⟨_, _, i2.grow (by walk_at "suf")⟩))))
        (by rw [ksizes, ksizes_app, ksizes_one, again_size]; omega) (fun _ led' hl => hl _ (.tail _ (.head _))) (fun hn => absurd hn (again_twice _ _ _ _ _))
    · walk_at "w"
      obtain ⟨pre, post, rfl⟩ := List.append_of_mem hP
      refine W.perm (led' := [(pa, po2)] ++ (pre ++ post)) List.perm_middle (h _ _ _ hpo2 ?_)
      walk_at "has"
theorem split_law (l : List Stmt) : l.take 6 ++ ((l.drop 6).take 2 ++ ((l.drop 8).take 2 ++ (l.drop 10 ++ []))) = l := by
  rw [List.append_nil, show l.drop 10 = (l.drop 8).drop 2 by rw [List.drop_drop], List.take_append_drop, show l.drop 8 = (l.drop 6).drop 2 by rw [List.drop_drop], List.take_append_drop, List.take_append_drop]
theorem lawTurn {name qual : Str} {params : Arguments} {body : List Stmt} {scope : Scope} {dV kV doc pm cdv ct oc : Value} {an od : Option Addr} {osl : Array (Option Value)} (ho : (hd.heap_39 w.params).lookup 676 = some ⟨oc, od, .func (fnOf name qual params body scope dV kV doc pm an cdv ct), osl⟩) {fa : Addr} {cd : Value} {S : Sit w ⟨qual, scope, fa, cd⟩} (hdp : S.dp + 300 < recursionLimit) (hun : S.un + 1200 < cLine) (hout : frs S.outer = [])
    {pa : Addr} {po : Obj} {m : Loc} {F : Led} {r : List (Addr × BlkE)} {Q : Flow → Sg → Prop} (hpo : IsPen po) (hmm : Has [("pen", .ref pa)] m)
    (h : ∀ m' po' F', IsPen po' → Has [("pen", .ref pa)] m' → Q .next ⟨m', r, [(pa, po')] ++ F'⟩) : W S ⟨m, r, [(pa, po)] ++ F⟩ (execs (lawFor body) S.env) Q E := by
  rw [← split_law (lawFor body)]
  refine lawA ho hdp hun hpo hmm fun m1 A1 F1 sh ta fl to tb tops xs tp10 r10 k10 _ hM => ?_
  refine lawB ho hdp hun hM fun m2 A2 F2 _ hM => ?_
  refine lawC ho hdp hun hM fun m3 A3 F3 _ hM => ?_
  refine lawD ho hdp hun hout hM fun m4 po4 F4 hpo4 hm4 => ?_
  exact W.xNil (h m4 po4 F4 hpo4 hm4)
theorem law_body {name qual : Str} {params : Arguments} {body : List Stmt} {scope : Scope} {dV kV doc pm cdv ct oc : Value} {an od : Option Addr} {osl : Array (Option Value)} (ho : (hd.heap_39 w.params).lookup 676 = some ⟨oc, od, .func (fnOf name qual params body scope dV kV doc pm an cdv ct), osl⟩) {fa : Addr} {cd : Value} {S : Sit w ⟨qual, scope, fa, cd⟩} (hdp : S.dp + 300 < recursionLimit) (hun : S.un + 1200 < cLine) (hout : frs S.outer = [])
    {a : Addr} {vs : List Value} {ns : List Int} (hb : S.h₀.IsList a vs.toArray) (hi : IntsAre vs ns) (hz : vs.length ≤ 63) : W S ⟨[("script", .ref a)], [], []⟩ (execs body S.env) (fun fl _ => fl = .ret (.bool true)) E := by
  have ho' := ho
  obtain ⟨rfl, rfl, rfl, rfl⟩ := fn_inj ho (by k_dflt k_is)
  walk_at "w"
  refine c_pen (by omega) (M := []) (F := []) .nil hb hi hz fun pa po F0 hpo g0 => ?_
  walk_at "w"
  refine W.iterR 2 (by k_upd) (by decide) (by decide) fun I => ?_
  refine FLoop.itrF (Itr.range (a := 0) (c := 1) (n := 2)) (fun i m A F' => ∃ po', A = [(pa, po')] ∧ IsPen po' ∧ Has [("pen", .ref pa)] m) rfl (fun _ _ _ _ => trivial) (fun _ _ _ _ _ => trivial) ?_ ?_ [(pa, po)] _ (by walk_at "cn") ⟨po, rfl, hpo, by walk_at "has"⟩
  · rintro i v m A F' hi2 ⟨t, rfl⟩ ⟨po', rfl, hpo', hm⟩
    refine W.weak hm ?_
    walk_at "ws"
    refine lawTurn ho' hdp hun hout hpo' ?_ fun m' po2 F2 hpo2 hm2 => ?_
    · walk_at "has"
    exact ⟨rfl, [(pa, po2)], F2, .base, po2, rfl, hpo2, hm2⟩
  · rintro m A F' ⟨po', rfl, hpo', hm⟩
    refine W.weak hm ?_
    walk_at "w"
theorem nodup3 (n : Nat) : [n, n + 1 + 1, n + 1].Nodup := by simp; omega
theorem ge3 {n b : Nat} (h : b ∈ [n, n + 1 + 1, n + 1]) : n ≤ b := by
  simp at h
  omega
theorem law_enter0 {qual : Str} {body : List Stmt} {scope : Scope} {fa : Addr} {cd : Value} {mean : ExcName → Option Value} {mg mb : Str → Option Value} {s₁ : Shared} {h₁ : Heap} {tk₁ : Nat} {m : Str → Option Value} (KX : (hd.heap_39 w.params).In s₁.heap) (T : Top hd.view_39 LS mean mg mb s₁.heap) (K0 : Below callerA s₁.heap [] s₁.heap) (F : Fr s₁.heap s₁.heap.objs.size h₁ m)
    {a : Addr} (hk : scope.kind = .function) (hcl : (cellsFrom (s₁.heap.objs.size + 1) scope.names []).map (·.2) = [s₁.heap.objs.size + 1 + 1, s₁.heap.objs.size + 1]) (hsc : (envOfC qual scope s₁.heap.objs.size fa cd).kindOf "script" ≠ some .cell)
    (hm : m "script" = some (.ref a)) (hc : ∀ p ∈ cellsFrom (s₁.heap.objs.size + 1) scope.names [], ∃ v, h₁.IsCell p.2 v) {Q : Flow → Shared → Prop} {E : Value → Shared → Prop}
    (hw : ∀ S : Sit w ⟨qual, scope, fa, cd⟩, S.dp = callerA.depth + 1 → S.un = callerA.units + 3 → S.outer = [] → S.h₀ = s₁.heap → W S ⟨[("script", .ref a)], [], []⟩ (execs body S.env) (fun fl _ => fl = .ret (.bool true)) (fun _ _ => False))
    (hq : ∀ h' tk', (∀ b o, s₁.heap.get? b = some o → h'.get? b = some o) → Q (.ret (.bool true)) { s₁ with heap := h', toks := tk' }) :
    wpAny (model PG w) (callerA.deeper (envOfC qual scope s₁.heap.objs.size fa cd)) (execs body (envOfC qual scope s₁.heap.objs.size fa cd)) Q E { s₁ with heap := h₁, toks := tk₁ } := by
  let S : Sit w ⟨qual, scope, fa, cd⟩ := ⟨mean, mg, mb, callerA.depth + 1, callerA.units + 3, callerA.guards, s₁.heap.objs.size, [], callerA, s₁.heap, s₁.heap, K0, KX, T, hk, Nat.le_refl _⟩
  have hown : own S ⟨[("script", .ref a)], [], []⟩ = [s₁.heap.objs.size, s₁.heap.objs.size + 1 + 1, s₁.heap.objs.size + 1] := by
    unfold own
    show s₁.heap.objs.size :: ((cellsFrom (s₁.heap.objs.size + 1) scope.names []).map (·.2) ++ ([] ++ [])) = _
    rw [hcl]; rfl
  have x : St S ⟨[("script", .ref a)], [], []⟩ h₁ := by
    refine ⟨⟨m, F.ns, ?_⟩, ?_, hc, ?_, ?_, F.keep, ?_, ?_, ?_⟩
    · intro y v e _
      rcases lookup_set e with ⟨rfl, rfl⟩ | ⟨_, e⟩
      · exact hm
      · cases e
    · intro y v e k
      rcases lookup_set e with ⟨rfl, rfl⟩ | ⟨_, e⟩
      · exact absurd k hsc
      · cases e
    · intro p hp; cases hp
    · intro p hp; cases hp
    · rw [hown]; exact nodup3 _
    · intro b hb
      rw [hown] at hb
      refine none_of_ge ?_
      exact ge3 hb
    · intro p hp; cases hp
  refine (hw S rfl rfl rfl rfl).runE (s := { s₁ with heap := h₁, toks := tk₁ }) x (fun v σ' h' tk' y q => ?_) (fun _ _ _ q => q.elim)
  subst q
  exact hq h' tk' y.keep
theorem law_enter {name qual : Str} {params : Arguments} {body : List Stmt} {scope : Scope} {dV kV doc pm cdv ct oc : Value} {an od : Option Addr} {osl : Array (Option Value)} (ho : (hd.heap_39 w.params).lookup 676 = some ⟨oc, od, .func (fnOf name qual params body scope dV kV doc pm an cdv ct), osl⟩)
    {fa : Addr} {cd : Value} {mean : ExcName → Option Value} {mg mb : Str → Option Value} {s₁ : Shared} {h₁ : Heap} {tk₁ : Nat} {m : Str → Option Value} (KX : (hd.heap_39 w.params).In s₁.heap) (T : Top hd.view_39 LS mean mg mb s₁.heap) (K0 : Below callerA s₁.heap [] s₁.heap) (F : Fr s₁.heap s₁.heap.objs.size h₁ m)
    {a : Addr} {vs : List Value} {ns : List Int} (hm : m "script" = some (.ref a)) (hc : ∀ p ∈ cellsFrom (s₁.heap.objs.size + 1) scope.names [], ∃ v, h₁.IsCell p.2 v) (hL : s₁.heap.IsList a vs.toArray) (hI : IntsAre vs ns) (hz : vs.length ≤ 63) {Q : Flow → Shared → Prop} {E : Value → Shared → Prop}
    (hq : ∀ h' tk', (∀ b o, s₁.heap.get? b = some o → h'.get? b = some o) → Q (.ret (.bool true)) { s₁ with heap := h', toks := tk' }) :
    wpAny (model PG w) (callerA.deeper (envOfC qual scope s₁.heap.objs.size fa cd)) (execs body (envOfC qual scope s₁.heap.objs.size fa cd)) Q E { s₁ with heap := h₁, toks := tk₁ } := by
  have ho' := ho
  obtain ⟨rfl, rfl, rfl, rfl⟩ := fn_inj ho (by k_dflt k_is)
  refine law_enter0 KX T K0 F rfl rfl ?_ hm hc (fun S h1 h2 h3 h4 => law_body ho' ?_ ?_ ?_ ?_ hI hz) hq
  · intro k
    exact absurd (show (some NameKind.local) = some NameKind.cell from k) (by decide)
  · rw [h1]; decide
  · rw [h2]; decide
  · rw [h3]; rfl
  · rw [h4]; exact hL
end
theorem ints_len {vs : List Value} {ns : List Int} (h : IntsAre vs ns) : vs.length = ns.length := by
  induction h with
  | nil => rfl
  | cons _ _ _ ih => rw [List.length_cons, List.length_cons, ih]
end Mine
theorem PySem.Challenge.cw_pb0491_01_holds : PySem.Challenge.rw_pb0491_01.Holds := by
  exact Mine.hd (by w_strict (
  k_go0
  rename_i h₁ tk₁ F o1 o0 c1 c0 N0 X0
  refine Mine.law_enter (by k_dflt k_is) (by assumption) (by assumption) (by assumption) F ?_ ?_ (by assumption) (by assumption) ?_ ?_
  · rfl
  · intro p hp
    rcases List.mem_cons.mp (show p ∈ [(_, _), (_, _)] from hp) with rfl | hp
    · exact ⟨_, _, N0.get (.head _), c1⟩
    rcases List.mem_cons.mp hp with rfl | hp
    · exact ⟨_, _, N0.get (.tail _ (.head _)), c0⟩
    · cases hp
  · have hl := Mine.ints_len (by assumption)
    rw [hl]
    omega
  · intro h' tk' hk
    exact ⟨.inl ⟨_, .bool true, [], rfl, fun _ => rfl, .bool true, by wrow_post, fun _ => ⟨List.nodup_nil, fun _ h => nomatch h⟩⟩, hk, rfl, by assumption⟩))
