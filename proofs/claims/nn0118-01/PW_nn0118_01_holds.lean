import PyProof.Rows.All
import Wide.All
import OpenK.AllK
import Wide.FinOn
import KE.KStateDown
import KE.BytesMake
import KE.KBytesCut
import KE.KNestM
import Lean
import PySem.Challenge.RW_nn0118_01
open PySem PySem.W PySem.Calls PyProof.Rows
set_option Elab.async false
set_option linter.unusedVariables false
set_option maxRecDepth 100000
namespace Mine
section
noncomputable abbrev Entry := Addr × (Obj → Prop)
structure Led (g : Heap) (ms : List Entry) (h : Heap) : Prop where
  base : g.StaysIn h
  own : ∀ p ∈ ms, g.get? p.1 = none ∧ ∃ o, h.get? p.1 = some o ∧ p.2 o
  nd : (ms.map (·.1)).Nodup
noncomputable def Ext (W : List Addr) (h h' : Heap) : Prop := ∀ b o, h.get? b = some o → b ∉ W → h'.get? b = some o
theorem Ext.of_stays {h h' : Heap} (k : h.StaysIn h') (W : List Addr) : Ext W h h' := fun b o e _ => k b o e
theorem Ext.stays {h h' : Heap} (k : Ext [] h h') : h.StaysIn h' := fun b o e => k b o e (by simp)
theorem Ext.trans {W : List Addr} {h h' h'' : Heap} (k : Ext W h h') (k' : Ext W h' h'') : Ext W h h'' := fun b o e n => k' b o (k b o e n) n
theorem Ext.mono {W W' : List Addr} {h h' : Heap} (k : Ext W h h') (hw : ∀ a ∈ W, a ∈ W') : Ext W' h h' := fun b o e n => k b o e fun m => n (hw _ m)
theorem stays_trans {a b c : Heap} (k : a.StaysIn b) (k' : b.StaysIn c) : a.StaysIn c := fun x o e => k' x o (k x o e)
theorem stays_refl (a : Heap) : a.StaysIn a := fun _ _ e => e
section
variable {g h h' : Heap} {ms ms' : List Entry} {a : Addr} {P P' : Obj → Prop} {i : Nat} {o o' : Obj}
theorem Led.mem (H : Led g ms h) (e : (a, P) ∈ ms) : ∃ o, h.get? a = some o ∧ P o := (H.own _ e).2
theorem Led.at (H : Led g ms h) (i : Nat) (e : ms[i]? = some (a, P)) : ∃ o, h.get? a = some o ∧ P o := H.mem (List.mem_of_getElem? e)
theorem Led.off (H : Led g ms h) (i : Nat) (e : ms[i]? = some (a, P)) : g.get? a = none := (H.own _ (List.mem_of_getElem? e)).1
theorem Led.offm (H : Led g ms h) (e : a ∈ ms.map (·.1)) : g.get? a = none := by
  obtain ⟨p, hp, rfl⟩ := List.mem_map.mp e
  exact (H.own _ hp).1
theorem Led.alive (H : Led g ms h) (e : a ∈ ms.map (·.1)) : ∃ o, h.get? a = some o := by
  obtain ⟨p, hp, rfl⟩ := List.mem_map.mp e
  obtain ⟨o, ho, _⟩ := (H.own _ hp).2
  exact ⟨o, ho⟩
theorem Led.ext (H : Led g ms h) (k : h.StaysIn h') : Led g ms h' :=
  ⟨stays_trans H.base k, fun p hp => ⟨(H.own p hp).1, let ⟨o, ho, hP⟩ := (H.own p hp).2; ⟨o, k _ _ ho, hP⟩⟩, H.nd⟩
theorem Led.sub (H : Led g ms h) (hs : ∀ p ∈ ms', p ∈ ms) (hn : (ms'.map (·.1)).Nodup) : Led g ms' h :=
  ⟨H.base, fun p hp => H.own p (hs p hp), hn⟩
theorem Led.subl (H : Led g ms h) (hs : ms'.Sublist ms) : Led g ms' h :=
  ⟨H.base, fun p hp => H.own p (hs.subset hp), (hs.map _).nodup H.nd⟩
theorem Led.tail {p : Entry} (H : Led g (p :: ms) h) : Led g ms h := H.subl (List.sublist_cons_self ..)
theorem Led.start (h : Heap) (W : List Entry) (hw : ∀ p ∈ W, ∃ o, h.get? p.1 = some o ∧ p.2 o) (hn : (W.map (·.1)).Nodup) : Led (hideAll h (W.map (·.1))) W h :=
  ⟨fun _ _ e => of_hideAll _ e, fun p hp => ⟨hideAll_none _ (List.mem_map_of_mem hp), hw p hp⟩, hn⟩
theorem Led.done {W : List Addr} {h₀ : Heap} (H : Led (hideAll h₀ W) ms h) : Ext W h₀ h := fun b o e n => H.base b o (hideAll_get _ e n)
theorem Led.done0 {h₀ : Heap} (H : Led h₀ ms h) : Ext [] h₀ h := fun b o e _ => H.base b o e
theorem map_fst_set (ms : List Entry) (i : Nat) (a : Addr) (P P' : Obj → Prop) (e : ms[i]? = some (a, P)) : (ms.set i (a, P')).map (·.1) = ms.map (·.1) := by
  rw [List.map_set]
  apply List.ext_getElem?
  intro j
  rw [List.getElem?_set]
  by_cases hj : i = j
  · subst hj
    have hl : i < ms.length := by
      rcases Nat.lt_or_ge i ms.length with h | h
      · exact h
      · rw [List.getElem?_eq_none h] at e; cases e
    obtain ⟨_, e2⟩ := List.getElem?_eq_some_iff.mp e
    simp [hl, e2]
  · simp [hj]
theorem nodup_ne {ms : List Entry} (hn : (ms.map (·.1)).Nodup) {i j : Nat} {p q : Entry} (ei : ms[i]? = some p) (ej : ms[j]? = some q) (hij : i ≠ j) : q.1 ≠ p.1 := by
  intro e
  have h1 : (ms.map (·.1))[i]? = some p.1 := by rw [List.getElem?_map, ei]; rfl
  have h2 : (ms.map (·.1))[j]? = some p.1 := by rw [List.getElem?_map, ej]; exact congrArg some e
  obtain ⟨l1, e1⟩ := List.getElem?_eq_some_iff.mp h1
  obtain ⟨l2, e2⟩ := List.getElem?_eq_some_iff.mp h2
  have hp := List.pairwise_iff_getElem.mp hn
  rcases Nat.lt_or_gt_of_ne hij with h | h
  · exact hp i j l1 l2 h (e1.trans e2.symm)
  · exact hp j i l2 l1 h (e2.trans e1.symm)
theorem Led.put (H : Led g ms h) (i : Nat) (e : ms[i]? = some (a, P)) (hs : Heap.SameBut a h h') (ho : ∃ o', h'.get? a = some o' ∧ P' o') : Led g (ms.set i (a, P')) h' := by
  refine ⟨fun b o eb => (hs.2 b fun q => ?_).trans (H.base b o eb), fun p hp => ?_, ?_⟩
  · rw [q, H.off i e] at eb; cases eb
  · obtain ⟨j, hj⟩ := List.getElem?_of_mem hp
    rw [List.getElem?_set] at hj
    by_cases hij : i = j
    · subst hij
      rw [if_pos rfl] at hj
      split at hj
      · cases hj; exact ⟨H.off i e, ho⟩
      · cases hj
    · rw [if_neg hij] at hj
      have hm := List.mem_of_getElem? hj
      obtain ⟨o, h1, h2⟩ := (H.own p hm).2
      exact ⟨(H.own p hm).1, o, (hs.2 p.1 (nodup_ne H.nd e hj hij)).trans h1, h2⟩
  · rw [map_fst_set _ _ _ _ _ e]; exact H.nd
theorem Led.weaken (H : Led g ms h) (i : Nat) (e : ms[i]? = some (a, P)) (hP : ∀ o, P o → P' o) : Led g (ms.set i (a, P')) h :=
  H.put i e (Heap.SameBut.refl a h) (let ⟨o, h1, h2⟩ := H.at i e; ⟨o, h1, hP o h2⟩)
theorem Led.push (H : Led g ms h) (o : Obj) (hf : o.isFreed = false) (hp : P o) : Led g ((h.objs.size, P) :: ms) (h.push o) := by
  refine ⟨fun b o' e => Heap.get?_push_of_some _ (H.base b o' e), fun p hp' => ?_, ?_⟩
  · rcases List.mem_cons.mp hp' with rfl | hp'
    · exact ⟨Heap.StaysIn.fresh H.base, o, Heap.get?_push_size _ hf, hp⟩
    · obtain ⟨o', h1, h2⟩ := (H.own p hp').2
      exact ⟨(H.own p hp').1, o', Heap.get?_push_of_some _ h1, h2⟩
  · rw [List.map_cons, List.nodup_cons]
    refine ⟨fun hm => ?_, H.nd⟩
    obtain ⟨o', h1⟩ := H.alive hm
    exact absurd (Heap.lt_size h1) (Nat.lt_irrefl _)
theorem Led.push_drop (H : Led g ms h) (o : Obj) : Led g ms (h.push o) := H.ext fun _ _ e => Heap.get?_push_of_some _ e
theorem Led.add (H : Led g ms h) (hn : a ∉ ms.map (·.1)) (hg : g.get? a = none) (ho : ∃ o, h.get? a = some o ∧ P o) : Led g ((a, P) :: ms) h :=
  ⟨H.base, fun p hp => by rcases List.mem_cons.mp hp with rfl | hp; exact ⟨hg, ho⟩; exact H.own p hp, by rw [List.map_cons, List.nodup_cons]; exact ⟨hn, H.nd⟩⟩
theorem Led.call {W : List Addr} (H : Led g ms h) (x : Ext W h h') (hW : ∀ b ∈ W, g.get? b = none) (ha : ms'.map (·.1) = ms.map (·.1))
    (hp : ∀ p ∈ ms', (p ∈ ms ∧ p.1 ∉ W) ∨ ∃ o, h'.get? p.1 = some o ∧ p.2 o) : Led g ms' h' := by
  refine ⟨fun b o e => x b o (H.base b o e) fun m => ?_, fun p m => ⟨H.offm (ha ▸ List.mem_map_of_mem m), ?_⟩, ha ▸ H.nd⟩
  · rw [hW b m] at e; cases e
  · rcases hp p m with ⟨m', n⟩ | q
    · obtain ⟨o, h1, h2⟩ := (H.own p m').2
      exact ⟨o, x _ _ h1 n, h2⟩
    · exact q
theorem Led.freeze (H : Led g ms h) (keep : List Entry) (hk : ∀ p ∈ keep, p ∈ ms) (hn : (keep.map (·.1)).Nodup) :
    ∃ g', g.StaysIn g' ∧ Led g' keep h ∧ ∀ b o, h.get? b = some o → b ∉ keep.map (·.1) → g'.get? b = some o := by
  refine ⟨hideAll h (keep.map (·.1)), fun b o e => hideAll_get _ (H.base b o e) fun m => ?_, Led.start h keep (fun p hp => (H.own p (hk p hp)).2) hn, fun b o e n => hideAll_get _ e n⟩
  obtain ⟨p, hp, rfl⟩ := List.mem_map.mp m
  rw [(H.own p (hk p hp)).1] at e; cases e
end
noncomputable def OLoc (l : List (Str × Value)) (o : Obj) : Prop := ∃ es ep, o.data = .dict es ep ∧ StrKeys es ∧ ∀ x v, l.lookup x = some v → nsFind es x = some v
noncomputable def OCell (v : Option Value) (o : Obj) : Prop := o.data = .cell v
noncomputable def OList (vs : List Value) (o : Obj) : Prop := ∃ n, o = { cls := .type "list", data := .seq vs.toArray n }
noncomputable def OSeq (vs : List Value) (o : Obj) : Prop := o.cls = .type "list" ∧ ∃ n, o.data = .seq vs.toArray n
theorem OList.seq {vs : List Value} (o : Obj) : OList vs o → OSeq vs o := by rintro ⟨n, rfl⟩; exact ⟨rfl, n, rfl⟩
theorem isList_ofS {h : Heap} {a : Addr} {vs : List Value} (e : ∃ o, h.get? a = some o ∧ OSeq vs o) : h.IsList a vs.toArray := let ⟨o, h1, h2, h3⟩ := e; ⟨o, h1, h2, h3⟩
theorem of_isList {h : Heap} {a : Addr} {vs : List Value} (e : h.IsList a vs.toArray) : ∃ o, h.get? a = some o ∧ OSeq vs o := let ⟨o, h1, h2, h3⟩ := e; ⟨o, h1, h2, h3⟩
noncomputable def OTup (vs : List Value) (o : Obj) : Prop := o.cls = .type "tuple" ∧ ∃ n, o.data = .seq vs.toArray n
noncomputable def OIs (o' o : Obj) : Prop := o = o'
theorem isList_of {h : Heap} {a : Addr} {vs : List Value} (e : ∃ o, h.get? a = some o ∧ OList vs o) : h.IsList a vs.toArray := by
  obtain ⟨o, h1, n, rfl⟩ := e; exact ⟨_, h1, rfl, n, rfl⟩
theorem isTup_of {h : Heap} {a : Addr} {vs : List Value} (e : ∃ o, h.get? a = some o ∧ OTup vs o) : IsTup h a vs.toArray := let ⟨o, h1, h2, h3⟩ := e; ⟨o, h1, h2, h3⟩
theorem ns_of {h : Heap} {L : Addr} {l : List (Str × Value)} (e : ∃ o, h.get? L = some o ∧ OLoc l o) : ∃ m, h.Ns L m ∧ ∀ x v, l.lookup x = some v → m x = some v := by
  obtain ⟨o, h1, es, ep, h2, h3, h4⟩ := e
  exact ⟨nsFind es, ⟨o, es, ep, h1, h2, h3, fun _ => rfl⟩, h4⟩
theorem of_ns {h : Heap} {L : Addr} {l : List (Str × Value)} {m : Str → Option Value} (n : h.Ns L m) (e : ∀ x v, l.lookup x = some v → m x = some v) : ∃ o, h.get? L = some o ∧ OLoc l o := by
  obtain ⟨o, es, ep, h1, h2, h3, h4⟩ := n
  exact ⟨o, h1, es, ep, h2, h3, fun x v q => (h4 x).trans (e x v q)⟩
theorem lookup_cons_of {l : List (Str × Value)} {m : Str → Option Value} (e : ∀ x v, l.lookup x = some v → m x = some v) (y : Str) (w : Value) :
    ∀ x v, ((y, w) :: l).lookup x = some v → (if x = y then some w else m x) = some v := by
  intro x v q
  rw [List.lookup_cons] at q
  by_cases h : x = y
  · rw [if_pos h]; simpa [h] using q
  · rw [if_neg h]; simp only [beq_eq_false_iff_ne.mpr h] at q; exact e x v q
theorem Led.swap {g h : Heap} {ms : List Entry} {p q : Entry} (H : Led g (p :: q :: ms) h) : Led g (q :: p :: ms) h :=
  H.sub (fun x hx => by simp only [List.mem_cons] at hx ⊢; rcases hx with a | a | a <;> simp [a]) (by
    have := H.nd
    simp only [List.map_cons, List.nodup_cons, List.mem_cons, not_or] at this ⊢
    exact ⟨⟨fun e => this.1.1 e.symm, this.2.1⟩, this.1.2, this.2.2⟩)
theorem Led.stays {g g' h : Heap} {ms : List Entry} (H : Led g ms h) (k : g'.StaysIn g) : Led g' ms h := by
  refine ⟨stays_trans k H.base, fun p hp => ⟨?_, (H.own p hp).2⟩, H.nd⟩
  cases e : g'.get? p.1 with
  | none => rfl
  | some o =>
    have := k _ _ e
    rw [(H.own p hp).1] at this
    cases this
noncomputable def LocSub (l l' : List (Str × Value)) : Prop := ∀ x v, l'.lookup x = some v → l.lookup x = some v
theorem LocSub.nil {l : List (Str × Value)} : LocSub l [] := fun _ _ e => nomatch e
theorem LocSub.cons {l l' : List (Str × Value)} {x : Str} {v : Value} (h : l.lookup x = some v) (r : LocSub l l') : LocSub l ((x, v) :: l') := fun y u e => by
  rw [List.lookup_cons] at e
  by_cases hy : y = x
  · subst hy; simp at e; rw [← e]; exact h
  · simp only [beq_eq_false_iff_ne.mpr hy] at e; exact r y u e
theorem OLoc.sub {l l' : List (Str × Value)} (h : LocSub l l') (o : Obj) : OLoc l o → OLoc l' o := fun ⟨es, ep, a, b, d⟩ => ⟨es, ep, a, b, fun x v e => d x v (h x v e)⟩
end
section
noncomputable def holders : List String := ["bytearray.__contains__", "bytearray.__mod__", "bytearray.__rmod__", "_struct.pack_into.held", "bytearray.find.held"] ++ Builtin.Bytes.decodersThatHold
noncomputable def clearC : Code → Bool
  | .builtin id _ => !holders.contains id
  | _ => true
noncomputable def Clr (Γ : Ctx) : Prop := clearC Γ.code = true ∧ ∀ q ∈ Γ.below, clearC q.1 = true
noncomputable def wpQ {α : Type} (M : Model) (A : Around) (t : Sem α) (Q : α → Shared → Prop) (E : Value → Shared → Prop) (s : Shared) : Prop :=
  ∀ Γ p, Γ.In A → Clr Γ → Sem.wp M Γ t (fun a _ s' => Q a s') (fun e _ s' => E e s') p s
noncomputable def codeQ (M : Model) (A : Around) (c : Code) (R : Result → Shared → Prop) (s : Shared) : Prop :=
  ∀ Γ p, Γ.code = c → Γ.Below A → Clr Γ → wpCode M Γ R p s
section
variable {α β : Type} {M : Model} {A : Around} {E : Value → Shared → Prop} {s : Shared} {c : Code}
theorem q_of {t : Sem α} {Q : α → Shared → Prop} (h : wpAny M A t Q E s) : wpQ M A t Q E s := fun Γ p hΓ _ => h Γ p hΓ
theorem codeQ_of {R : Result → Shared → Prop} (h : codeAny M A c R s) : codeQ M A c R s := fun Γ p e hΓ _ => h Γ p e hΓ
theorem q_mono {t : Sem α} {Q Q' : α → Shared → Prop} {E' : Value → Shared → Prop} (h : wpQ M A t Q E s)
    (hQ : ∀ a s, Q a s → Q' a s) (hE : ∀ e s, E e s → E' e s) : wpQ M A t Q' E' s :=
  fun Γ p hΓ hc => Sem.wp_mono M Γ t (fun a _ s => hQ a s) (fun e _ s => hE e s) p s (h Γ p hΓ hc)
theorem codeQ_mono {R R' : Result → Shared → Prop} (h : codeQ M A c R s) (hR : ∀ r s, R r s → R' r s) : codeQ M A c R' s :=
  fun Γ p e hΓ hc => wpCode_mono hR (h Γ p e hΓ hc)
theorem q_pure {a : α} {Q : α → Shared → Prop} (h : Q a s) : wpQ M A (pure a) Q E s := q_of (wpAny_pure h)
theorem q_bind {m : Sem α} {f : α → Sem β} {Q : β → Shared → Prop} (h : wpQ M A m (fun a s' => wpQ M A (f a) Q E s') E s) : wpQ M A (m >>= f) Q E s := fun Γ p hΓ hc => by
  rw [Sem.wp_bind']
  exact Sem.wp_mono M Γ m (fun a p' s' h' => h' Γ p' hΓ hc) (fun _ _ _ h' => h') p s (h Γ p hΓ hc)
theorem q_bindA {m : Sem α} {f : α → Sem β} {Q : β → Shared → Prop} (h : wpAny M A m (fun a s' => wpQ M A (f a) Q E s') E s) : wpQ M A (m >>= f) Q E s := q_bind (q_of h)
theorem q_onRaise {m : Sem α} {k : Value → Sem Unit} {Q : α → Shared → Prop} (h : wpQ M A m Q (fun e s' => wpAny M A (k e) (fun _ s'' => E e s'') E s') s) : wpQ M A (m.onRaise k) Q E s := fun Γ p hΓ hc => by
  rw [Sem.wp_onRaise]
  exact Sem.wp_mono M Γ m (fun _ _ _ h' => h') (fun e p' s' h' => h' Γ p' hΓ) p s (h Γ p hΓ hc)
theorem q_attempt {m : Sem α} {Q : Except Value α → Shared → Prop} (h : wpQ M A m (fun a => Q (.ok a)) (fun e => Q (.error e)) s) : wpQ M A m.attempt Q E s := fun Γ p hΓ hc => by
  rw [Sem.wp_attempt]; exact h Γ p hΓ hc
theorem q_holding {vs : List Value} {m : Sem α} {Q : α → Shared → Prop} (h : wpQ M A m Q E s) : wpQ M A (holding vs m) Q E s := fun Γ p hΓ hc => by
  rw [Sem.wp_holding]; exact h Γ p hΓ hc
theorem q_standAt {pos : Pos} {k : Unit → Sem α} {Q : α → Shared → Prop} (h : wpQ M A (k ()) Q E s) : wpQ M A (standAt pos >>= k) Q E s := q_bindA (wpAny_standAt h)
theorem q_noted {env : Env} {m : Sem α} {Q : α → Shared → Prop} (h : wpQ M A m Q (notedBy M A env E) s) : wpQ M A (m.onRaise fun x => do noteFrame x env; theTreesLotGoes x) Q E s :=
  q_onRaise (q_mono h (fun _ _ q => q) fun _ _ hx => wpAny_bind (wpAny_mono hx (fun _ _ e => wpAny_theTreesLotGoes e) fun _ _ e => e))
theorem clr_enter {Γ : Ctx} {hd : Option Value} {p : Pos} (hc : Clr Γ) (h : clearC c = true) : Clr (Γ.enter c hd p) := by
  refine ⟨h, fun q hq => ?_⟩
  rcases List.mem_cons.mp hq with rfl | hq
  · exact hc.1
  · exact hc.2 q hq
theorem q_run {hd : Option Value} {Q : Flow → Shared → Prop} (hc : codeQ M (A.mark hd) c (fun r s' => match r with | .ok f => Q f s' | .error e => E e s') s) (hk : clearC c = true) (hnb : hd ≠ some byPass := by intro x; cases x) :
    wpQ M A (run c hd) Q E s := fun Γ p hΓ hcl => by rw [Sem.wp_run]; exact hc _ p rfl (hΓ.enter c hd p hnb) (clr_enter hcl hk)
theorem q_runValue {Q : Value → Shared → Prop} (hc : codeQ M A c (fun r s' => match r with | .ok (.ret v) => Q v s' | .ok _ => False | .error e => E e s') s) (hk : clearC c = true) :
    wpQ M A (runValue c) Q E s := fun Γ p hΓ hcl => by rw [Sem.wp_runValue]; exact hc _ p rfl (hΓ.enter c none p (by intro x; cases x)) (clr_enter hcl hk)
theorem q_call {f : Value} {pos : List Value} {kw : List (Str × Value)} {Q : Value → Shared → Prop}
    (hc : codeQ M A (.call f ⟨pos, kw⟩) (fun r s' => match r with | .ok (.ret v) => Q v s' | .ok _ => False | .error e => E e s') s) : wpQ M A (call f pos kw) Q E s := q_runValue hc rfl
theorem q_runOwn {env : Env} {hd : Option Value} {Q : Flow → Shared → Prop}
    (hc : codeQ M (A.mark hd) c (fun r s' => match r with | .ok f => Q f s' | .error e => cameBackBy M A env E e s') s) (hk : clearC c = true) (hnb : hd ≠ some byPass := by intro x; cases x) :
    wpQ M A (runOwn c env hd) Q E s := by
  unfold runOwn
  exact q_onRaise (q_run hc hk hnb)
theorem codeQ_of_tree {R : Result → Shared → Prop}
    (h : wpQ M (A.under c) (M.den c) (fun fin s' => match fin with | .done f => R (.ok f) s' | .again c' => c'.quiet = true ∧ clearC c' = true ∧ codeQ M A c' R s')
      (fun e s' => R (.error e) s') s) : codeQ M A c R s := fun Γ p hc hΓ hcl => by
  rw [wpCode_iff_wp, hc]
  refine Sem.wp_mono M Γ _ (fun fin p' s' h' => ?_) (fun _ _ _ h' => h') p s (h Γ p (hc ▸ hΓ.in) hcl)
  cases fin with
  | done f => exact h'
  | again c' => exact ⟨h'.1, h'.2.2 (Γ.goto c') p' rfl (hΓ.goto c') ⟨h'.2.1, hcl.2⟩⟩
theorem codeQ_loop {R : Result → Shared → Prop} (hq : c.quiet = true) (hk : clearC c = true) (I : Nat → Shared → Prop)
    (turn : ∀ n s, I n s → wpQ M (A.under c) (M.den c)
      (fun fin s' => match fin with
        | .done f => R (.ok f) s'
        | .again c' => (c' = c ∧ ∃ m, m < n ∧ I m s') ∨ (c'.quiet = true ∧ clearC c' = true ∧ codeQ M A c' R s')) (fun e s' => R (.error e) s') s)
    (n : Nat) (h : I n s) : codeQ M A c R s := by
  induction n using Nat.strongRecOn generalizing s with
  | ind n ih =>
    refine codeQ_of_tree (q_mono (turn n s h) (fun fin s' hf => ?_) fun _ _ h' => h')
    cases fin with
    | done f => exact hf
    | again c' =>
      rcases hf with ⟨rfl, m, hm, hI⟩ | hf
      · exact ⟨hq, hk, ih m hm hI⟩
      · exact hf
theorem q_stackAny {f : Code × Pos → Bool} {Q : Bool → Shared → Prop} (hf : ∀ c p, clearC c = true → f (c, p) = false) (h : Q false s) : wpQ M A (do return (← stack).any f) Q E s := fun Γ p hΓ hc => by
  show Q (((Γ.code, p) :: Γ.below).any f) s
  have : ((Γ.code, p) :: Γ.below).any f = false := by
    rw [List.any_eq_false]
    intro x hx
    rcases List.mem_cons.mp hx with rfl | hx
    · rw [hf _ _ hc.1]; decide
    · rw [show x = (x.1, x.2) from rfl, hf _ _ (hc.2 x hx)]; decide
  rw [this]; exact h
theorem dif5 {α : Type} {p₁ p₂ p₃ p₄ p₅ : Prop} [Decidable p₁] [Decidable p₂] [Decidable p₃] [Decidable p₄] [Decidable p₅] {a₁ : p₁ → α} {a₂ : p₂ → α} {a₃ : p₃ → α} {a₄ : p₄ → α} {a₅ : p₅ → α} {b : α} (n₁ : ¬p₁) (n₂ : ¬p₂) (n₃ : ¬p₃) (n₄ : ¬p₄) (n₅ : ¬p₅) :
    (if h : p₁ then a₁ h else if h : p₂ then a₂ h else if h : p₃ then a₃ h else if h : p₄ then a₄ h else if h : p₅ then a₅ h else b) = b := by rw [dif_neg n₁, dif_neg n₂, dif_neg n₃, dif_neg n₄, dif_neg n₅]
theorem q_exported {self : Value} {Q : Bool → Shared → Prop} (h : Q false s) : wpQ M A (Builtin.Bytes.exported self) Q E s := by
  refine q_stackAny (fun c p hc => ?_) h
  cases c
  case builtin id args =>
    have hc : (!holders.contains id) = true := hc
    rw [Bool.not_eq_true', holders, ← Bool.not_eq_true, List.contains_iff_mem, List.mem_append, not_or] at hc
    obtain ⟨hc, hd⟩ := hc
    simp only [List.mem_cons, List.not_mem_nil, or_false, not_or] at hc
    obtain ⟨h1, h2, h3, h4, h5⟩ := hc
    delta Builtin.Bytes.exported.match_1
    refine (dif5 h1 h2 h3 h4 h5).trans ?_
    obtain ⟨pos, kw⟩ := args
    rw [← List.contains_iff_mem, Bool.not_eq_true] at hd
    cases pos with
    | nil => rfl
    | cons v r => show (_ && _) = false; rw [hd, Bool.and_false]
  all_goals rfl
end
end
section
theorem clr_caller : Clr ⟨.builtin "claim.caller" {}, none, none, [], none⟩ := ⟨by decide +kernel, fun _ h => nomatch h⟩
theorem q_ends {prog : Program} {w : World} {t : Sem Fin} {s : Shared} {R : Result → Shared → Prop} (hreg : s.asleep)
    (h : wpQ (model prog w) callerA t (fun fin s' => ∃ f, fin = .done f ∧ (R (.ok f) s' ∧ leftWithCleanup s'.gens = false)) (fun e s' => R (.error e) s' ∧ leftWithCleanup s'.gens = false) s) :
    ∃ n r s' s'', runN (denote table) prog w n s ⟨t, .builtin "claim.caller" {}, default, []⟩ = .halted (outcomeOf r) s' ∧
      schedN (denote table) prog w n (.single s ⟨t, .builtin "claim.caller" {}, default, []⟩) = .halted (outcomeOf r) s' ∧ s'.forget = s''.forget ∧ R r s'' := by
  have k := Sem.wp_mono (model prog w) ⟨.builtin "claim.caller" {}, none, none, [], none⟩ t (post' := Sem.finPost (model prog w) ⟨.builtin "claim.caller" {}, none, none, [], none⟩ (fun r s' => R r s' ∧ leftWithCleanup s'.gens = false)) (exc' := fun e _ s' => R (.error e) s' ∧ leftWithCleanup s'.gens = false)
    (fun fin p' s' x => by obtain ⟨f, rfl, y⟩ := x; exact y) (fun _ _ _ x => x) default s (h _ default caller_in clr_caller)
  obtain ⟨n, r, s₁, s₂, hs, hn, hfo, hR⟩ := wp_halts_full (M := model prog w) (R := R) hreg k
  exact ⟨n, r, s₂, s₁, hn, hs, hfo, hR⟩
noncomputable abbrev WalkQ (q : Program) (loose : List Str) (XP : (Str → Option Value) → Heap → Prop) (YP : World → Heap → Prop) (r : RowW) (d : DefRec) (kwd : List (Str × Expr)) : Prop :=
  ∀ (w : World) (s₀ s₁ : Shared) (mg mb : Str → Option Value), Ground q loose r.records XP w s₀ mg mb s₁.heap → YP w s₁.heap → ∀ (a : Addr) (o : Obj) (pm cd doc dV kV : Value), s₁.heap.get? a = some o →
    o.data = .func { docDef d.name d.params d.body d.scope pm cd doc with defaults := dV, kwdefaults := kV } → s₁.heap.CodeRec cd d.name → Dflts mg s₁.heap d.params kwd dV kV → mg d.name = some (.ref a) → s₁.gens = #[] →
    ∀ (args : List WData) (vals : List Value) (as : List Addr), r.claim.pre args = true → WData.layableAll args = true → ReadsAllW r.records (classAt s₀.heap) s₁.heap vals args as → WellAll w.params s₁.heap vals args → (∀ a ∈ as, (a == sysModules) = false) →
      wpQ (model r.prog w) callerA (PySem.call (.ref a) vals) (fun v s' => GoodWG r.claim (classAt s₀.heap) (ExcName.means s₀.heap) args s₁ (.ok (.ret v)) s')
        (fun e s' => GoodWG r.claim (classAt s₀.heap) (ExcName.means s₀.heap) args s₁ (.error e) s') s₁
theorem q_nsGet {M : Model} {A : Around} {α : Type} {a : Addr} {x : Str} {k : Option Value → Sem α} {s : Shared} {m : Str → Option Value} {Q : α → Shared → Prop} {E : Value → Shared → Prop} (hn : s.heap.Ns a m) (h : wpQ M A (k (m x)) Q E s) :
    wpQ M A (nsGet a x >>= k) Q E s := q_bindA (wpAny_nsGet hn h)
theorem ex7 {α₁ α₂ α₃ α₄ α₅ α₆ α₇ : Type} {P : α₁ → α₂ → α₃ → α₄ → α₅ → α₆ → α₇ → Prop} {K : Prop} (h : ∃ a b c d e f g, P a b c d e f g) (k : ∀ a b c d e f g, P a b c d e f g → K) : K :=
  h.elim fun a h => h.elim fun b h => h.elim fun c h => h.elim fun d h => h.elim fun e h => h.elim fun f h => h.elim fun g h => k a b c d e f g h
theorem ex4 {α₁ α₂ α₃ α₄ : Type} {P : α₁ → α₂ → α₃ → α₄ → Prop} {K : Prop} (h : ∃ a b c d, P a b c d) (k : ∀ a b c d, P a b c d → K) : K :=
  h.elim fun a h => h.elim fun b h => h.elim fun c h => h.elim fun d h => k a b c d h
theorem ends_map {r : Result} {P₁ P₂ P₃ P₄ P₄' P₅ : Value → Prop} {N₁ N₂ N₃ N₄ : Addr → Obj → ExcName → Prop} {T T' : Prop}
    (h : (∃ v, r = .ok (.ret v) ∧ P₁ v ∧ P₂ v ∧ P₃ v ∧ P₄ v ∧ P₅ v) ∨ (∃ e ob cls, r = .error (.ref e) ∧ N₁ e ob cls ∧ N₂ e ob cls ∧ N₃ e ob cls ∧ N₄ e ob cls ∧ T)) (d : ∀ v, P₄ v → P₄' v) (t : T → T') :
    (∃ v, outcomeOf r = .done (.ret v) ∧ P₁ v ∧ P₂ v ∧ P₃ v ∧ P₄' v ∧ P₅ v) ∨ (∃ e ob cls, outcomeOf r = .uncaught (.ref e) ∧ N₁ e ob cls ∧ N₂ e ob cls ∧ N₃ e ob cls ∧ N₄ e ob cls ∧ T') := by
  rcases h with ⟨v, rfl, a, b, c, e, f⟩ | ⟨e, ob, cls, rfl, a, b, c, f, g⟩
  · exact .inl ⟨v, rfl, a, b, c, d v e, f⟩
  · exact .inr ⟨e, ob, cls, rfl, a, b, c, f, t g⟩
theorem PySem.W.holds_open {r : OpenRow} {q : Program} {loose : List Str} {Xt : Shared → Bool} {XP : (Str → Option Value) → Heap → Prop} {α : Type} {Yf : Shared → α} {Ya : World → α} {YP : World → Heap → Prop} {d : DefRec} {kwd : List (Str × Expr)} {N : Nat}
    (left : LeftO r.prog q loose Xt Yf Ya N) (hY : ∀ w s, Yf s = Ya w → YP w s.heap) (hYk : ∀ w h h', YP w h → (∀ b o, h.get? b = some o → h'.get? b = some o) → YP w h')
    (hX : ∀ s, Xt s = true → XP (s.heap.nsMap mainGlobals) s.heap) (hXk : ∀ mg h h', XP mg h → (∀ b o, h.get? b = some o → h'.get? b = some o) → XP mg h')
    (hdef : defOf q r.name = some (d, kwd)) (hp : r.prog.theDef r.name = some (d.params, d.body, d.scope)) (hk : kwWritten? d.params.kwonlyargs d.params.kw_defaults = some kwd) (hRf : ∀ s, Xt s = true → RecFacts r.records s.heap) (hwr : (!r.writes || r.records.isEmpty) = true)
    (k1 : r.wellSaid = true) (ok : (chainsOk q && opensWell r.prog && (frees r.toRowW && r.within.isEmpty)) = true) (hb : r.prog.bare) (hw : r.toRowW.promised)
    (call : WalkQ q loose XP YP r.toRowW d kwd) : r.Holds := by
  simp only [Bool.and_eq_true] at ok
  obtain ⟨⟨hch, o1⟩, k5, k6⟩ := ok
  obtain ⟨hsame, hu, ha, hap, hm⟩ := frees_parts k5
  have hi := ident_freeW hu ha hap
  have hwi : r.toRowW.claim.within = [] := List.isEmpty_iff.mp k6
  refine ⟨k1, hw, ⟨hb, o1, by show r.toRowW.makers.map _ = []; rw [hm]; rfl⟩, hw.witness, fun w => ?_⟩
  have LB := left.behind (XP := fun mg h => XP mg h ∧ RecFacts r.records h) (fun s hs => ⟨hX s hs, hRf s hs⟩) hch w
  refine ⟨LB.1, fun s' hs' => ?_⟩
  obtain ⟨s₀, hf, hg0, s, hT, hz, hgens, hg, GR, y⟩ := LB.2 s' hs'
  have RF := GR.X.2
  have G0 : Ground q loose [] XP w s (s.heap.nsMap mainGlobals) (s.heap.nsMap builtinsNs) s.heap := ⟨GR.T, GR.B, GR.D, GR.TE, GR.TD, GR.W, GR.X.1, GR.cls, GR.has, GR.apart, GR.once, GR.K⟩
  have hgs : s.gens = #[] := Array.eq_empty_of_size_eq_zero (beq_iff_eq.mp hgens)
  have G : Ground q loose r.records XP w s _ _ s.heap := RF.ground G0
  refine ⟨s₀, hf, hg0, s, hT, fun n hn => ?_, RF.1, RF.2.1, fun args hpre hlay ord hord => ?_⟩
  · obtain rfl : n = r.name := by split at hn <;> simp_all
    exact pinned_of_view hg G0 hdef hp hk
  · obtain ⟨⟨vs, s₁⟩, hlaid⟩ := Option.isSome_iff_exists.mp (layAllW_isSome (P := w.params) (ord := ord) G.has args r.args s (pre_splitW hpre).1)
    have keeps := layAllW_keeps _ _ _ hlaid
    have hal := layAllW_rest _ _ _ hlaid
    obtain ⟨as, hrd, hin, hold⟩ := reads_layAllW hord _ _ _ hlaid hlay s₁.heap (fun _ _ e => e)
    have L : Laid r.records w s s₁ args vs as := ⟨⟨ord, hord, hlaid⟩, hrd, hin, hold, keeps, hal.1.trans hgs, hal.2.2.1⟩
    have G₁ := G.keeps hXk keeps
    refine ex7 (G₁.fn hdef) fun a o pm cd doc dV kV hh => ?_
    have h1 := hh.1
    have h2 := hh.2.1
    have h3 := hh.2.2.1
    have h4 := hh.2.2.2.1
    have h5 := hh.2.2.2.2
    clear hh
    have W := call w s s₁ _ _ G₁ (hYk _ _ _ (hY w s y) keeps) a o pm cd doc dV kV h2 h3 h4 h5 (defOf_name hdef ▸ h1) L.gens args vs as hpre hlay L.reads L.well (L.low G.low)
    refine ex4 (q_ends (prog := r.prog) (w := w) (s := s₁) (t := do match ← nsGet mainNs r.name with
        | some f => do ret (← PySem.call f vs)
        | none => unsupported "claim.caller:no-such-global")
      (R := fun res s' => r.toRowW.claim.Ends s args vs s₁ res s' ∧ s'.os = s.os ∧ (r.writes = true → namesKept r.prog r.keeps s.heap s'.heap ∧ ∀ x ∈ r.records, ∀ a, classAt s.heap x.1 = some a → recordClass s'.heap a x.1 (x.2.map (·.1)) = true)) (Shared.asleep_of_life hal.2.2.2 hz)
      (q_nsGet G₁.T.g (by
        rw [h1]
        have fin : ∀ res s', GoodWG r.toRowW.claim (classAt s.heap) (ExcName.means s.heap) args s₁ res s' → (r.toRowW.claim.Ends s args vs s₁ res s' ∧ s'.os = s.os ∧ (r.writes = true → namesKept r.prog r.keeps s.heap s'.heap ∧ ∀ x ∈ r.records, ∀ a, classAt s.heap x.1 = some a → recordClass s'.heap a x.1 (x.2.map (·.1)) = true)) ∧ leftWithCleanup s'.gens = false := fun res s' g =>
          have z := g.laid (c := r.toRowW.claim) hsame hwi hi L
          ⟨⟨z.1, z.2.1, fun q => ⟨namesKept_of hT hg _ keeps g.2.1.old, noTable hwr q⟩⟩, leftWithCleanup_false_of_bare z.2.2⟩
        exact q_bind (q_mono W (fun v s' g => q_pure ⟨_, rfl, fin _ _ g⟩) fun e s' g => fin _ _ g)))) fun k res z z' hh => ?_
    have hrun := hh.1
    have hsched := hh.2.1
    have hfo := hh.2.2.1
    have hends := hh.2.2.2.1
    have hos := hh.2.2.2.2.1
    have hkp := hh.2.2.2.2.2
    clear hh
    obtain ⟨eh, _, _, eo, _⟩ := Shared.forget_eq hfo
    have hends := hends.congr eh
    rw [← eh] at hkp
    rw [← eo] at hos
    have hlife : z.heap.life = s.heap.life := (runN_life _ _ _ hrun).trans hal.2.2.2
    refine ⟨vs, s₁, hlaid, k, _, z, hsched, ?_, (fun _ i x hx => by rw [hgs] at hx; simp at hx), hkp, by rw [hlife], Shared.rest_eq hos⟩
    exact ends_map hends (fun v d4 b o y _ => d4 b o y) (fun d5 b o y _ => d5 b o y)
end
section
set_option maxRecDepth 1000000
noncomputable abbrev pwP : Program := PySem.Challenge.pw_nn0118_01
noncomputable def stAt (i : Nat) : Stmt := pwP.main.body.getD i (.Pass default)
noncomputable def stIn (i j : Nat) : Stmt := match stAt i with
  | .ClassDef _ _ _ b .. => b.getD j (.Pass default)
  | s => s
noncomputable def fobj (s : Stmt) (q : Str) (d m : Value) (c : Addr) : Obj := match s with
  | .FunctionDef n a b _ _ _ sc _ _ _ => { cls := .type "function", data := .func { name := n, qualname := q, params := a, body := .stmts b, scope := sc, globals := 3, closure := [], defaults := d, kwdefaults := .none, pyModule := m, code := .ref c } }
  | _ => { cls := .none, data := .seq #[] }
noncomputable def fob0 (s : Stmt) (q : Str) : Obj := match s with
  | .FunctionDef n a b _ _ _ sc _ _ _ => { cls := .none, data := .func { name := n, qualname := q, params := a, body := .stmts b, scope := sc, globals := 0, closure := [], defaults := .none, kwdefaults := .none } }
  | _ => { cls := .none, data := .seq #[] }
noncomputable def asK : List Addr := [2, 3, 15, 17, 18, 20, 21, 22, 29, 30, 32, 33, 35, 36, 37, 39, 40, 42, 43, 44, 45, 46, 47, 50, 57, 58, 59, 62, 64, 65, 67, 68, 76, 78, 79, 81, 82, 83, 85, 86, 88, 89, 90, 92, 93, 95, 96, 97, 98, 99, 100, 101, 104, 106, 107, 109, 110, 111, 113, 114, 116, 117, 118, 119, 121, 122, 124, 125, 126, 127, 129, 130, 132, 133, 134, 136, 137, 139, 140, 141, 142, 145, 146, 147, 149, 150, 152, 153, 154, 156, 157, 159, 160, 161, 163, 164, 166, 167, 168, 170, 171, 173, 174, 175, 177, 178, 180, 181, 182, 184, 185, 187, 188, 196, 198, 199, 201, 202, 203, 205, 206, 208, 209, 210, 212, 213, 215, 216, 217, 218, 219, 220, 221, 224, 225, 226, 227, 228, 229, 230, 231, 232, 233, 234, 235, 236, 237, 238, 239, 240, 241, 243, 244, 246, 247, 248, 251, 252, 253, 255, 256, 258, 259, 260, 262, 263, 265, 266, 267, 269, 270, 272, 273, 274, 276, 277, 279, 280, 281, 284, 285, 286, 288, 289, 291, 292, 293, 296, 297]
noncomputable def KF (P : Params) : Frag :=
  [(2, { cls := .none, data := .dict #[{ hash := PyData.keyHash P "type.__subclasses__.Exception.0", key := .str "type.__subclasses__.Exception.0" 232, val := .int 46 0 }, { hash := PyData.keyHash P "type.__subclasses__.Exception.n", key := .str "type.__subclasses__.Exception.n" 233, val := .int 1 0 }] 2 }),
  (3, { cls := .type "dict", data := .dict #[{ hash := PyData.keyHash P "__name__", key := .str "__name__" 165, val := .str "law_nn0118_01" 513 }, { hash := PyData.keyHash P "__doc__", key := .str "__doc__" 166, val := .none }, { hash := PyData.keyHash P "__package__", key := .str "__package__" 167, val := .none }, { hash := PyData.keyHash P "__loader__", key := .str "__loader__" 168, val := .builtin "__main__.__loader__#opaque" }, { hash := PyData.keyHash P "__spec__", key := .str "__spec__" 169, val := .none }, { hash := PyData.keyHash P "__annotations__", key := .str "__annotations__" 170, val := .ref 6 }, { hash := PyData.keyHash P "__builtins__", key := .str "__builtins__" 171, val := .ref 4 }, { hash := PyData.keyHash P "__file__", key := .str "__file__" 173, val := .str "/claim/cut.py" 172 }, { hash := PyData.keyHash P "__cached__", key := .str "__cached__" 174, val := .none }, { hash := PyData.keyHash P "_wall", key := .str "_wall" 193, val := .ref 21 }, { hash := PyData.keyHash P "PaperError", key := .str "PaperError" 235, val := .ref 46 }, { hash := PyData.keyHash P "FilterFault", key := .str "FilterFault" 251, val := .ref 59 }, { hash := PyData.keyHash P "LEAST", key := .str "LEAST" 255, val := .int 3 254 }, { hash := PyData.keyHash P "MOST_LENGTH", key := .str "MOST_LENGTH" 257, val := .int 258 256 }, { hash := PyData.keyHash P "MOST_BACK", key := .str "MOST_BACK" 259, val := .int 32768 258 }, { hash := PyData.keyHash P "key_at", key := .str "key_at" 267, val := .ref 68 }, { hash := PyData.keyHash P "Chains", key := .str "Chains" 321, val := .ref 99 }, { hash := PyData.keyHash P "common_length", key := .str "common_length" 333, val := .ref 110 }, { hash := PyData.keyHash P "match_at", key := .str "match_at" 347, val := .ref 117 }, { hash := PyData.keyHash P "find_matches", key := .str "find_matches" 362, val := .ref 125 }, { hash := PyData.keyHash P "lazy_matches", key := .str "lazy_matches" 378, val := .ref 133 }, { hash := PyData.keyHash P "matches_by_length", key := .str "matches_by_length" 393, val := .ref 140 }, { hash := PyData.keyHash P "cheapest_parts", key := .str "cheapest_parts" 400, val := .ref 146 }, { hash := PyData.keyHash P "cost_of", key := .str "cost_of" 410, val := .ref 153 }, { hash := PyData.keyHash P "length_of", key := .str "length_of" 417, val := .ref 160 }, { hash := PyData.keyHash P "expanded", key := .str "expanded" 429, val := .ref 167 }, { hash := PyData.keyHash P "UNUSED_PRICE", key := .str "UNUSED_PRICE" 433, val := .int 16 432 }, { hash := PyData.keyHash P "split_number", key := .str "split_number" 442, val := .ref 174 }, { hash := PyData.keyHash P "length_symbol", key := .str "length_symbol" 452, val := .ref 181 }, { hash := PyData.keyHash P "distance_symbol", key := .str "distance_symbol" 459, val := .ref 188 }, { hash := PyData.keyHash P "Prices", key := .str "Prices" 512, val := .ref 219 }, { hash := PyData.keyHash P "_law_BACKS", key := .str "_law_BACKS" 547, val := .ref 240 }, { hash := PyData.keyHash P "_law_taker", key := .str "_law_taker" 557, val := .ref 247 }, { hash := PyData.keyHash P "_law_places", key := .str "_law_places" 563, val := .ref 252 }, { hash := PyData.keyHash P "_law_common", key := .str "_law_common" 574, val := .ref 259 }, { hash := PyData.keyHash P "_law_match", key := .str "_law_match" 586, val := .ref 266 }, { hash := PyData.keyHash P "_law_greedy", key := .str "_law_greedy" 598, val := .ref 273 }, { hash := PyData.keyHash P "_law_price", key := .str "_law_price" 610, val := .ref 280 }, { hash := PyData.keyHash P "_law_cheapest", key := .str "_law_cheapest" 616, val := .ref 285 }, { hash := PyData.keyHash P "_law_fault_place", key := .str "_law_fault_place" 624, val := .ref 292 }, { hash := PyData.keyHash P "law", key := .str "law" 630, val := .ref 297 }] 41 }),
  (15, { cls := .type "tuple", data := .seq #[] }),
  (17, { cls := .type "tuple", data := .seq #[.str "k" 190] }),
  (18, { cls := .type "tuple", data := .seq #[] }),
  (20, { cls := .type "code", data := .fields #[.str "_wall" 187, .str "_wall" 188, .str "/claim/cut.py" 189, .int 1 0, .int 1 0, .int 0 0, .int 0 0, .int 3 0, .ref 15, .bool true, .int 181 0, .ref 16, .none, .ref 17, .ref 18, .ref 19, .int 191 0, .int 1 0, .str "/claim/cut.py" 192] }),
  (21, fobj (stAt 0) "_wall" .none (.str "__main__" 164) 20),
  (22, { cls := .type "tuple", data := .seq #[.type "Exception"] }),
  (29, { cls := .type "tuple", data := .seq #[.int (-1) 209] }),
  (30, { cls := .type "tuple", data := .seq #[] }),
  (32, { cls := .type "tuple", data := .seq #[.str "self" 213, .str "what" 214, .str "at" 215] }),
  (33, { cls := .type "tuple", data := .seq #[] }),
  (35, { cls := .type "code", data := .fields #[.str "__init__" 210, .str "PaperError.__init__" 211, .str "/claim/cut.py" 212, .int 7 0, .int 3 0, .int 0 0, .int 0 0, .int 3 0, .ref 30, .bool true, .int 181 0, .ref 31, .none, .ref 32, .ref 33, .ref 34, .int 216 0, .int 7 0, .str "/claim/cut.py" 217] }),
  (36, fobj (stIn 2 0) "PaperError.__init__" (.ref 29) (.str "paperhold.errors" 194) 35),
  (37, { cls := .type "tuple", data := .seq #[] }),
  (39, { cls := .type "tuple", data := .seq #[.str "self" 222] }),
  (40, { cls := .type "tuple", data := .seq #[] }),
  (42, { cls := .type "code", data := .fields #[.str "told" 219, .str "PaperError.told" 220, .str "/claim/cut.py" 221, .int 12 0, .int 1 0, .int 0 0, .int 0 0, .int 3 0, .ref 37, .bool true, .int 181 0, .ref 38, .none, .ref 39, .ref 40, .ref 41, .int 223 0, .int 12 0, .str "/claim/cut.py" 224] }),
  (43, fobj (stIn 2 1) "PaperError.told" .none (.str "paperhold.errors" 194) 42),
  (44, { cls := .type "tuple", data := .seq #[.str "at" 226, .str "what" 227] }),
  (45, { cls := .type "dict", data := .dict #[{ hash := PyData.keyHash P "__module__", key := .str "__module__" 203, val := .str "paperhold.errors" 194 }, { hash := PyData.keyHash P "__firstlineno__", key := .str "__firstlineno__" 207, val := .int 5 206 }, { hash := PyData.keyHash P "__init__", key := .str "__init__" 218, val := .ref 36 }, { hash := PyData.keyHash P "told", key := .str "told" 225, val := .ref 43 }, { hash := PyData.keyHash P "__static_attributes__", key := .str "__static_attributes__" 228, val := .ref 44 }, { hash := PyData.keyHash P "__weakref__", key := .str "__weakref__" 230, val := .ref 47 }, { hash := PyData.keyHash P "__doc__", key := .str "__doc__" 231, val := .none }] 3 }),
  (46, { cls := .type "type", data := .cls { name := "PaperError", bases := [.type "Exception"], mro := [.ref 46, .type "Exception", .type "BaseException", .type "object"], ns := 45, qualname := "PaperError", subclasses := [.ref 59] }, slots := #[some (.ref 22), none, some (.str "PaperError" 196), some (.str "PaperError" 204), some (.builtin "Exception.__new__"), some (.bool true)] }),
  (47, { cls := .type "getset_descriptor", data := .fields #[.str "__weakref__" 229, .ref 46, .builtin "ExceptionGroup.__weakref__", .none] }),
  (50, { cls := .type "tuple", data := .seq #[.ref 46] }),
  (57, { cls := .type "tuple", data := .seq #[] }),
  (58, { cls := .type "dict", data := .dict #[{ hash := PyData.keyHash P "__module__", key := .str "__module__" 243, val := .str "paperhold.errors" 194 }, { hash := PyData.keyHash P "__firstlineno__", key := .str "__firstlineno__" 247, val := .int 14 246 }, { hash := PyData.keyHash P "__static_attributes__", key := .str "__static_attributes__" 248, val := .ref 57 }, { hash := PyData.keyHash P "__doc__", key := .str "__doc__" 249, val := .none }] 2 }),
  (59, { cls := .type "type", data := .cls { name := "FilterFault", bases := [.ref 46], mro := [.ref 59, .ref 46, .type "Exception", .type "BaseException", .type "object"], ns := 58, qualname := "FilterFault" }, slots := #[some (.ref 50), none, some (.str "FilterFault" 236), some (.str "FilterFault" 244), some (.builtin "Exception.__new__"), some (.bool true)] }),
  (62, { cls := .type "tuple", data := .seq #[] }),
  (64, { cls := .type "tuple", data := .seq #[.str "octets" 263, .str "at" 264] }),
  (65, { cls := .type "tuple", data := .seq #[] }),
  (67, { cls := .type "code", data := .fields #[.str "key_at" 260, .str "key_at" 261, .str "/claim/cut.py" 262, .int 20 0, .int 2 0, .int 0 0, .int 0 0, .int 3 0, .ref 62, .bool true, .int 181 0, .ref 63, .none, .ref 64, .ref 65, .ref 66, .int 265 0, .int 20 0, .str "/claim/cut.py" 266] }),
  (68, fobj (stAt 8) "key_at" .none (.str "paperhold.matches" 252) 67),
  (76, { cls := .type "tuple", data := .seq #[] }),
  (78, { cls := .type "tuple", data := .seq #[.str "self" 283, .str "octets" 284] }),
  (79, { cls := .type "tuple", data := .seq #[] }),
  (81, { cls := .type "code", data := .fields #[.str "__init__" 280, .str "Chains.__init__" 281, .str "/claim/cut.py" 282, .int 24 0, .int 2 0, .int 0 0, .int 0 0, .int 3 0, .ref 76, .bool true, .int 181 0, .ref 77, .none, .ref 78, .ref 79, .ref 80, .int 285 0, .int 24 0, .str "/claim/cut.py" 286] }),
  (82, fobj (stIn 9 0) "Chains.__init__" .none (.str "paperhold.matches" 252) 81),
  (83, { cls := .type "tuple", data := .seq #[] }),
  (85, { cls := .type "tuple", data := .seq #[.str "self" 291, .str "end" 292, .str "at" 293, .str "before" 294, .str "key" 295] }),
  (86, { cls := .type "tuple", data := .seq #[] }),
  (88, { cls := .type "code", data := .fields #[.str "put" 288, .str "Chains.put" 289, .str "/claim/cut.py" 290, .int 29 0, .int 2 0, .int 0 0, .int 0 0, .int 3 0, .ref 83, .bool true, .int 181 0, .ref 84, .none, .ref 85, .ref 86, .ref 87, .int 296 0, .int 29 0, .str "/claim/cut.py" 297] }),
  (89, fobj (stIn 9 1) "Chains.put" .none (.str "paperhold.matches" 252) 88),
  (90, { cls := .type "tuple", data := .seq #[] }),
  (92, { cls := .type "tuple", data := .seq #[.str "self" 302, .str "at" 303, .str "most_back" 304, .str "tries" 305, .str "found" 306, .str "here" 307] }),
  (93, { cls := .type "tuple", data := .seq #[] }),
  (95, { cls := .type "code", data := .fields #[.str "places" 299, .str "Chains.places" 300, .str "/claim/cut.py" 301, .int 39 0, .int 4 0, .int 0 0, .int 0 0, .int 3 0, .ref 90, .bool true, .int 181 0, .ref 91, .none, .ref 92, .ref 93, .ref 94, .int 308 0, .int 39 0, .str "/claim/cut.py" 309] }),
  (96, fobj (stIn 9 2) "Chains.places" .none (.str "paperhold.matches" 252) 95),
  (97, { cls := .type "tuple", data := .seq #[.str "earlier" 311, .str "heads" 312, .str "octets" 313] }),
  (98, { cls := .type "dict", data := .dict #[{ hash := PyData.keyHash P "__module__", key := .str "__module__" 275, val := .str "paperhold.matches" 252 }, { hash := PyData.keyHash P "__firstlineno__", key := .str "__firstlineno__" 279, val := .int 22 278 }, { hash := PyData.keyHash P "__init__", key := .str "__init__" 287, val := .ref 82 }, { hash := PyData.keyHash P "put", key := .str "put" 298, val := .ref 89 }, { hash := PyData.keyHash P "places", key := .str "places" 310, val := .ref 96 }, { hash := PyData.keyHash P "__static_attributes__", key := .str "__static_attributes__" 314, val := .ref 97 }, { hash := PyData.keyHash P "__dict__", key := .str "__dict__" 316, val := .ref 100 }, { hash := PyData.keyHash P "__weakref__", key := .str "__weakref__" 318, val := .ref 101 }, { hash := PyData.keyHash P "__doc__", key := .str "__doc__" 319, val := .none }] 4 }),
  (99, { cls := .type "type", data := .cls { name := "Chains", bases := [.type "object"], mro := [.ref 99, .type "object"], ns := 98, qualname := "Chains" }, slots := #[none, none, some (.str "Chains" 268), some (.str "Chains" 276), some (.builtin "object.__new__"), some (.bool true)] }),
  (100, { cls := .type "getset_descriptor", data := .fields #[.str "__dict__" 315, .ref 99, .builtin "function.__dict__", .builtin "function.__dict__#set"] }),
  (101, { cls := .type "getset_descriptor", data := .fields #[.str "__weakref__" 317, .ref 99, .builtin "ExceptionGroup.__weakref__", .none] }),
  (104, { cls := .type "tuple", data := .seq #[] }),
  (106, { cls := .type "tuple", data := .seq #[.str "octets" 325, .str "back" 326, .str "at" 327, .str "most" 328, .str "length" 329, .str "end" 330] }),
  (107, { cls := .type "tuple", data := .seq #[] }),
  (109, { cls := .type "code", data := .fields #[.str "common_length" 322, .str "common_length" 323, .str "/claim/cut.py" 324, .int 48 0, .int 4 0, .int 0 0, .int 0 0, .int 3 0, .ref 104, .bool true, .int 181 0, .ref 105, .none, .ref 106, .ref 107, .ref 108, .int 331 0, .int 48 0, .str "/claim/cut.py" 332] }),
  (110, fobj (stAt 10) "common_length" .none (.str "paperhold.matches" 252) 109),
  (111, { cls := .type "tuple", data := .seq #[] }),
  (113, { cls := .type "tuple", data := .seq #[.str "chains" 337, .str "at" 338, .str "most_back" 339, .str "most_length" 340, .str "tries" 341, .str "best" 342, .str "back" 343, .str "length" 344] }),
  (114, { cls := .type "tuple", data := .seq #[] }),
  (116, { cls := .type "code", data := .fields #[.str "match_at" 334, .str "match_at" 335, .str "/claim/cut.py" 336, .int 54 0, .int 5 0, .int 0 0, .int 0 0, .int 3 0, .ref 111, .bool true, .int 181 0, .ref 112, .none, .ref 113, .ref 114, .ref 115, .int 345 0, .int 54 0, .str "/claim/cut.py" 346] }),
  (117, fobj (stAt 11) "match_at" .none (.str "paperhold.matches" 252) 116),
  (118, { cls := .type "tuple", data := .seq #[.int 32768 258, .int 258 256, .int 8 348] }),
  (119, { cls := .type "tuple", data := .seq #[] }),
  (121, { cls := .type "tuple", data := .seq #[.str "octets" 352, .str "most_back" 353, .str "most_length" 354, .str "tries" 355, .str "chains" 356, .str "parts" 357, .str "at" 358, .str "match" 359] }),
  (122, { cls := .type "tuple", data := .seq #[] }),
  (124, { cls := .type "code", data := .fields #[.str "find_matches" 349, .str "find_matches" 350, .str "/claim/cut.py" 351, .int 62 0, .int 4 0, .int 0 0, .int 0 0, .int 3 0, .ref 119, .bool true, .int 181 0, .ref 120, .none, .ref 121, .ref 122, .ref 123, .int 360 0, .int 62 0, .str "/claim/cut.py" 361] }),
  (125, fobj (stAt 12) "find_matches" (.ref 118) (.str "paperhold.matches" 252) 124),
  (126, { cls := .type "tuple", data := .seq #[.int 32768 258, .int 258 256, .int 8 363] }),
  (127, { cls := .type "tuple", data := .seq #[] }),
  (129, { cls := .type "tuple", data := .seq #[.str "octets" 367, .str "most_back" 368, .str "most_length" 369, .str "tries" 370, .str "chains" 371, .str "parts" 372, .str "at" 373, .str "match" 374, .str "later" 375] }),
  (130, { cls := .type "tuple", data := .seq #[] }),
  (132, { cls := .type "code", data := .fields #[.str "lazy_matches" 364, .str "lazy_matches" 365, .str "/claim/cut.py" 366, .int 75 0, .int 4 0, .int 0 0, .int 0 0, .int 3 0, .ref 127, .bool true, .int 181 0, .ref 128, .none, .ref 129, .ref 130, .ref 131, .int 376 0, .int 75 0, .str "/claim/cut.py" 377] }),
  (133, fobj (stAt 13) "lazy_matches" (.ref 126) (.str "paperhold.matches" 252) 132),
  (134, { cls := .type "tuple", data := .seq #[] }),
  (136, { cls := .type "tuple", data := .seq #[.str "chains" 382, .str "at" 383, .str "most_back" 384, .str "most_length" 385, .str "tries" 386, .str "found" 387, .str "known" 388, .str "back" 389, .str "length" 390] }),
  (137, { cls := .type "tuple", data := .seq #[] }),
  (139, { cls := .type "code", data := .fields #[.str "matches_by_length" 379, .str "matches_by_length" 380, .str "/claim/cut.py" 381, .int 91 0, .int 5 0, .int 0 0, .int 0 0, .int 3 0, .ref 134, .bool true, .int 181 0, .ref 135, .none, .ref 136, .ref 137, .ref 138, .int 391 0, .int 91 0, .str "/claim/cut.py" 392] }),
  (140, fobj (stAt 14) "matches_by_length" .none (.str "paperhold.matches" 252) 139),
  (141, { cls := .type "tuple", data := .seq #[.int 32768 258, .int 258 256, .int 8 394] }),
  (142, { cls := .type "tuple", data := .seq #[] }),
  (145, { cls := .type "code", data := .fields #[.str "cheapest_parts" 395, .str "cheapest_parts" 396, .str "/claim/cut.py" 397, .int 101 0, .int 5 0, .int 0 0, .int 0 0, .int 3 0, .ref 142, .bool true, .int 181 0, .ref 143, .none, .none, .none, .ref 144, .int 398 0, .int 101 0, .str "/claim/cut.py" 399] }),
  (146, fobj (stAt 15) "cheapest_parts" (.ref 141) (.str "paperhold.matches" 252) 145),
  (147, { cls := .type "tuple", data := .seq #[] }),
  (149, { cls := .type "tuple", data := .seq #[.str "parts" 404, .str "prices" 405, .str "total" 406, .str "part" 407] }),
  (150, { cls := .type "tuple", data := .seq #[] }),
  (152, { cls := .type "code", data := .fields #[.str "cost_of" 401, .str "cost_of" 402, .str "/claim/cut.py" 403, .int 123 0, .int 2 0, .int 0 0, .int 0 0, .int 3 0, .ref 147, .bool true, .int 181 0, .ref 148, .none, .ref 149, .ref 150, .ref 151, .int 408 0, .int 123 0, .str "/claim/cut.py" 409] }),
  (153, fobj (stAt 16) "cost_of" .none (.str "paperhold.matches" 252) 152),
  (154, { cls := .type "tuple", data := .seq #[] }),
  (156, { cls := .type "tuple", data := .seq #[.str "part" 414] }),
  (157, { cls := .type "tuple", data := .seq #[] }),
  (159, { cls := .type "code", data := .fields #[.str "length_of" 411, .str "length_of" 412, .str "/claim/cut.py" 413, .int 131 0, .int 1 0, .int 0 0, .int 0 0, .int 3 0, .ref 154, .bool true, .int 181 0, .ref 155, .none, .ref 156, .ref 157, .ref 158, .int 415 0, .int 131 0, .str "/claim/cut.py" 416] }),
  (160, fobj (stAt 17) "length_of" .none (.str "paperhold.matches" 252) 159),
  (161, { cls := .type "tuple", data := .seq #[] }),
  (163, { cls := .type "tuple", data := .seq #[.str "parts" 421, .str "out" 422, .str "part" 423, .str "length" 424, .str "distance" 425, .str "turn" 426] }),
  (164, { cls := .type "tuple", data := .seq #[] }),
  (166, { cls := .type "code", data := .fields #[.str "expanded" 418, .str "expanded" 419, .str "/claim/cut.py" 420, .int 135 0, .int 1 0, .int 0 0, .int 0 0, .int 3 0, .ref 161, .bool true, .int 181 0, .ref 162, .none, .ref 163, .ref 164, .ref 165, .int 427 0, .int 135 0, .str "/claim/cut.py" 428] }),
  (167, fobj (stAt 18) "expanded" .none (.str "paperhold.matches" 252) 166),
  (168, { cls := .type "tuple", data := .seq #[] }),
  (170, { cls := .type "tuple", data := .seq #[.str "number" 437, .str "small" 438, .str "bits" 439] }),
  (171, { cls := .type "tuple", data := .seq #[] }),
  (173, { cls := .type "code", data := .fields #[.str "split_number" 434, .str "split_number" 435, .str "/claim/cut.py" 436, .int 149 0, .int 2 0, .int 0 0, .int 0 0, .int 3 0, .ref 168, .bool true, .int 181 0, .ref 169, .none, .ref 170, .ref 171, .ref 172, .int 440 0, .int 149 0, .str "/claim/cut.py" 441] }),
  (174, fobj (stAt 21) "split_number" .none (.str "paperhold.deflate" 430) 173),
  (175, { cls := .type "tuple", data := .seq #[] }),
  (177, { cls := .type "tuple", data := .seq #[.str "length" 446, .str "group" 447, .str "bits" 448, .str "rest" 449] }),
  (178, { cls := .type "tuple", data := .seq #[] }),
  (180, { cls := .type "code", data := .fields #[.str "length_symbol" 443, .str "length_symbol" 444, .str "/claim/cut.py" 445, .int 154 0, .int 1 0, .int 0 0, .int 0 0, .int 3 0, .ref 175, .bool true, .int 181 0, .ref 176, .none, .ref 177, .ref 178, .ref 179, .int 450 0, .int 154 0, .str "/claim/cut.py" 451] }),
  (181, fobj (stAt 22) "length_symbol" .none (.str "paperhold.deflate" 430) 180),
  (182, { cls := .type "tuple", data := .seq #[] }),
  (184, { cls := .type "tuple", data := .seq #[.str "distance" 456] }),
  (185, { cls := .type "tuple", data := .seq #[] }),
  (187, { cls := .type "code", data := .fields #[.str "distance_symbol" 453, .str "distance_symbol" 454, .str "/claim/cut.py" 455, .int 159 0, .int 1 0, .int 0 0, .int 0 0, .int 3 0, .ref 182, .bool true, .int 181 0, .ref 183, .none, .ref 184, .ref 185, .ref 186, .int 457 0, .int 159 0, .str "/claim/cut.py" 458] }),
  (188, fobj (stAt 23) "distance_symbol" .none (.str "paperhold.deflate" 430) 187),
  (196, { cls := .type "tuple", data := .seq #[] }),
  (198, { cls := .type "tuple", data := .seq #[.str "self" 475, .str "literals" 476, .str "distances" 477] }),
  (199, { cls := .type "tuple", data := .seq #[] }),
  (201, { cls := .type "code", data := .fields #[.str "__init__" 472, .str "Prices.__init__" 473, .str "/claim/cut.py" 474, .int 163 0, .int 3 0, .int 0 0, .int 0 0, .int 3 0, .ref 196, .bool true, .int 181 0, .ref 197, .none, .ref 198, .ref 199, .ref 200, .int 478 0, .int 163 0, .str "/claim/cut.py" 479] }),
  (202, fobj (stIn 24 0) "Prices.__init__" .none (.str "paperhold.deflate" 430) 201),
  (203, { cls := .type "tuple", data := .seq #[] }),
  (205, { cls := .type "tuple", data := .seq #[.str "self" 484, .str "octet" 485] }),
  (206, { cls := .type "tuple", data := .seq #[] }),
  (208, { cls := .type "code", data := .fields #[.str "literal" 481, .str "Prices.literal" 482, .str "/claim/cut.py" 483, .int 167 0, .int 2 0, .int 0 0, .int 0 0, .int 3 0, .ref 203, .bool true, .int 181 0, .ref 204, .none, .ref 205, .ref 206, .ref 207, .int 486 0, .int 167 0, .str "/claim/cut.py" 487] }),
  (209, fobj (stIn 24 1) "Prices.literal" .none (.str "paperhold.deflate" 430) 208),
  (210, { cls := .type "tuple", data := .seq #[] }),
  (212, { cls := .type "tuple", data := .seq #[.str "self" 492, .str "length" 493, .str "distance" 494, .str "symbol" 495, .str "bits" 496, .str "rest" 497, .str "back" 498, .str "more" 499] }),
  (213, { cls := .type "tuple", data := .seq #[] }),
  (215, { cls := .type "code", data := .fields #[.str "match" 489, .str "Prices.match" 490, .str "/claim/cut.py" 491, .int 170 0, .int 3 0, .int 0 0, .int 0 0, .int 3 0, .ref 210, .bool true, .int 181 0, .ref 211, .none, .ref 212, .ref 213, .ref 214, .int 500 0, .int 170 0, .str "/claim/cut.py" 501] }),
  (216, fobj (stIn 24 2) "Prices.match" .none (.str "paperhold.deflate" 430) 215),
  (217, { cls := .type "tuple", data := .seq #[.str "distances" 503, .str "literals" 504] }),
  (218, { cls := .type "dict", data := .dict #[{ hash := PyData.keyHash P "__module__", key := .str "__module__" 467, val := .str "paperhold.deflate" 430 }, { hash := PyData.keyHash P "__firstlineno__", key := .str "__firstlineno__" 471, val := .int 161 470 }, { hash := PyData.keyHash P "__init__", key := .str "__init__" 480, val := .ref 202 }, { hash := PyData.keyHash P "literal", key := .str "literal" 488, val := .ref 209 }, { hash := PyData.keyHash P "match", key := .str "match" 502, val := .ref 216 }, { hash := PyData.keyHash P "__static_attributes__", key := .str "__static_attributes__" 505, val := .ref 217 }, { hash := PyData.keyHash P "__dict__", key := .str "__dict__" 507, val := .ref 220 }, { hash := PyData.keyHash P "__weakref__", key := .str "__weakref__" 509, val := .ref 221 }, { hash := PyData.keyHash P "__doc__", key := .str "__doc__" 510, val := .none }] 4 }),
  (219, { cls := .type "type", data := .cls { name := "Prices", bases := [.type "object"], mro := [.ref 219, .type "object"], ns := 218, qualname := "Prices" }, slots := #[none, none, some (.str "Prices" 460), some (.str "Prices" 468), some (.builtin "object.__new__"), some (.bool true)] }),
  (220, { cls := .type "getset_descriptor", data := .fields #[.str "__dict__" 506, .ref 219, .builtin "function.__dict__", .builtin "function.__dict__#set"] }),
  (221, { cls := .type "getset_descriptor", data := .fields #[.str "__weakref__" 508, .ref 219, .builtin "ExceptionGroup.__weakref__", .none] }),
  (224, { cls := .type "tuple", data := .seq #[.int 0 515, .int 0 516] }),
  (225, { cls := .type "tuple", data := .seq #[.int 1 517, .int 0 518] }),
  (226, { cls := .type "tuple", data := .seq #[.int 2 519, .int 0 520] }),
  (227, { cls := .type "tuple", data := .seq #[.int 3 521, .int 0 522] }),
  (228, { cls := .type "tuple", data := .seq #[.int 4 523, .int 1 524] }),
  (229, { cls := .type "tuple", data := .seq #[.int 4 525, .int 1 526] }),
  (230, { cls := .type "tuple", data := .seq #[.int 5 527, .int 1 528] }),
  (231, { cls := .type "tuple", data := .seq #[.int 5 529, .int 1 530] }),
  (232, { cls := .type "tuple", data := .seq #[.int 6 531, .int 2 532] }),
  (233, { cls := .type "tuple", data := .seq #[.int 6 533, .int 2 534] }),
  (234, { cls := .type "tuple", data := .seq #[.int 6 535, .int 2 536] }),
  (235, { cls := .type "tuple", data := .seq #[.int 6 537, .int 2 538] }),
  (236, { cls := .type "tuple", data := .seq #[.int 7 539, .int 2 540] }),
  (237, { cls := .type "tuple", data := .seq #[.int 7 541, .int 2 542] }),
  (238, { cls := .type "tuple", data := .seq #[.int 7 543, .int 2 544] }),
  (239, { cls := .type "tuple", data := .seq #[.int 7 545, .int 2 546] }),
  (240, { cls := .type "tuple", data := .seq #[.ref 224, .ref 225, .ref 226, .ref 227, .ref 228, .ref 229, .ref 230, .ref 231, .ref 232, .ref 233, .ref 234, .ref 235, .ref 236, .ref 237, .ref 238, .ref 239] }),
  (241, { cls := .type "tuple", data := .seq #[] }),
  (243, { cls := .type "tuple", data := .seq #[.str "script" 551, .str "take" 552] }),
  (244, { cls := .type "tuple", data := .seq #[.str "cells" 553, .str "place" 554] }),
  (246, { cls := .type "code", data := .fields #[.str "_law_taker" 548, .str "_law_taker" 549, .str "/claim/cut.py" 550, .int 176 0, .int 1 0, .int 0 0, .int 0 0, .int 3 0, .ref 241, .bool true, .int 181 0, .ref 242, .none, .ref 243, .ref 244, .ref 245, .int 555 0, .int 176 0, .str "/claim/cut.py" 556] }),
  (247, fobj (stAt 27) "_law_taker" .none (.str "law_nn0118_01" 513) 246),
  (248, { cls := .type "tuple", data := .seq #[] }),
  (251, { cls := .type "code", data := .fields #[.str "_law_places" 558, .str "_law_places" 559, .str "/claim/cut.py" 560, .int 188 0, .int 4 0, .int 0 0, .int 0 0, .int 3 0, .ref 248, .bool true, .int 181 0, .ref 249, .none, .none, .none, .ref 250, .int 561 0, .int 188 0, .str "/claim/cut.py" 562] }),
  (252, fobj (stAt 28) "_law_places" .none (.str "law_nn0118_01" 513) 251),
  (253, { cls := .type "tuple", data := .seq #[] }),
  (255, { cls := .type "tuple", data := .seq #[.str "octets" 567, .str "back" 568, .str "at" 569, .str "most_length" 570, .str "length" 571] }),
  (256, { cls := .type "tuple", data := .seq #[] }),
  (258, { cls := .type "code", data := .fields #[.str "_law_common" 564, .str "_law_common" 565, .str "/claim/cut.py" 566, .int 192 0, .int 4 0, .int 0 0, .int 0 0, .int 3 0, .ref 253, .bool true, .int 181 0, .ref 254, .none, .ref 255, .ref 256, .ref 257, .int 572 0, .int 192 0, .str "/claim/cut.py" 573] }),
  (259, fobj (stAt 29) "_law_common" .none (.str "law_nn0118_01" 513) 258),
  (260, { cls := .type "tuple", data := .seq #[] }),
  (262, { cls := .type "tuple", data := .seq #[.str "octets" 578, .str "at" 579, .str "bounds" 580, .str "best" 581, .str "back" 582, .str "length" 583] }),
  (263, { cls := .type "tuple", data := .seq #[] }),
  (265, { cls := .type "code", data := .fields #[.str "_law_match" 575, .str "_law_match" 576, .str "/claim/cut.py" 577, .int 197 0, .int 3 0, .int 0 0, .int 0 0, .int 3 0, .ref 260, .bool true, .int 181 0, .ref 261, .none, .ref 262, .ref 263, .ref 264, .int 584 0, .int 197 0, .str "/claim/cut.py" 585] }),
  (266, fobj (stAt 30) "_law_match" .none (.str "law_nn0118_01" 513) 265),
  (267, { cls := .type "tuple", data := .seq #[] }),
  (269, { cls := .type "tuple", data := .seq #[.str "octets" 590, .str "bounds" 591, .str "is_lazy" 592, .str "parts" 593, .str "at" 594, .str "match" 595] }),
  (270, { cls := .type "tuple", data := .seq #[] }),
  (272, { cls := .type "code", data := .fields #[.str "_law_greedy" 587, .str "_law_greedy" 588, .str "/claim/cut.py" 589, .int 204 0, .int 3 0, .int 0 0, .int 0 0, .int 3 0, .ref 267, .bool true, .int 181 0, .ref 268, .none, .ref 269, .ref 270, .ref 271, .int 596 0, .int 204 0, .str "/claim/cut.py" 597] }),
  (273, fobj (stAt 31) "_law_greedy" .none (.str "law_nn0118_01" 513) 272),
  (274, { cls := .type "tuple", data := .seq #[] }),
  (276, { cls := .type "tuple", data := .seq #[.str "prices" 602, .str "part" 603, .str "literals" 604, .str "distances" 605, .str "symbol" 606, .str "extra" 607] }),
  (277, { cls := .type "tuple", data := .seq #[] }),
  (279, { cls := .type "code", data := .fields #[.str "_law_price" 599, .str "_law_price" 600, .str "/claim/cut.py" 601, .int 216 0, .int 2 0, .int 0 0, .int 0 0, .int 3 0, .ref 274, .bool true, .int 181 0, .ref 275, .none, .ref 276, .ref 277, .ref 278, .int 608 0, .int 216 0, .str "/claim/cut.py" 609] }),
  (280, fobj (stAt 32) "_law_price" .none (.str "law_nn0118_01" 513) 279),
  (281, { cls := .type "tuple", data := .seq #[] }),
  (284, { cls := .type "code", data := .fields #[.str "_law_cheapest" 611, .str "_law_cheapest" 612, .str "/claim/cut.py" 613, .int 222 0, .int 3 0, .int 0 0, .int 0 0, .int 3 0, .ref 281, .bool true, .int 181 0, .ref 282, .none, .none, .none, .ref 283, .int 614 0, .int 222 0, .str "/claim/cut.py" 615] }),
  (285, fobj (stAt 33) "_law_cheapest" .none (.str "law_nn0118_01" 513) 284),
  (286, { cls := .type "tuple", data := .seq #[] }),
  (288, { cls := .type "tuple", data := .seq #[.str "parts" 620, .str "fault" 621] }),
  (289, { cls := .type "tuple", data := .seq #[] }),
  (291, { cls := .type "code", data := .fields #[.str "_law_fault_place" 617, .str "_law_fault_place" 618, .str "/claim/cut.py" 619, .int 236 0, .int 1 0, .int 0 0, .int 0 0, .int 3 0, .ref 286, .bool true, .int 181 0, .ref 287, .none, .ref 288, .ref 289, .ref 290, .int 622 0, .int 236 0, .str "/claim/cut.py" 623] }),
  (292, fobj (stAt 34) "_law_fault_place" .none (.str "law_nn0118_01" 513) 291),
  (293, { cls := .type "tuple", data := .seq #[] }),
  (296, { cls := .type "code", data := .fields #[.str "law" 625, .str "law" 626, .str "/claim/cut.py" 627, .int 242 0, .int 1 0, .int 0 0, .int 0 0, .int 3 0, .ref 293, .bool true, .int 181 0, .ref 294, .none, .none, .none, .ref 295, .int 628 0, .int 242 0, .str "/claim/cut.py" 629] }),
  (297, fobj (stAt 35) "law" .none (.str "law_nn0118_01" 513) 296)]
noncomputable def lq : List Str := ["PaperError", "find_matches", "lazy_matches", "cheapest_parts"]
noncomputable def vq : Program := view pwP [0, 2, 3, 5, 6, 7, 8, 9, 10, 11, 14, 16, 17, 18, 20, 21, 22, 23, 24, 26, 27, 28, 29, 30, 31, 32, 33, 34, 35]
theorem asK_eq : ∀ P, asK = (KF P).map (·.1) := fun _ => by kernel_rfl
noncomputable def HK : Hook := kmHook KF asK asK_eq [242]
noncomputable def XtK (s : Shared) : Bool := xlAt vq [] s && recOk (RowW.records PySem.Challenge.rw_nn0118_01.row.toRowW) s
noncomputable def ob43 (P : Params) : Obj := { cls := .type "tuple", data := .seq #[] }
noncomputable def ob44 (P : Params) : Obj := { cls := .none, data := .fields #[] }
noncomputable def ob45 (P : Params) : Obj := { cls := .type "code", data := .fields #[.str "<module>" 182, .str "<module>" 183, .str "/claim/cut.py" 184, .int 1 0, .int 0 0, .int 0 0, .int 0 0, .int 0 0, .ref 11, .bool Bool.false, .int 181 0, .ref 12, .none, .none, .none, .none, .int 185 0, .int 1 0, .str "/claim/cut.py" 186] }
noncomputable def ob46 (P : Params) : Obj := { cls := .type "frame", slots := #[some (.ref 13), some (.ref 3), some (.ref 3), none, some (.str "__main__" 164), none, some (.ref 0)] }
noncomputable def ob49 (P : Params) : Obj := { cls := .none, data := .dict #[{ hash := PyData.keyHash P "type.__subclasses__.Exception.0", key := .str "type.__subclasses__.Exception.0" 232, val := .int 46 0 }, { hash := PyData.keyHash P "type.__subclasses__.Exception.n", key := .str "type.__subclasses__.Exception.n" 233, val := .int 1 0 }] 2 }
noncomputable def ob50 (P : Params) : Obj := { cls := .type "dict", data := .dict #[{ hash := PyData.keyHash P "__name__", key := .str "__name__" 165, val := .str "paperhold.errors" 194 }, { hash := PyData.keyHash P "__doc__", key := .str "__doc__" 166, val := .none }, { hash := PyData.keyHash P "__package__", key := .str "__package__" 167, val := .none }, { hash := PyData.keyHash P "__loader__", key := .str "__loader__" 168, val := .builtin "__main__.__loader__#opaque" }, { hash := PyData.keyHash P "__spec__", key := .str "__spec__" 169, val := .none }, { hash := PyData.keyHash P "__annotations__", key := .str "__annotations__" 170, val := .ref 6 }, { hash := PyData.keyHash P "__builtins__", key := .str "__builtins__" 171, val := .ref 4 }, { hash := PyData.keyHash P "__file__", key := .str "__file__" 173, val := .str "/claim/cut.py" 172 }, { hash := PyData.keyHash P "__cached__", key := .str "__cached__" 174, val := .none }, { hash := PyData.keyHash P "_wall", key := .str "_wall" 193, val := .ref 21 }, { hash := PyData.keyHash P "PaperError", key := .str "PaperError" 235, val := .ref 46 }] 11 }
noncomputable def ob51 (P : Params) : Obj := { cls := .none, data := .fields #[.int 1 0, .int 0 0, .ref 20, .int 5 0, .int 0 0, .ref 27] }
noncomputable def ob52 (P : Params) : Obj := { cls := .type "tuple", data := .seq #[] }
noncomputable def ob53 (P : Params) : Obj := { cls := .none, data := .fields #[] }
noncomputable def ob54 (P : Params) : Obj := { cls := .type "tuple", data := .seq #[.str "k" 190] }
noncomputable def ob55 (P : Params) : Obj := { cls := .type "tuple", data := .seq #[] }
noncomputable def ob56 (P : Params) : Obj := fob0 (stAt 0) "_wall"
noncomputable def ob57 (P : Params) : Obj := { cls := .type "code", data := .fields #[.str "_wall" 187, .str "_wall" 188, .str "/claim/cut.py" 189, .int 1 0, .int 1 0, .int 0 0, .int 0 0, .int 3 0, .ref 15, .bool Bool.true, .int 181 0, .ref 16, .none, .ref 17, .ref 18, .ref 19, .int 191 0, .int 1 0, .str "/claim/cut.py" 192] }
noncomputable def ob58 (P : Params) : Obj := fobj (stAt 0) "_wall" .none (.str "__main__" 164) 20
noncomputable def ob59 (P : Params) : Obj := { cls := .type "tuple", data := .seq #[.type "Exception"] }
noncomputable def ob60 (P : Params) : Obj := { cls := .type "builtin_function_or_method", data := .fields #[.builtin "type.__prepare__", .type "type"] }
noncomputable def ob61 (P : Params) : Obj := { cls := .type "dict", data := .dict #[{ hash := PyData.keyHash P "__module__", key := .str "__module__" 203, val := .str "paperhold.errors" 194 }, { hash := PyData.keyHash P "__qualname__", key := .str "__qualname__" 205, val := .str "PaperError" 204 }, { hash := PyData.keyHash P "__firstlineno__", key := .str "__firstlineno__" 207, val := .int 5 206 }, { hash := PyData.keyHash P "__init__", key := .str "__init__" 218, val := .ref 36 }, { hash := PyData.keyHash P "told", key := .str "told" 225, val := .ref 43 }, { hash := PyData.keyHash P "__static_attributes__", key := .str "__static_attributes__" 228, val := .ref 44 }] 6 }
noncomputable def ob62 (P : Params) : Obj := { cls := .type "tuple", data := .seq #[] }
noncomputable def ob63 (P : Params) : Obj := { cls := .none, data := .fields #[.int 7 0, .int 4 0, .ref 35, .int 12 0, .int 4 0, .ref 42] }
noncomputable def ob64 (P : Params) : Obj := { cls := .type "code", data := .fields #[.str "PaperError" 198, .str "PaperError" 199, .str "/claim/cut.py" 200, .int 5 0, .int 0 0, .int 0 0, .int 0 0, .int 0 0, .ref 25, .bool Bool.false, .int 181 0, .ref 26, .none, .none, .none, .none, .int 201 0, .int 5 0, .str "/claim/cut.py" 202] }
noncomputable def ob65 (P : Params) : Obj := { cls := .type "frame", slots := #[some (.ref 27), some (.ref 3), some (.ref 24), none, some (.str "paperhold.errors" 194), none, some (.ref 0)] }
noncomputable def ob66 (P : Params) : Obj := { cls := .type "tuple", data := .seq #[.int (-1) 209] }
noncomputable def ob67 (P : Params) : Obj := { cls := .type "tuple", data := .seq #[] }
noncomputable def ob68 (P : Params) : Obj := { cls := .none, data := .fields #[] }
noncomputable def ob69 (P : Params) : Obj := { cls := .type "tuple", data := .seq #[.str "self" 213, .str "what" 214, .str "at" 215] }
noncomputable def ob70 (P : Params) : Obj := { cls := .type "tuple", data := .seq #[] }
noncomputable def ob71 (P : Params) : Obj := fob0 (stIn 2 0) "PaperError.__init__"
noncomputable def ob72 (P : Params) : Obj := { cls := .type "code", data := .fields #[.str "__init__" 210, .str "PaperError.__init__" 211, .str "/claim/cut.py" 212, .int 7 0, .int 3 0, .int 0 0, .int 0 0, .int 3 0, .ref 30, .bool Bool.true, .int 181 0, .ref 31, .none, .ref 32, .ref 33, .ref 34, .int 216 0, .int 7 0, .str "/claim/cut.py" 217] }
noncomputable def ob73 (P : Params) : Obj := fobj (stIn 2 0) "PaperError.__init__" (.ref 29) (.str "paperhold.errors" 194) 35
noncomputable def ob74 (P : Params) : Obj := { cls := .type "tuple", data := .seq #[] }
noncomputable def ob75 (P : Params) : Obj := { cls := .none, data := .fields #[] }
noncomputable def ob76 (P : Params) : Obj := { cls := .type "tuple", data := .seq #[.str "self" 222] }
noncomputable def ob77 (P : Params) : Obj := { cls := .type "tuple", data := .seq #[] }
noncomputable def ob78 (P : Params) : Obj := fob0 (stIn 2 1) "PaperError.told"
noncomputable def ob79 (P : Params) : Obj := { cls := .type "code", data := .fields #[.str "told" 219, .str "PaperError.told" 220, .str "/claim/cut.py" 221, .int 12 0, .int 1 0, .int 0 0, .int 0 0, .int 3 0, .ref 37, .bool Bool.true, .int 181 0, .ref 38, .none, .ref 39, .ref 40, .ref 41, .int 223 0, .int 12 0, .str "/claim/cut.py" 224] }
noncomputable def ob80 (P : Params) : Obj := fobj (stIn 2 1) "PaperError.told" .none (.str "paperhold.errors" 194) 42
noncomputable def ob81 (P : Params) : Obj := { cls := .type "tuple", data := .seq #[.str "at" 226, .str "what" 227] }
noncomputable def ob82 (P : Params) : Obj := { cls := .type "dict", data := .dict #[{ hash := PyData.keyHash P "__module__", key := .str "__module__" 203, val := .str "paperhold.errors" 194 }, { hash := PyData.keyHash P "__firstlineno__", key := .str "__firstlineno__" 207, val := .int 5 206 }, { hash := PyData.keyHash P "__init__", key := .str "__init__" 218, val := .ref 36 }, { hash := PyData.keyHash P "told", key := .str "told" 225, val := .ref 43 }, { hash := PyData.keyHash P "__static_attributes__", key := .str "__static_attributes__" 228, val := .ref 44 }, { hash := PyData.keyHash P "__weakref__", key := .str "__weakref__" 230, val := .ref 47 }, { hash := PyData.keyHash P "__doc__", key := .str "__doc__" 231, val := .none }] 3 }
noncomputable def ob83 (P : Params) : Obj := { cls := .type "type", data := .cls { name := "PaperError", bases := [.type "Exception"], mro := [.ref 46, .type "Exception", .type "BaseException", .type "object"], ns := 45, qualname := "PaperError" }, slots := #[some (.ref 22), none, some (.str "PaperError" 196), some (.str "PaperError" 204), some (.builtin "Exception.__new__"), some (.bool Bool.true)] }
noncomputable def ob84 (P : Params) : Obj := { cls := .type "getset_descriptor", data := .fields #[.str "__weakref__" 229, .ref 46, .builtin "ExceptionGroup.__weakref__", .none] }
noncomputable def ob85 (P : Params) : Obj := { cls := .type "super", data := .fields #[.ref 46, .ref 46, .ref 46] }
noncomputable def ob86 (P : Params) : Obj := { cls := .type "builtin_function_or_method", data := .fields #[.builtin "object.__init_subclass__", .ref 46] }
noncomputable def ob87 (P : Params) : Obj := { cls := .type "dict", data := .dict #[{ hash := PyData.keyHash P "__name__", key := .str "__name__" 165, val := .str "paperhold.matches" 252 }, { hash := PyData.keyHash P "__doc__", key := .str "__doc__" 166, val := .none }, { hash := PyData.keyHash P "__package__", key := .str "__package__" 167, val := .none }, { hash := PyData.keyHash P "__loader__", key := .str "__loader__" 168, val := .builtin "__main__.__loader__#opaque" }, { hash := PyData.keyHash P "__spec__", key := .str "__spec__" 169, val := .none }, { hash := PyData.keyHash P "__annotations__", key := .str "__annotations__" 170, val := .ref 6 }, { hash := PyData.keyHash P "__builtins__", key := .str "__builtins__" 171, val := .ref 4 }, { hash := PyData.keyHash P "__file__", key := .str "__file__" 173, val := .str "/claim/cut.py" 172 }, { hash := PyData.keyHash P "__cached__", key := .str "__cached__" 174, val := .none }, { hash := PyData.keyHash P "_wall", key := .str "_wall" 193, val := .ref 21 }, { hash := PyData.keyHash P "PaperError", key := .str "PaperError" 235, val := .ref 46 }, { hash := PyData.keyHash P "FilterFault", key := .str "FilterFault" 251, val := .ref 59 }, { hash := PyData.keyHash P "LEAST", key := .str "LEAST" 255, val := .int 3 254 }, { hash := PyData.keyHash P "MOST_LENGTH", key := .str "MOST_LENGTH" 257, val := .int 258 256 }, { hash := PyData.keyHash P "MOST_BACK", key := .str "MOST_BACK" 259, val := .int 32768 258 }, { hash := PyData.keyHash P "key_at", key := .str "key_at" 267, val := .ref 68 }] 16 }
noncomputable def ob88 (P : Params) : Obj := { cls := .none, data := .fields #[.int 1 0, .int 0 0, .ref 20, .int 5 0, .int 0 0, .ref 27, .int 14 0, .int 0 0, .ref 55, .int 20 0, .int 0 0, .ref 67] }
noncomputable def ob89 (P : Params) : Obj := { cls := .type "type", data := .cls { name := "PaperError", bases := [.type "Exception"], mro := [.ref 46, .type "Exception", .type "BaseException", .type "object"], ns := 45, qualname := "PaperError", subclasses := [.ref 59] }, slots := #[some (.ref 22), none, some (.str "PaperError" 196), some (.str "PaperError" 204), some (.builtin "Exception.__new__"), some (.bool Bool.true)] }
noncomputable def ob90 (P : Params) : Obj := { cls := .type "tuple", data := .seq #[.ref 46] }
noncomputable def ob91 (P : Params) : Obj := { cls := .type "builtin_function_or_method", data := .fields #[.builtin "type.__prepare__", .type "type"] }
noncomputable def ob92 (P : Params) : Obj := { cls := .type "dict", data := .dict #[{ hash := PyData.keyHash P "__module__", key := .str "__module__" 243, val := .str "paperhold.errors" 194 }, { hash := PyData.keyHash P "__qualname__", key := .str "__qualname__" 245, val := .str "FilterFault" 244 }, { hash := PyData.keyHash P "__firstlineno__", key := .str "__firstlineno__" 247, val := .int 14 246 }, { hash := PyData.keyHash P "__static_attributes__", key := .str "__static_attributes__" 248, val := .ref 57 }] 4 }
noncomputable def ob93 (P : Params) : Obj := { cls := .type "tuple", data := .seq #[] }
noncomputable def ob94 (P : Params) : Obj := { cls := .none, data := .fields #[] }
noncomputable def ob95 (P : Params) : Obj := { cls := .type "code", data := .fields #[.str "FilterFault" 238, .str "FilterFault" 239, .str "/claim/cut.py" 240, .int 14 0, .int 0 0, .int 0 0, .int 0 0, .int 0 0, .ref 53, .bool Bool.false, .int 181 0, .ref 54, .none, .none, .none, .none, .int 241 0, .int 14 0, .str "/claim/cut.py" 242] }
noncomputable def ob96 (P : Params) : Obj := { cls := .type "frame", slots := #[some (.ref 55), some (.ref 3), some (.ref 52), none, some (.str "paperhold.errors" 194), none, some (.ref 0)] }
noncomputable def ob97 (P : Params) : Obj := { cls := .type "tuple", data := .seq #[] }
noncomputable def ob98 (P : Params) : Obj := { cls := .type "dict", data := .dict #[{ hash := PyData.keyHash P "__module__", key := .str "__module__" 243, val := .str "paperhold.errors" 194 }, { hash := PyData.keyHash P "__firstlineno__", key := .str "__firstlineno__" 247, val := .int 14 246 }, { hash := PyData.keyHash P "__static_attributes__", key := .str "__static_attributes__" 248, val := .ref 57 }, { hash := PyData.keyHash P "__doc__", key := .str "__doc__" 249, val := .none }] 2 }
noncomputable def ob99 (P : Params) : Obj := { cls := .type "type", data := .cls { name := "FilterFault", bases := [.ref 46], mro := [.ref 59, .ref 46, .type "Exception", .type "BaseException", .type "object"], ns := 58, qualname := "FilterFault" }, slots := #[some (.ref 50), none, some (.str "FilterFault" 236), some (.str "FilterFault" 244), some (.builtin "Exception.__new__"), some (.bool Bool.true)] }
noncomputable def ob100 (P : Params) : Obj := { cls := .type "super", data := .fields #[.ref 59, .ref 59, .ref 59] }
noncomputable def ob101 (P : Params) : Obj := { cls := .type "builtin_function_or_method", data := .fields #[.builtin "object.__init_subclass__", .ref 59] }
noncomputable def ob102 (P : Params) : Obj := { cls := .type "tuple", data := .seq #[] }
noncomputable def ob103 (P : Params) : Obj := { cls := .none, data := .fields #[] }
noncomputable def ob104 (P : Params) : Obj := { cls := .type "tuple", data := .seq #[.str "octets" 263, .str "at" 264] }
noncomputable def ob105 (P : Params) : Obj := { cls := .type "tuple", data := .seq #[] }
noncomputable def ob106 (P : Params) : Obj := fob0 (stAt 8) "key_at"
noncomputable def ob107 (P : Params) : Obj := { cls := .type "code", data := .fields #[.str "key_at" 260, .str "key_at" 261, .str "/claim/cut.py" 262, .int 20 0, .int 2 0, .int 0 0, .int 0 0, .int 3 0, .ref 62, .bool Bool.true, .int 181 0, .ref 63, .none, .ref 64, .ref 65, .ref 66, .int 265 0, .int 20 0, .str "/claim/cut.py" 266] }
noncomputable def ob108 (P : Params) : Obj := fobj (stAt 8) "key_at" .none (.str "paperhold.matches" 252) 67
noncomputable def ob109 (P : Params) : Obj := { cls := .type "dict", data := .dict #[{ hash := PyData.keyHash P "__name__", key := .str "__name__" 165, val := .str "paperhold.matches" 252 }, { hash := PyData.keyHash P "__doc__", key := .str "__doc__" 166, val := .none }, { hash := PyData.keyHash P "__package__", key := .str "__package__" 167, val := .none }, { hash := PyData.keyHash P "__loader__", key := .str "__loader__" 168, val := .builtin "__main__.__loader__#opaque" }, { hash := PyData.keyHash P "__spec__", key := .str "__spec__" 169, val := .none }, { hash := PyData.keyHash P "__annotations__", key := .str "__annotations__" 170, val := .ref 6 }, { hash := PyData.keyHash P "__builtins__", key := .str "__builtins__" 171, val := .ref 4 }, { hash := PyData.keyHash P "__file__", key := .str "__file__" 173, val := .str "/claim/cut.py" 172 }, { hash := PyData.keyHash P "__cached__", key := .str "__cached__" 174, val := .none }, { hash := PyData.keyHash P "_wall", key := .str "_wall" 193, val := .ref 21 }, { hash := PyData.keyHash P "PaperError", key := .str "PaperError" 235, val := .ref 46 }, { hash := PyData.keyHash P "FilterFault", key := .str "FilterFault" 251, val := .ref 59 }, { hash := PyData.keyHash P "LEAST", key := .str "LEAST" 255, val := .int 3 254 }, { hash := PyData.keyHash P "MOST_LENGTH", key := .str "MOST_LENGTH" 257, val := .int 258 256 }, { hash := PyData.keyHash P "MOST_BACK", key := .str "MOST_BACK" 259, val := .int 32768 258 }, { hash := PyData.keyHash P "key_at", key := .str "key_at" 267, val := .ref 68 }, { hash := PyData.keyHash P "Chains", key := .str "Chains" 321, val := .ref 99 }, { hash := PyData.keyHash P "common_length", key := .str "common_length" 333, val := .ref 110 }, { hash := PyData.keyHash P "match_at", key := .str "match_at" 347, val := .ref 117 }] 19 }
noncomputable def ob110 (P : Params) : Obj := { cls := .none, data := .fields #[.int 1 0, .int 0 0, .ref 20, .int 5 0, .int 0 0, .ref 27, .int 14 0, .int 0 0, .ref 55, .int 20 0, .int 0 0, .ref 67, .int 22 0, .int 0 0, .ref 74, .int 48 0, .int 0 0, .ref 109, .int 54 0, .int 0 0, .ref 116] }
noncomputable def ob111 (P : Params) : Obj := { cls := .type "tuple", data := .seq #[] }
noncomputable def ob112 (P : Params) : Obj := { cls := .type "builtin_function_or_method", data := .fields #[.builtin "type.__prepare__", .type "type"] }
noncomputable def ob113 (P : Params) : Obj := { cls := .type "dict", data := .dict #[{ hash := PyData.keyHash P "__module__", key := .str "__module__" 275, val := .str "paperhold.matches" 252 }, { hash := PyData.keyHash P "__qualname__", key := .str "__qualname__" 277, val := .str "Chains" 276 }, { hash := PyData.keyHash P "__firstlineno__", key := .str "__firstlineno__" 279, val := .int 22 278 }, { hash := PyData.keyHash P "__init__", key := .str "__init__" 287, val := .ref 82 }, { hash := PyData.keyHash P "put", key := .str "put" 298, val := .ref 89 }, { hash := PyData.keyHash P "places", key := .str "places" 310, val := .ref 96 }, { hash := PyData.keyHash P "__static_attributes__", key := .str "__static_attributes__" 314, val := .ref 97 }] 7 }
noncomputable def ob114 (P : Params) : Obj := { cls := .type "tuple", data := .seq #[] }
noncomputable def ob115 (P : Params) : Obj := { cls := .none, data := .fields #[.int 24 0, .int 4 0, .ref 81, .int 29 0, .int 4 0, .ref 88, .int 39 0, .int 4 0, .ref 95] }
noncomputable def ob116 (P : Params) : Obj := { cls := .type "code", data := .fields #[.str "Chains" 270, .str "Chains" 271, .str "/claim/cut.py" 272, .int 22 0, .int 0 0, .int 0 0, .int 0 0, .int 0 0, .ref 72, .bool Bool.false, .int 181 0, .ref 73, .none, .none, .none, .none, .int 273 0, .int 22 0, .str "/claim/cut.py" 274] }
noncomputable def ob117 (P : Params) : Obj := { cls := .type "frame", slots := #[some (.ref 74), some (.ref 3), some (.ref 71), none, some (.str "paperhold.matches" 252), none, some (.ref 0)] }
noncomputable def ob118 (P : Params) : Obj := { cls := .type "tuple", data := .seq #[] }
noncomputable def ob119 (P : Params) : Obj := { cls := .none, data := .fields #[] }
noncomputable def ob120 (P : Params) : Obj := { cls := .type "tuple", data := .seq #[.str "self" 283, .str "octets" 284] }
noncomputable def ob121 (P : Params) : Obj := { cls := .type "tuple", data := .seq #[] }
noncomputable def ob122 (P : Params) : Obj := fob0 (stIn 9 0) "Chains.__init__"
noncomputable def ob123 (P : Params) : Obj := { cls := .type "code", data := .fields #[.str "__init__" 280, .str "Chains.__init__" 281, .str "/claim/cut.py" 282, .int 24 0, .int 2 0, .int 0 0, .int 0 0, .int 3 0, .ref 76, .bool Bool.true, .int 181 0, .ref 77, .none, .ref 78, .ref 79, .ref 80, .int 285 0, .int 24 0, .str "/claim/cut.py" 286] }
noncomputable def ob124 (P : Params) : Obj := fobj (stIn 9 0) "Chains.__init__" .none (.str "paperhold.matches" 252) 81
noncomputable def ob125 (P : Params) : Obj := { cls := .type "tuple", data := .seq #[] }
noncomputable def ob126 (P : Params) : Obj := { cls := .none, data := .fields #[] }
noncomputable def ob127 (P : Params) : Obj := { cls := .type "tuple", data := .seq #[.str "self" 291, .str "end" 292, .str "at" 293, .str "before" 294, .str "key" 295] }
noncomputable def ob128 (P : Params) : Obj := { cls := .type "tuple", data := .seq #[] }
noncomputable def ob129 (P : Params) : Obj := fob0 (stIn 9 1) "Chains.put"
noncomputable def ob130 (P : Params) : Obj := { cls := .type "code", data := .fields #[.str "put" 288, .str "Chains.put" 289, .str "/claim/cut.py" 290, .int 29 0, .int 2 0, .int 0 0, .int 0 0, .int 3 0, .ref 83, .bool Bool.true, .int 181 0, .ref 84, .none, .ref 85, .ref 86, .ref 87, .int 296 0, .int 29 0, .str "/claim/cut.py" 297] }
noncomputable def ob131 (P : Params) : Obj := fobj (stIn 9 1) "Chains.put" .none (.str "paperhold.matches" 252) 88
noncomputable def ob132 (P : Params) : Obj := { cls := .type "tuple", data := .seq #[] }
noncomputable def ob133 (P : Params) : Obj := { cls := .none, data := .fields #[] }
noncomputable def ob134 (P : Params) : Obj := { cls := .type "tuple", data := .seq #[.str "self" 302, .str "at" 303, .str "most_back" 304, .str "tries" 305, .str "found" 306, .str "here" 307] }
noncomputable def ob135 (P : Params) : Obj := { cls := .type "tuple", data := .seq #[] }
noncomputable def ob136 (P : Params) : Obj := fob0 (stIn 9 2) "Chains.places"
noncomputable def ob137 (P : Params) : Obj := { cls := .type "code", data := .fields #[.str "places" 299, .str "Chains.places" 300, .str "/claim/cut.py" 301, .int 39 0, .int 4 0, .int 0 0, .int 0 0, .int 3 0, .ref 90, .bool Bool.true, .int 181 0, .ref 91, .none, .ref 92, .ref 93, .ref 94, .int 308 0, .int 39 0, .str "/claim/cut.py" 309] }
noncomputable def ob138 (P : Params) : Obj := fobj (stIn 9 2) "Chains.places" .none (.str "paperhold.matches" 252) 95
noncomputable def ob139 (P : Params) : Obj := { cls := .type "tuple", data := .seq #[.str "earlier" 311, .str "heads" 312, .str "octets" 313] }
noncomputable def ob140 (P : Params) : Obj := { cls := .type "dict", data := .dict #[{ hash := PyData.keyHash P "__module__", key := .str "__module__" 275, val := .str "paperhold.matches" 252 }, { hash := PyData.keyHash P "__firstlineno__", key := .str "__firstlineno__" 279, val := .int 22 278 }, { hash := PyData.keyHash P "__init__", key := .str "__init__" 287, val := .ref 82 }, { hash := PyData.keyHash P "put", key := .str "put" 298, val := .ref 89 }, { hash := PyData.keyHash P "places", key := .str "places" 310, val := .ref 96 }, { hash := PyData.keyHash P "__static_attributes__", key := .str "__static_attributes__" 314, val := .ref 97 }, { hash := PyData.keyHash P "__dict__", key := .str "__dict__" 316, val := .ref 100 }, { hash := PyData.keyHash P "__weakref__", key := .str "__weakref__" 318, val := .ref 101 }, { hash := PyData.keyHash P "__doc__", key := .str "__doc__" 319, val := .none }] 4 }
noncomputable def ob141 (P : Params) : Obj := { cls := .type "type", data := .cls { name := "Chains", bases := [.type "object"], mro := [.ref 99, .type "object"], ns := 98, qualname := "Chains" }, slots := #[none, none, some (.str "Chains" 268), some (.str "Chains" 276), some (.builtin "object.__new__"), some (.bool Bool.true)] }
noncomputable def ob142 (P : Params) : Obj := { cls := .type "getset_descriptor", data := .fields #[.str "__dict__" 315, .ref 99, .builtin "function.__dict__", .builtin "function.__dict__#set"] }
noncomputable def ob143 (P : Params) : Obj := { cls := .type "getset_descriptor", data := .fields #[.str "__weakref__" 317, .ref 99, .builtin "ExceptionGroup.__weakref__", .none] }
noncomputable def ob144 (P : Params) : Obj := { cls := .type "super", data := .fields #[.ref 99, .ref 99, .ref 99] }
noncomputable def ob145 (P : Params) : Obj := { cls := .type "builtin_function_or_method", data := .fields #[.builtin "object.__init_subclass__", .ref 99] }
noncomputable def ob146 (P : Params) : Obj := { cls := .type "tuple", data := .seq #[] }
noncomputable def ob147 (P : Params) : Obj := { cls := .none, data := .fields #[] }
noncomputable def ob148 (P : Params) : Obj := { cls := .type "tuple", data := .seq #[.str "octets" 325, .str "back" 326, .str "at" 327, .str "most" 328, .str "length" 329, .str "end" 330] }
noncomputable def ob149 (P : Params) : Obj := { cls := .type "tuple", data := .seq #[] }
noncomputable def ob150 (P : Params) : Obj := fob0 (stAt 10) "common_length"
noncomputable def ob151 (P : Params) : Obj := { cls := .type "code", data := .fields #[.str "common_length" 322, .str "common_length" 323, .str "/claim/cut.py" 324, .int 48 0, .int 4 0, .int 0 0, .int 0 0, .int 3 0, .ref 104, .bool Bool.true, .int 181 0, .ref 105, .none, .ref 106, .ref 107, .ref 108, .int 331 0, .int 48 0, .str "/claim/cut.py" 332] }
noncomputable def ob152 (P : Params) : Obj := fobj (stAt 10) "common_length" .none (.str "paperhold.matches" 252) 109
noncomputable def ob153 (P : Params) : Obj := { cls := .type "tuple", data := .seq #[] }
noncomputable def ob154 (P : Params) : Obj := { cls := .none, data := .fields #[] }
noncomputable def ob155 (P : Params) : Obj := { cls := .type "tuple", data := .seq #[.str "chains" 337, .str "at" 338, .str "most_back" 339, .str "most_length" 340, .str "tries" 341, .str "best" 342, .str "back" 343, .str "length" 344] }
noncomputable def ob156 (P : Params) : Obj := { cls := .type "tuple", data := .seq #[] }
noncomputable def ob157 (P : Params) : Obj := fob0 (stAt 11) "match_at"
noncomputable def ob158 (P : Params) : Obj := { cls := .type "code", data := .fields #[.str "match_at" 334, .str "match_at" 335, .str "/claim/cut.py" 336, .int 54 0, .int 5 0, .int 0 0, .int 0 0, .int 3 0, .ref 111, .bool Bool.true, .int 181 0, .ref 112, .none, .ref 113, .ref 114, .ref 115, .int 345 0, .int 54 0, .str "/claim/cut.py" 346] }
noncomputable def ob159 (P : Params) : Obj := fobj (stAt 11) "match_at" .none (.str "paperhold.matches" 252) 116
noncomputable def ob160 (P : Params) : Obj := { cls := .type "dict", data := .dict #[{ hash := PyData.keyHash P "__name__", key := .str "__name__" 165, val := .str "paperhold.deflate" 430 }, { hash := PyData.keyHash P "__doc__", key := .str "__doc__" 166, val := .none }, { hash := PyData.keyHash P "__package__", key := .str "__package__" 167, val := .none }, { hash := PyData.keyHash P "__loader__", key := .str "__loader__" 168, val := .builtin "__main__.__loader__#opaque" }, { hash := PyData.keyHash P "__spec__", key := .str "__spec__" 169, val := .none }, { hash := PyData.keyHash P "__annotations__", key := .str "__annotations__" 170, val := .ref 6 }, { hash := PyData.keyHash P "__builtins__", key := .str "__builtins__" 171, val := .ref 4 }, { hash := PyData.keyHash P "__file__", key := .str "__file__" 173, val := .str "/claim/cut.py" 172 }, { hash := PyData.keyHash P "__cached__", key := .str "__cached__" 174, val := .none }, { hash := PyData.keyHash P "_wall", key := .str "_wall" 193, val := .ref 21 }, { hash := PyData.keyHash P "PaperError", key := .str "PaperError" 235, val := .ref 46 }, { hash := PyData.keyHash P "FilterFault", key := .str "FilterFault" 251, val := .ref 59 }, { hash := PyData.keyHash P "LEAST", key := .str "LEAST" 255, val := .int 3 254 }, { hash := PyData.keyHash P "MOST_LENGTH", key := .str "MOST_LENGTH" 257, val := .int 258 256 }, { hash := PyData.keyHash P "MOST_BACK", key := .str "MOST_BACK" 259, val := .int 32768 258 }, { hash := PyData.keyHash P "key_at", key := .str "key_at" 267, val := .ref 68 }, { hash := PyData.keyHash P "Chains", key := .str "Chains" 321, val := .ref 99 }, { hash := PyData.keyHash P "common_length", key := .str "common_length" 333, val := .ref 110 }, { hash := PyData.keyHash P "match_at", key := .str "match_at" 347, val := .ref 117 }, { hash := PyData.keyHash P "find_matches", key := .str "find_matches" 362, val := .ref 125 }, { hash := PyData.keyHash P "lazy_matches", key := .str "lazy_matches" 378, val := .ref 133 }, { hash := PyData.keyHash P "matches_by_length", key := .str "matches_by_length" 393, val := .ref 140 }, { hash := PyData.keyHash P "cheapest_parts", key := .str "cheapest_parts" 400, val := .ref 146 }, { hash := PyData.keyHash P "cost_of", key := .str "cost_of" 410, val := .ref 153 }, { hash := PyData.keyHash P "length_of", key := .str "length_of" 417, val := .ref 160 }, { hash := PyData.keyHash P "expanded", key := .str "expanded" 429, val := .ref 167 }, { hash := PyData.keyHash P "UNUSED_PRICE", key := .str "UNUSED_PRICE" 433, val := .int 16 432 }, { hash := PyData.keyHash P "split_number", key := .str "split_number" 442, val := .ref 174 }, { hash := PyData.keyHash P "length_symbol", key := .str "length_symbol" 452, val := .ref 181 }, { hash := PyData.keyHash P "distance_symbol", key := .str "distance_symbol" 459, val := .ref 188 }] 30 }
noncomputable def ob161 (P : Params) : Obj := { cls := .none, data := .fields #[.int 1 0, .int 0 0, .ref 20, .int 5 0, .int 0 0, .ref 27, .int 14 0, .int 0 0, .ref 55, .int 20 0, .int 0 0, .ref 67, .int 22 0, .int 0 0, .ref 74, .int 48 0, .int 0 0, .ref 109, .int 54 0, .int 0 0, .ref 116, .int 62 0, .int 0 0, .ref 124, .int 75 0, .int 0 0, .ref 132, .int 91 0, .int 0 0, .ref 139, .int 101 0, .int 0 0, .ref 145, .int 123 0, .int 0 0, .ref 152, .int 131 0, .int 0 0, .ref 159, .int 135 0, .int 0 0, .ref 166, .int 149 0, .int 0 0, .ref 173, .int 154 0, .int 0 0, .ref 180, .int 159 0, .int 0 0, .ref 187] }
noncomputable def ob162 (P : Params) : Obj := { cls := .type "tuple", data := .seq #[.int 32768 258, .int 258 256, .int 8 348] }
noncomputable def ob163 (P : Params) : Obj := { cls := .type "tuple", data := .seq #[] }
noncomputable def ob164 (P : Params) : Obj := { cls := .none, data := .fields #[] }
noncomputable def ob165 (P : Params) : Obj := { cls := .type "tuple", data := .seq #[.str "octets" 352, .str "most_back" 353, .str "most_length" 354, .str "tries" 355, .str "chains" 356, .str "parts" 357, .str "at" 358, .str "match" 359] }
noncomputable def ob166 (P : Params) : Obj := { cls := .type "tuple", data := .seq #[] }
noncomputable def ob167 (P : Params) : Obj := fob0 (stAt 12) "find_matches"
noncomputable def ob168 (P : Params) : Obj := { cls := .type "code", data := .fields #[.str "find_matches" 349, .str "find_matches" 350, .str "/claim/cut.py" 351, .int 62 0, .int 4 0, .int 0 0, .int 0 0, .int 3 0, .ref 119, .bool Bool.true, .int 181 0, .ref 120, .none, .ref 121, .ref 122, .ref 123, .int 360 0, .int 62 0, .str "/claim/cut.py" 361] }
noncomputable def ob169 (P : Params) : Obj := fobj (stAt 12) "find_matches" (.ref 118) (.str "paperhold.matches" 252) 124
noncomputable def ob170 (P : Params) : Obj := { cls := .type "tuple", data := .seq #[.int 32768 258, .int 258 256, .int 8 363] }
noncomputable def ob171 (P : Params) : Obj := { cls := .type "tuple", data := .seq #[] }
noncomputable def ob172 (P : Params) : Obj := { cls := .none, data := .fields #[] }
noncomputable def ob173 (P : Params) : Obj := { cls := .type "tuple", data := .seq #[.str "octets" 367, .str "most_back" 368, .str "most_length" 369, .str "tries" 370, .str "chains" 371, .str "parts" 372, .str "at" 373, .str "match" 374, .str "later" 375] }
noncomputable def ob174 (P : Params) : Obj := { cls := .type "tuple", data := .seq #[] }
noncomputable def ob175 (P : Params) : Obj := fob0 (stAt 13) "lazy_matches"
noncomputable def ob176 (P : Params) : Obj := { cls := .type "code", data := .fields #[.str "lazy_matches" 364, .str "lazy_matches" 365, .str "/claim/cut.py" 366, .int 75 0, .int 4 0, .int 0 0, .int 0 0, .int 3 0, .ref 127, .bool Bool.true, .int 181 0, .ref 128, .none, .ref 129, .ref 130, .ref 131, .int 376 0, .int 75 0, .str "/claim/cut.py" 377] }
noncomputable def ob177 (P : Params) : Obj := fobj (stAt 13) "lazy_matches" (.ref 126) (.str "paperhold.matches" 252) 132
noncomputable def ob178 (P : Params) : Obj := { cls := .type "tuple", data := .seq #[] }
noncomputable def ob179 (P : Params) : Obj := { cls := .none, data := .fields #[] }
noncomputable def ob180 (P : Params) : Obj := { cls := .type "tuple", data := .seq #[.str "chains" 382, .str "at" 383, .str "most_back" 384, .str "most_length" 385, .str "tries" 386, .str "found" 387, .str "known" 388, .str "back" 389, .str "length" 390] }
noncomputable def ob181 (P : Params) : Obj := { cls := .type "tuple", data := .seq #[] }
noncomputable def ob182 (P : Params) : Obj := fob0 (stAt 14) "matches_by_length"
noncomputable def ob183 (P : Params) : Obj := { cls := .type "code", data := .fields #[.str "matches_by_length" 379, .str "matches_by_length" 380, .str "/claim/cut.py" 381, .int 91 0, .int 5 0, .int 0 0, .int 0 0, .int 3 0, .ref 134, .bool Bool.true, .int 181 0, .ref 135, .none, .ref 136, .ref 137, .ref 138, .int 391 0, .int 91 0, .str "/claim/cut.py" 392] }
noncomputable def ob184 (P : Params) : Obj := fobj (stAt 14) "matches_by_length" .none (.str "paperhold.matches" 252) 139
noncomputable def ob185 (P : Params) : Obj := { cls := .type "tuple", data := .seq #[.int 32768 258, .int 258 256, .int 8 394] }
noncomputable def ob186 (P : Params) : Obj := { cls := .type "tuple", data := .seq #[] }
noncomputable def ob187 (P : Params) : Obj := { cls := .none, data := .fields #[] }
noncomputable def ob188 (P : Params) : Obj := fob0 (stAt 15) "cheapest_parts"
noncomputable def ob189 (P : Params) : Obj := { cls := .type "code", data := .fields #[.str "cheapest_parts" 395, .str "cheapest_parts" 396, .str "/claim/cut.py" 397, .int 101 0, .int 5 0, .int 0 0, .int 0 0, .int 3 0, .ref 142, .bool Bool.true, .int 181 0, .ref 143, .none, .none, .none, .ref 144, .int 398 0, .int 101 0, .str "/claim/cut.py" 399] }
noncomputable def ob190 (P : Params) : Obj := fobj (stAt 15) "cheapest_parts" (.ref 141) (.str "paperhold.matches" 252) 145
noncomputable def ob191 (P : Params) : Obj := { cls := .type "tuple", data := .seq #[] }
noncomputable def ob192 (P : Params) : Obj := { cls := .none, data := .fields #[] }
noncomputable def ob193 (P : Params) : Obj := { cls := .type "tuple", data := .seq #[.str "parts" 404, .str "prices" 405, .str "total" 406, .str "part" 407] }
noncomputable def ob194 (P : Params) : Obj := { cls := .type "tuple", data := .seq #[] }
noncomputable def ob195 (P : Params) : Obj := fob0 (stAt 16) "cost_of"
noncomputable def ob196 (P : Params) : Obj := { cls := .type "code", data := .fields #[.str "cost_of" 401, .str "cost_of" 402, .str "/claim/cut.py" 403, .int 123 0, .int 2 0, .int 0 0, .int 0 0, .int 3 0, .ref 147, .bool Bool.true, .int 181 0, .ref 148, .none, .ref 149, .ref 150, .ref 151, .int 408 0, .int 123 0, .str "/claim/cut.py" 409] }
noncomputable def ob197 (P : Params) : Obj := fobj (stAt 16) "cost_of" .none (.str "paperhold.matches" 252) 152
noncomputable def ob198 (P : Params) : Obj := { cls := .type "tuple", data := .seq #[] }
noncomputable def ob199 (P : Params) : Obj := { cls := .none, data := .fields #[] }
noncomputable def ob200 (P : Params) : Obj := { cls := .type "tuple", data := .seq #[.str "part" 414] }
noncomputable def ob201 (P : Params) : Obj := { cls := .type "tuple", data := .seq #[] }
noncomputable def ob202 (P : Params) : Obj := fob0 (stAt 17) "length_of"
noncomputable def ob203 (P : Params) : Obj := { cls := .type "code", data := .fields #[.str "length_of" 411, .str "length_of" 412, .str "/claim/cut.py" 413, .int 131 0, .int 1 0, .int 0 0, .int 0 0, .int 3 0, .ref 154, .bool Bool.true, .int 181 0, .ref 155, .none, .ref 156, .ref 157, .ref 158, .int 415 0, .int 131 0, .str "/claim/cut.py" 416] }
noncomputable def ob204 (P : Params) : Obj := fobj (stAt 17) "length_of" .none (.str "paperhold.matches" 252) 159
noncomputable def ob205 (P : Params) : Obj := { cls := .type "tuple", data := .seq #[] }
noncomputable def ob206 (P : Params) : Obj := { cls := .none, data := .fields #[] }
noncomputable def ob207 (P : Params) : Obj := { cls := .type "tuple", data := .seq #[.str "parts" 421, .str "out" 422, .str "part" 423, .str "length" 424, .str "distance" 425, .str "turn" 426] }
noncomputable def ob208 (P : Params) : Obj := { cls := .type "tuple", data := .seq #[] }
noncomputable def ob209 (P : Params) : Obj := fob0 (stAt 18) "expanded"
noncomputable def ob210 (P : Params) : Obj := { cls := .type "code", data := .fields #[.str "expanded" 418, .str "expanded" 419, .str "/claim/cut.py" 420, .int 135 0, .int 1 0, .int 0 0, .int 0 0, .int 3 0, .ref 161, .bool Bool.true, .int 181 0, .ref 162, .none, .ref 163, .ref 164, .ref 165, .int 427 0, .int 135 0, .str "/claim/cut.py" 428] }
noncomputable def ob211 (P : Params) : Obj := fobj (stAt 18) "expanded" .none (.str "paperhold.matches" 252) 166
noncomputable def ob212 (P : Params) : Obj := { cls := .type "tuple", data := .seq #[] }
noncomputable def ob213 (P : Params) : Obj := { cls := .none, data := .fields #[] }
noncomputable def ob214 (P : Params) : Obj := { cls := .type "tuple", data := .seq #[.str "number" 437, .str "small" 438, .str "bits" 439] }
noncomputable def ob215 (P : Params) : Obj := { cls := .type "tuple", data := .seq #[] }
noncomputable def ob216 (P : Params) : Obj := fob0 (stAt 21) "split_number"
noncomputable def ob217 (P : Params) : Obj := { cls := .type "code", data := .fields #[.str "split_number" 434, .str "split_number" 435, .str "/claim/cut.py" 436, .int 149 0, .int 2 0, .int 0 0, .int 0 0, .int 3 0, .ref 168, .bool Bool.true, .int 181 0, .ref 169, .none, .ref 170, .ref 171, .ref 172, .int 440 0, .int 149 0, .str "/claim/cut.py" 441] }
noncomputable def ob218 (P : Params) : Obj := fobj (stAt 21) "split_number" .none (.str "paperhold.deflate" 430) 173
noncomputable def ob219 (P : Params) : Obj := { cls := .type "tuple", data := .seq #[] }
noncomputable def ob220 (P : Params) : Obj := { cls := .none, data := .fields #[] }
noncomputable def ob221 (P : Params) : Obj := { cls := .type "tuple", data := .seq #[.str "length" 446, .str "group" 447, .str "bits" 448, .str "rest" 449] }
noncomputable def ob222 (P : Params) : Obj := { cls := .type "tuple", data := .seq #[] }
noncomputable def ob223 (P : Params) : Obj := fob0 (stAt 22) "length_symbol"
noncomputable def ob224 (P : Params) : Obj := { cls := .type "code", data := .fields #[.str "length_symbol" 443, .str "length_symbol" 444, .str "/claim/cut.py" 445, .int 154 0, .int 1 0, .int 0 0, .int 0 0, .int 3 0, .ref 175, .bool Bool.true, .int 181 0, .ref 176, .none, .ref 177, .ref 178, .ref 179, .int 450 0, .int 154 0, .str "/claim/cut.py" 451] }
noncomputable def ob225 (P : Params) : Obj := fobj (stAt 22) "length_symbol" .none (.str "paperhold.deflate" 430) 180
noncomputable def ob226 (P : Params) : Obj := { cls := .type "tuple", data := .seq #[] }
noncomputable def ob227 (P : Params) : Obj := { cls := .none, data := .fields #[] }
noncomputable def ob228 (P : Params) : Obj := { cls := .type "tuple", data := .seq #[.str "distance" 456] }
noncomputable def ob229 (P : Params) : Obj := { cls := .type "tuple", data := .seq #[] }
noncomputable def ob230 (P : Params) : Obj := fob0 (stAt 23) "distance_symbol"
noncomputable def ob231 (P : Params) : Obj := { cls := .type "code", data := .fields #[.str "distance_symbol" 453, .str "distance_symbol" 454, .str "/claim/cut.py" 455, .int 159 0, .int 1 0, .int 0 0, .int 0 0, .int 3 0, .ref 182, .bool Bool.true, .int 181 0, .ref 183, .none, .ref 184, .ref 185, .ref 186, .int 457 0, .int 159 0, .str "/claim/cut.py" 458] }
noncomputable def ob232 (P : Params) : Obj := fobj (stAt 23) "distance_symbol" .none (.str "paperhold.deflate" 430) 187
noncomputable def ob233 (P : Params) : Obj := { cls := .type "dict", data := .dict #[{ hash := PyData.keyHash P "__name__", key := .str "__name__" 165, val := .str "law_nn0118_01" 513 }, { hash := PyData.keyHash P "__doc__", key := .str "__doc__" 166, val := .none }, { hash := PyData.keyHash P "__package__", key := .str "__package__" 167, val := .none }, { hash := PyData.keyHash P "__loader__", key := .str "__loader__" 168, val := .builtin "__main__.__loader__#opaque" }, { hash := PyData.keyHash P "__spec__", key := .str "__spec__" 169, val := .none }, { hash := PyData.keyHash P "__annotations__", key := .str "__annotations__" 170, val := .ref 6 }, { hash := PyData.keyHash P "__builtins__", key := .str "__builtins__" 171, val := .ref 4 }, { hash := PyData.keyHash P "__file__", key := .str "__file__" 173, val := .str "/claim/cut.py" 172 }, { hash := PyData.keyHash P "__cached__", key := .str "__cached__" 174, val := .none }, { hash := PyData.keyHash P "_wall", key := .str "_wall" 193, val := .ref 21 }, { hash := PyData.keyHash P "PaperError", key := .str "PaperError" 235, val := .ref 46 }, { hash := PyData.keyHash P "FilterFault", key := .str "FilterFault" 251, val := .ref 59 }, { hash := PyData.keyHash P "LEAST", key := .str "LEAST" 255, val := .int 3 254 }, { hash := PyData.keyHash P "MOST_LENGTH", key := .str "MOST_LENGTH" 257, val := .int 258 256 }, { hash := PyData.keyHash P "MOST_BACK", key := .str "MOST_BACK" 259, val := .int 32768 258 }, { hash := PyData.keyHash P "key_at", key := .str "key_at" 267, val := .ref 68 }, { hash := PyData.keyHash P "Chains", key := .str "Chains" 321, val := .ref 99 }, { hash := PyData.keyHash P "common_length", key := .str "common_length" 333, val := .ref 110 }, { hash := PyData.keyHash P "match_at", key := .str "match_at" 347, val := .ref 117 }, { hash := PyData.keyHash P "find_matches", key := .str "find_matches" 362, val := .ref 125 }, { hash := PyData.keyHash P "lazy_matches", key := .str "lazy_matches" 378, val := .ref 133 }, { hash := PyData.keyHash P "matches_by_length", key := .str "matches_by_length" 393, val := .ref 140 }, { hash := PyData.keyHash P "cheapest_parts", key := .str "cheapest_parts" 400, val := .ref 146 }, { hash := PyData.keyHash P "cost_of", key := .str "cost_of" 410, val := .ref 153 }, { hash := PyData.keyHash P "length_of", key := .str "length_of" 417, val := .ref 160 }, { hash := PyData.keyHash P "expanded", key := .str "expanded" 429, val := .ref 167 }, { hash := PyData.keyHash P "UNUSED_PRICE", key := .str "UNUSED_PRICE" 433, val := .int 16 432 }, { hash := PyData.keyHash P "split_number", key := .str "split_number" 442, val := .ref 174 }, { hash := PyData.keyHash P "length_symbol", key := .str "length_symbol" 452, val := .ref 181 }, { hash := PyData.keyHash P "distance_symbol", key := .str "distance_symbol" 459, val := .ref 188 }, { hash := PyData.keyHash P "Prices", key := .str "Prices" 512, val := .ref 219 }, { hash := PyData.keyHash P "_law_BACKS", key := .str "_law_BACKS" 547, val := .ref 240 }] 32 }
noncomputable def ob234 (P : Params) : Obj := { cls := .none, data := .fields #[.int 1 0, .int 0 0, .ref 20, .int 5 0, .int 0 0, .ref 27, .int 14 0, .int 0 0, .ref 55, .int 20 0, .int 0 0, .ref 67, .int 22 0, .int 0 0, .ref 74, .int 48 0, .int 0 0, .ref 109, .int 54 0, .int 0 0, .ref 116, .int 62 0, .int 0 0, .ref 124, .int 75 0, .int 0 0, .ref 132, .int 91 0, .int 0 0, .ref 139, .int 101 0, .int 0 0, .ref 145, .int 123 0, .int 0 0, .ref 152, .int 131 0, .int 0 0, .ref 159, .int 135 0, .int 0 0, .ref 166, .int 149 0, .int 0 0, .ref 173, .int 154 0, .int 0 0, .ref 180, .int 159 0, .int 0 0, .ref 187, .int 161 0, .int 0 0, .ref 194] }
noncomputable def ob235 (P : Params) : Obj := { cls := .type "tuple", data := .seq #[] }
noncomputable def ob236 (P : Params) : Obj := { cls := .type "builtin_function_or_method", data := .fields #[.builtin "type.__prepare__", .type "type"] }
noncomputable def ob237 (P : Params) : Obj := { cls := .type "dict", data := .dict #[{ hash := PyData.keyHash P "__module__", key := .str "__module__" 467, val := .str "paperhold.deflate" 430 }, { hash := PyData.keyHash P "__qualname__", key := .str "__qualname__" 469, val := .str "Prices" 468 }, { hash := PyData.keyHash P "__firstlineno__", key := .str "__firstlineno__" 471, val := .int 161 470 }, { hash := PyData.keyHash P "__init__", key := .str "__init__" 480, val := .ref 202 }, { hash := PyData.keyHash P "literal", key := .str "literal" 488, val := .ref 209 }, { hash := PyData.keyHash P "match", key := .str "match" 502, val := .ref 216 }, { hash := PyData.keyHash P "__static_attributes__", key := .str "__static_attributes__" 505, val := .ref 217 }] 7 }
noncomputable def ob238 (P : Params) : Obj := { cls := .type "tuple", data := .seq #[] }
noncomputable def ob239 (P : Params) : Obj := { cls := .none, data := .fields #[.int 163 0, .int 4 0, .ref 201, .int 167 0, .int 4 0, .ref 208, .int 170 0, .int 4 0, .ref 215] }
noncomputable def ob240 (P : Params) : Obj := { cls := .type "code", data := .fields #[.str "Prices" 462, .str "Prices" 463, .str "/claim/cut.py" 464, .int 161 0, .int 0 0, .int 0 0, .int 0 0, .int 0 0, .ref 192, .bool Bool.false, .int 181 0, .ref 193, .none, .none, .none, .none, .int 465 0, .int 161 0, .str "/claim/cut.py" 466] }
noncomputable def ob241 (P : Params) : Obj := { cls := .type "frame", slots := #[some (.ref 194), some (.ref 3), some (.ref 191), none, some (.str "paperhold.deflate" 430), none, some (.ref 0)] }
noncomputable def ob242 (P : Params) : Obj := { cls := .type "tuple", data := .seq #[] }
noncomputable def ob243 (P : Params) : Obj := { cls := .none, data := .fields #[] }
noncomputable def ob244 (P : Params) : Obj := { cls := .type "tuple", data := .seq #[.str "self" 475, .str "literals" 476, .str "distances" 477] }
noncomputable def ob245 (P : Params) : Obj := { cls := .type "tuple", data := .seq #[] }
noncomputable def ob246 (P : Params) : Obj := fob0 (stIn 24 0) "Prices.__init__"
noncomputable def ob247 (P : Params) : Obj := { cls := .type "code", data := .fields #[.str "__init__" 472, .str "Prices.__init__" 473, .str "/claim/cut.py" 474, .int 163 0, .int 3 0, .int 0 0, .int 0 0, .int 3 0, .ref 196, .bool Bool.true, .int 181 0, .ref 197, .none, .ref 198, .ref 199, .ref 200, .int 478 0, .int 163 0, .str "/claim/cut.py" 479] }
noncomputable def ob248 (P : Params) : Obj := fobj (stIn 24 0) "Prices.__init__" .none (.str "paperhold.deflate" 430) 201
noncomputable def ob249 (P : Params) : Obj := { cls := .type "tuple", data := .seq #[] }
noncomputable def ob250 (P : Params) : Obj := { cls := .none, data := .fields #[] }
noncomputable def ob251 (P : Params) : Obj := { cls := .type "tuple", data := .seq #[.str "self" 484, .str "octet" 485] }
noncomputable def ob252 (P : Params) : Obj := { cls := .type "tuple", data := .seq #[] }
noncomputable def ob253 (P : Params) : Obj := fob0 (stIn 24 1) "Prices.literal"
noncomputable def ob254 (P : Params) : Obj := { cls := .type "code", data := .fields #[.str "literal" 481, .str "Prices.literal" 482, .str "/claim/cut.py" 483, .int 167 0, .int 2 0, .int 0 0, .int 0 0, .int 3 0, .ref 203, .bool Bool.true, .int 181 0, .ref 204, .none, .ref 205, .ref 206, .ref 207, .int 486 0, .int 167 0, .str "/claim/cut.py" 487] }
noncomputable def ob255 (P : Params) : Obj := fobj (stIn 24 1) "Prices.literal" .none (.str "paperhold.deflate" 430) 208
noncomputable def ob256 (P : Params) : Obj := { cls := .type "tuple", data := .seq #[] }
noncomputable def ob257 (P : Params) : Obj := { cls := .none, data := .fields #[] }
noncomputable def ob258 (P : Params) : Obj := { cls := .type "tuple", data := .seq #[.str "self" 492, .str "length" 493, .str "distance" 494, .str "symbol" 495, .str "bits" 496, .str "rest" 497, .str "back" 498, .str "more" 499] }
noncomputable def ob259 (P : Params) : Obj := { cls := .type "tuple", data := .seq #[] }
noncomputable def ob260 (P : Params) : Obj := fob0 (stIn 24 2) "Prices.match"
noncomputable def ob261 (P : Params) : Obj := { cls := .type "code", data := .fields #[.str "match" 489, .str "Prices.match" 490, .str "/claim/cut.py" 491, .int 170 0, .int 3 0, .int 0 0, .int 0 0, .int 3 0, .ref 210, .bool Bool.true, .int 181 0, .ref 211, .none, .ref 212, .ref 213, .ref 214, .int 500 0, .int 170 0, .str "/claim/cut.py" 501] }
noncomputable def ob262 (P : Params) : Obj := fobj (stIn 24 2) "Prices.match" .none (.str "paperhold.deflate" 430) 215
noncomputable def ob263 (P : Params) : Obj := { cls := .type "tuple", data := .seq #[.str "distances" 503, .str "literals" 504] }
noncomputable def ob264 (P : Params) : Obj := { cls := .type "dict", data := .dict #[{ hash := PyData.keyHash P "__module__", key := .str "__module__" 467, val := .str "paperhold.deflate" 430 }, { hash := PyData.keyHash P "__firstlineno__", key := .str "__firstlineno__" 471, val := .int 161 470 }, { hash := PyData.keyHash P "__init__", key := .str "__init__" 480, val := .ref 202 }, { hash := PyData.keyHash P "literal", key := .str "literal" 488, val := .ref 209 }, { hash := PyData.keyHash P "match", key := .str "match" 502, val := .ref 216 }, { hash := PyData.keyHash P "__static_attributes__", key := .str "__static_attributes__" 505, val := .ref 217 }, { hash := PyData.keyHash P "__dict__", key := .str "__dict__" 507, val := .ref 220 }, { hash := PyData.keyHash P "__weakref__", key := .str "__weakref__" 509, val := .ref 221 }, { hash := PyData.keyHash P "__doc__", key := .str "__doc__" 510, val := .none }] 4 }
noncomputable def ob265 (P : Params) : Obj := { cls := .type "type", data := .cls { name := "Prices", bases := [.type "object"], mro := [.ref 219, .type "object"], ns := 218, qualname := "Prices" }, slots := #[none, none, some (.str "Prices" 460), some (.str "Prices" 468), some (.builtin "object.__new__"), some (.bool Bool.true)] }
noncomputable def ob266 (P : Params) : Obj := { cls := .type "getset_descriptor", data := .fields #[.str "__dict__" 506, .ref 219, .builtin "function.__dict__", .builtin "function.__dict__#set"] }
noncomputable def ob267 (P : Params) : Obj := { cls := .type "getset_descriptor", data := .fields #[.str "__weakref__" 508, .ref 219, .builtin "ExceptionGroup.__weakref__", .none] }
noncomputable def ob268 (P : Params) : Obj := { cls := .type "super", data := .fields #[.ref 219, .ref 219, .ref 219] }
noncomputable def ob269 (P : Params) : Obj := { cls := .type "builtin_function_or_method", data := .fields #[.builtin "object.__init_subclass__", .ref 219] }
noncomputable def ob270 (P : Params) : Obj := { cls := .type "tuple", data := .seq #[.int 0 515, .int 0 516] }
noncomputable def ob271 (P : Params) : Obj := { cls := .type "tuple", data := .seq #[.int 1 517, .int 0 518] }
noncomputable def ob272 (P : Params) : Obj := { cls := .type "tuple", data := .seq #[.int 2 519, .int 0 520] }
noncomputable def ob273 (P : Params) : Obj := { cls := .type "tuple", data := .seq #[.int 3 521, .int 0 522] }
noncomputable def ob274 (P : Params) : Obj := { cls := .type "tuple", data := .seq #[.int 4 523, .int 1 524] }
noncomputable def ob275 (P : Params) : Obj := { cls := .type "tuple", data := .seq #[.int 4 525, .int 1 526] }
noncomputable def ob276 (P : Params) : Obj := { cls := .type "tuple", data := .seq #[.int 5 527, .int 1 528] }
noncomputable def ob277 (P : Params) : Obj := { cls := .type "tuple", data := .seq #[.int 5 529, .int 1 530] }
noncomputable def ob278 (P : Params) : Obj := { cls := .type "tuple", data := .seq #[.int 6 531, .int 2 532] }
noncomputable def ob279 (P : Params) : Obj := { cls := .type "tuple", data := .seq #[.int 6 533, .int 2 534] }
noncomputable def ob280 (P : Params) : Obj := { cls := .type "tuple", data := .seq #[.int 6 535, .int 2 536] }
noncomputable def ob281 (P : Params) : Obj := { cls := .type "tuple", data := .seq #[.int 6 537, .int 2 538] }
noncomputable def ob282 (P : Params) : Obj := { cls := .type "tuple", data := .seq #[.int 7 539, .int 2 540] }
noncomputable def ob283 (P : Params) : Obj := { cls := .type "tuple", data := .seq #[.int 7 541, .int 2 542] }
noncomputable def ob284 (P : Params) : Obj := { cls := .type "tuple", data := .seq #[.int 7 543, .int 2 544] }
noncomputable def ob285 (P : Params) : Obj := { cls := .type "tuple", data := .seq #[.int 7 545, .int 2 546] }
noncomputable def ob286 (P : Params) : Obj := { cls := .type "tuple", data := .seq #[.ref 224, .ref 225, .ref 226, .ref 227, .ref 228, .ref 229, .ref 230, .ref 231, .ref 232, .ref 233, .ref 234, .ref 235, .ref 236, .ref 237, .ref 238, .ref 239] }
noncomputable def ob287 (P : Params) : Obj := { cls := .type "dict", data := .dict #[{ hash := PyData.keyHash P "__name__", key := .str "__name__" 165, val := .str "law_nn0118_01" 513 }, { hash := PyData.keyHash P "__doc__", key := .str "__doc__" 166, val := .none }, { hash := PyData.keyHash P "__package__", key := .str "__package__" 167, val := .none }, { hash := PyData.keyHash P "__loader__", key := .str "__loader__" 168, val := .builtin "__main__.__loader__#opaque" }, { hash := PyData.keyHash P "__spec__", key := .str "__spec__" 169, val := .none }, { hash := PyData.keyHash P "__annotations__", key := .str "__annotations__" 170, val := .ref 6 }, { hash := PyData.keyHash P "__builtins__", key := .str "__builtins__" 171, val := .ref 4 }, { hash := PyData.keyHash P "__file__", key := .str "__file__" 173, val := .str "/claim/cut.py" 172 }, { hash := PyData.keyHash P "__cached__", key := .str "__cached__" 174, val := .none }, { hash := PyData.keyHash P "_wall", key := .str "_wall" 193, val := .ref 21 }, { hash := PyData.keyHash P "PaperError", key := .str "PaperError" 235, val := .ref 46 }, { hash := PyData.keyHash P "FilterFault", key := .str "FilterFault" 251, val := .ref 59 }, { hash := PyData.keyHash P "LEAST", key := .str "LEAST" 255, val := .int 3 254 }, { hash := PyData.keyHash P "MOST_LENGTH", key := .str "MOST_LENGTH" 257, val := .int 258 256 }, { hash := PyData.keyHash P "MOST_BACK", key := .str "MOST_BACK" 259, val := .int 32768 258 }, { hash := PyData.keyHash P "key_at", key := .str "key_at" 267, val := .ref 68 }, { hash := PyData.keyHash P "Chains", key := .str "Chains" 321, val := .ref 99 }, { hash := PyData.keyHash P "common_length", key := .str "common_length" 333, val := .ref 110 }, { hash := PyData.keyHash P "match_at", key := .str "match_at" 347, val := .ref 117 }, { hash := PyData.keyHash P "find_matches", key := .str "find_matches" 362, val := .ref 125 }, { hash := PyData.keyHash P "lazy_matches", key := .str "lazy_matches" 378, val := .ref 133 }, { hash := PyData.keyHash P "matches_by_length", key := .str "matches_by_length" 393, val := .ref 140 }, { hash := PyData.keyHash P "cheapest_parts", key := .str "cheapest_parts" 400, val := .ref 146 }, { hash := PyData.keyHash P "cost_of", key := .str "cost_of" 410, val := .ref 153 }, { hash := PyData.keyHash P "length_of", key := .str "length_of" 417, val := .ref 160 }, { hash := PyData.keyHash P "expanded", key := .str "expanded" 429, val := .ref 167 }, { hash := PyData.keyHash P "UNUSED_PRICE", key := .str "UNUSED_PRICE" 433, val := .int 16 432 }, { hash := PyData.keyHash P "split_number", key := .str "split_number" 442, val := .ref 174 }, { hash := PyData.keyHash P "length_symbol", key := .str "length_symbol" 452, val := .ref 181 }, { hash := PyData.keyHash P "distance_symbol", key := .str "distance_symbol" 459, val := .ref 188 }, { hash := PyData.keyHash P "Prices", key := .str "Prices" 512, val := .ref 219 }, { hash := PyData.keyHash P "_law_BACKS", key := .str "_law_BACKS" 547, val := .ref 240 }, { hash := PyData.keyHash P "_law_taker", key := .str "_law_taker" 557, val := .ref 247 }, { hash := PyData.keyHash P "_law_places", key := .str "_law_places" 563, val := .ref 252 }, { hash := PyData.keyHash P "_law_common", key := .str "_law_common" 574, val := .ref 259 }, { hash := PyData.keyHash P "_law_match", key := .str "_law_match" 586, val := .ref 266 }, { hash := PyData.keyHash P "_law_greedy", key := .str "_law_greedy" 598, val := .ref 273 }, { hash := PyData.keyHash P "_law_price", key := .str "_law_price" 610, val := .ref 280 }, { hash := PyData.keyHash P "_law_cheapest", key := .str "_law_cheapest" 616, val := .ref 285 }, { hash := PyData.keyHash P "_law_fault_place", key := .str "_law_fault_place" 624, val := .ref 292 }, { hash := PyData.keyHash P "law", key := .str "law" 630, val := .ref 297 }] 41 }
noncomputable def ob288 (P : Params) : Obj := { cls := .none, data := .fields #[.int 1 0, .int 0 0, .ref 20, .int 5 0, .int 0 0, .ref 27, .int 14 0, .int 0 0, .ref 55, .int 20 0, .int 0 0, .ref 67, .int 22 0, .int 0 0, .ref 74, .int 48 0, .int 0 0, .ref 109, .int 54 0, .int 0 0, .ref 116, .int 62 0, .int 0 0, .ref 124, .int 75 0, .int 0 0, .ref 132, .int 91 0, .int 0 0, .ref 139, .int 101 0, .int 0 0, .ref 145, .int 123 0, .int 0 0, .ref 152, .int 131 0, .int 0 0, .ref 159, .int 135 0, .int 0 0, .ref 166, .int 149 0, .int 0 0, .ref 173, .int 154 0, .int 0 0, .ref 180, .int 159 0, .int 0 0, .ref 187, .int 161 0, .int 0 0, .ref 194, .int 176 0, .int 0 0, .ref 246, .int 188 0, .int 0 0, .ref 251, .int 192 0, .int 0 0, .ref 258, .int 197 0, .int 0 0, .ref 265, .int 204 0, .int 0 0, .ref 272, .int 216 0, .int 0 0, .ref 279, .int 222 0, .int 0 0, .ref 284, .int 236 0, .int 0 0, .ref 291, .int 242 0, .int 0 0, .ref 296] }
noncomputable def ob289 (P : Params) : Obj := { cls := .type "tuple", data := .seq #[] }
noncomputable def ob290 (P : Params) : Obj := { cls := .none, data := .fields #[] }
noncomputable def ob291 (P : Params) : Obj := { cls := .type "tuple", data := .seq #[.str "script" 551, .str "take" 552] }
noncomputable def ob292 (P : Params) : Obj := { cls := .type "tuple", data := .seq #[.str "cells" 553, .str "place" 554] }
noncomputable def ob293 (P : Params) : Obj := fob0 (stAt 27) "_law_taker"
noncomputable def ob294 (P : Params) : Obj := { cls := .type "code", data := .fields #[.str "_law_taker" 548, .str "_law_taker" 549, .str "/claim/cut.py" 550, .int 176 0, .int 1 0, .int 0 0, .int 0 0, .int 3 0, .ref 241, .bool Bool.true, .int 181 0, .ref 242, .none, .ref 243, .ref 244, .ref 245, .int 555 0, .int 176 0, .str "/claim/cut.py" 556] }
noncomputable def ob295 (P : Params) : Obj := fobj (stAt 27) "_law_taker" .none (.str "law_nn0118_01" 513) 246
noncomputable def ob296 (P : Params) : Obj := { cls := .type "tuple", data := .seq #[] }
noncomputable def ob297 (P : Params) : Obj := { cls := .none, data := .fields #[] }
noncomputable def ob298 (P : Params) : Obj := fob0 (stAt 28) "_law_places"
noncomputable def ob299 (P : Params) : Obj := { cls := .type "code", data := .fields #[.str "_law_places" 558, .str "_law_places" 559, .str "/claim/cut.py" 560, .int 188 0, .int 4 0, .int 0 0, .int 0 0, .int 3 0, .ref 248, .bool Bool.true, .int 181 0, .ref 249, .none, .none, .none, .ref 250, .int 561 0, .int 188 0, .str "/claim/cut.py" 562] }
noncomputable def ob300 (P : Params) : Obj := fobj (stAt 28) "_law_places" .none (.str "law_nn0118_01" 513) 251
noncomputable def ob301 (P : Params) : Obj := { cls := .type "tuple", data := .seq #[] }
noncomputable def ob302 (P : Params) : Obj := { cls := .none, data := .fields #[] }
noncomputable def ob303 (P : Params) : Obj := { cls := .type "tuple", data := .seq #[.str "octets" 567, .str "back" 568, .str "at" 569, .str "most_length" 570, .str "length" 571] }
noncomputable def ob304 (P : Params) : Obj := { cls := .type "tuple", data := .seq #[] }
noncomputable def ob305 (P : Params) : Obj := fob0 (stAt 29) "_law_common"
noncomputable def ob306 (P : Params) : Obj := { cls := .type "code", data := .fields #[.str "_law_common" 564, .str "_law_common" 565, .str "/claim/cut.py" 566, .int 192 0, .int 4 0, .int 0 0, .int 0 0, .int 3 0, .ref 253, .bool Bool.true, .int 181 0, .ref 254, .none, .ref 255, .ref 256, .ref 257, .int 572 0, .int 192 0, .str "/claim/cut.py" 573] }
noncomputable def ob307 (P : Params) : Obj := fobj (stAt 29) "_law_common" .none (.str "law_nn0118_01" 513) 258
noncomputable def ob308 (P : Params) : Obj := { cls := .type "tuple", data := .seq #[] }
noncomputable def ob309 (P : Params) : Obj := { cls := .none, data := .fields #[] }
noncomputable def ob310 (P : Params) : Obj := { cls := .type "tuple", data := .seq #[.str "octets" 578, .str "at" 579, .str "bounds" 580, .str "best" 581, .str "back" 582, .str "length" 583] }
noncomputable def ob311 (P : Params) : Obj := { cls := .type "tuple", data := .seq #[] }
noncomputable def ob312 (P : Params) : Obj := fob0 (stAt 30) "_law_match"
noncomputable def ob313 (P : Params) : Obj := { cls := .type "code", data := .fields #[.str "_law_match" 575, .str "_law_match" 576, .str "/claim/cut.py" 577, .int 197 0, .int 3 0, .int 0 0, .int 0 0, .int 3 0, .ref 260, .bool Bool.true, .int 181 0, .ref 261, .none, .ref 262, .ref 263, .ref 264, .int 584 0, .int 197 0, .str "/claim/cut.py" 585] }
noncomputable def ob314 (P : Params) : Obj := fobj (stAt 30) "_law_match" .none (.str "law_nn0118_01" 513) 265
noncomputable def ob315 (P : Params) : Obj := { cls := .type "tuple", data := .seq #[] }
noncomputable def ob316 (P : Params) : Obj := { cls := .none, data := .fields #[] }
noncomputable def ob317 (P : Params) : Obj := { cls := .type "tuple", data := .seq #[.str "octets" 590, .str "bounds" 591, .str "is_lazy" 592, .str "parts" 593, .str "at" 594, .str "match" 595] }
noncomputable def ob318 (P : Params) : Obj := { cls := .type "tuple", data := .seq #[] }
noncomputable def ob319 (P : Params) : Obj := fob0 (stAt 31) "_law_greedy"
noncomputable def ob320 (P : Params) : Obj := { cls := .type "code", data := .fields #[.str "_law_greedy" 587, .str "_law_greedy" 588, .str "/claim/cut.py" 589, .int 204 0, .int 3 0, .int 0 0, .int 0 0, .int 3 0, .ref 267, .bool Bool.true, .int 181 0, .ref 268, .none, .ref 269, .ref 270, .ref 271, .int 596 0, .int 204 0, .str "/claim/cut.py" 597] }
noncomputable def ob321 (P : Params) : Obj := fobj (stAt 31) "_law_greedy" .none (.str "law_nn0118_01" 513) 272
noncomputable def ob322 (P : Params) : Obj := { cls := .type "tuple", data := .seq #[] }
noncomputable def ob323 (P : Params) : Obj := { cls := .none, data := .fields #[] }
noncomputable def ob324 (P : Params) : Obj := { cls := .type "tuple", data := .seq #[.str "prices" 602, .str "part" 603, .str "literals" 604, .str "distances" 605, .str "symbol" 606, .str "extra" 607] }
noncomputable def ob325 (P : Params) : Obj := { cls := .type "tuple", data := .seq #[] }
noncomputable def ob326 (P : Params) : Obj := fob0 (stAt 32) "_law_price"
noncomputable def ob327 (P : Params) : Obj := { cls := .type "code", data := .fields #[.str "_law_price" 599, .str "_law_price" 600, .str "/claim/cut.py" 601, .int 216 0, .int 2 0, .int 0 0, .int 0 0, .int 3 0, .ref 274, .bool Bool.true, .int 181 0, .ref 275, .none, .ref 276, .ref 277, .ref 278, .int 608 0, .int 216 0, .str "/claim/cut.py" 609] }
noncomputable def ob328 (P : Params) : Obj := fobj (stAt 32) "_law_price" .none (.str "law_nn0118_01" 513) 279
noncomputable def ob329 (P : Params) : Obj := { cls := .type "tuple", data := .seq #[] }
noncomputable def ob330 (P : Params) : Obj := { cls := .none, data := .fields #[] }
noncomputable def ob331 (P : Params) : Obj := fob0 (stAt 33) "_law_cheapest"
noncomputable def ob332 (P : Params) : Obj := { cls := .type "code", data := .fields #[.str "_law_cheapest" 611, .str "_law_cheapest" 612, .str "/claim/cut.py" 613, .int 222 0, .int 3 0, .int 0 0, .int 0 0, .int 3 0, .ref 281, .bool Bool.true, .int 181 0, .ref 282, .none, .none, .none, .ref 283, .int 614 0, .int 222 0, .str "/claim/cut.py" 615] }
noncomputable def ob333 (P : Params) : Obj := fobj (stAt 33) "_law_cheapest" .none (.str "law_nn0118_01" 513) 284
noncomputable def ob334 (P : Params) : Obj := { cls := .type "tuple", data := .seq #[] }
noncomputable def ob335 (P : Params) : Obj := { cls := .none, data := .fields #[] }
noncomputable def ob336 (P : Params) : Obj := { cls := .type "tuple", data := .seq #[.str "parts" 620, .str "fault" 621] }
noncomputable def ob337 (P : Params) : Obj := { cls := .type "tuple", data := .seq #[] }
noncomputable def ob338 (P : Params) : Obj := fob0 (stAt 34) "_law_fault_place"
noncomputable def ob339 (P : Params) : Obj := { cls := .type "code", data := .fields #[.str "_law_fault_place" 617, .str "_law_fault_place" 618, .str "/claim/cut.py" 619, .int 236 0, .int 1 0, .int 0 0, .int 0 0, .int 3 0, .ref 286, .bool Bool.true, .int 181 0, .ref 287, .none, .ref 288, .ref 289, .ref 290, .int 622 0, .int 236 0, .str "/claim/cut.py" 623] }
noncomputable def ob340 (P : Params) : Obj := fobj (stAt 34) "_law_fault_place" .none (.str "law_nn0118_01" 513) 291
noncomputable def ob341 (P : Params) : Obj := { cls := .type "tuple", data := .seq #[] }
noncomputable def ob342 (P : Params) : Obj := { cls := .none, data := .fields #[] }
noncomputable def ob343 (P : Params) : Obj := fob0 (stAt 35) "law"
noncomputable def ob344 (P : Params) : Obj := { cls := .type "code", data := .fields #[.str "law" 625, .str "law" 626, .str "/claim/cut.py" 627, .int 242 0, .int 1 0, .int 0 0, .int 0 0, .int 3 0, .ref 293, .bool Bool.true, .int 181 0, .ref 294, .none, .none, .none, .ref 295, .int 628 0, .int 242 0, .str "/claim/cut.py" 629] }
noncomputable def ob345 (P : Params) : Obj := fobj (stAt 35) "law" .none (.str "law_nn0118_01" 513) 296
noncomputable def tr47 (P : Params) : BT := .node (boot_o_0 P) (.node (boot_o_1 P) (.node (boot_o_3 P) (.node (boot_o_7 P) .nil .nil) (.node (ob43 P) .nil .nil)) (.node (boot_o_5 P) (.node (boot_o_9 P) .nil .nil) (.node (ob45 P) .nil .nil))) (.node (boot_o_2 P) (.node (boot_o_4 P) (.node (boot_o_8 P) .nil .nil) (.node (ob44 P) .nil .nil)) (.node (boot_o_6 P) (.node (boot_o_10 P) .nil .nil) (.node (ob46 P) .nil .nil)))
noncomputable def tr86 (P : Params) : BT := .node (boot_o_0 P) (.node (boot_o_1 P) (.node (ob50 P) (.node (boot_o_7 P) (.node (ob52 P) (.node (ob68 P) .nil .nil) (.node (ob84 P) .nil .nil)) (.node (ob60 P) (.node (ob76 P) .nil .nil) .nil)) (.node (ob43 P) (.node (ob56 P) (.node (ob72 P) .nil .nil) .nil) (.node (ob64 P) (.node (ob80 P) .nil .nil) .nil))) (.node (boot_o_5 P) (.node (boot_o_9 P) (.node (ob54 P) (.node (ob70 P) .nil .nil) (.node (ob86 P) .nil .nil)) (.node (ob62 P) (.node (ob78 P) .nil .nil) .nil)) (.node (ob45 P) (.node (ob58 P) (.node (ob74 P) .nil .nil) .nil) (.node (ob66 P) (.node (ob82 P) .nil .nil) .nil)))) (.node (ob49 P) (.node (boot_o_4 P) (.node (boot_o_8 P) (.node (ob53 P) (.node (ob69 P) .nil .nil) (.node (ob85 P) .nil .nil)) (.node (ob61 P) (.node (ob77 P) .nil .nil) .nil)) (.node (ob51 P) (.node (ob57 P) (.node (ob73 P) .nil .nil) .nil) (.node (ob65 P) (.node (ob81 P) .nil .nil) .nil))) (.node (boot_o_6 P) (.node (boot_o_10 P) (.node (ob55 P) (.node (ob71 P) .nil .nil) .nil) (.node (ob63 P) (.node (ob79 P) .nil .nil) .nil)) (.node (ob46 P) (.node (ob59 P) (.node (ob75 P) .nil .nil) .nil) (.node (ob67 P) (.node (ob83 P) .nil .nil) .nil))))
noncomputable def tr108 (P : Params) : BT := .node (boot_o_0 P) (.node (boot_o_1 P) (.node (ob87 P) (.node (boot_o_7 P) (.node (ob52 P) (.node (ob68 P) (.node (ob103 P) .nil .nil) .nil) (.node (ob84 P) .nil .nil)) (.node (ob60 P) (.node (ob76 P) .nil .nil) (.node (ob95 P) .nil .nil))) (.node (ob43 P) (.node (ob56 P) (.node (ob72 P) (.node (ob107 P) .nil .nil) .nil) (.node (ob91 P) .nil .nil)) (.node (ob64 P) (.node (ob80 P) .nil .nil) (.node (ob99 P) .nil .nil)))) (.node (boot_o_5 P) (.node (boot_o_9 P) (.node (ob54 P) (.node (ob70 P) (.node (ob105 P) .nil .nil) .nil) (.node (ob86 P) .nil .nil)) (.node (ob62 P) (.node (ob78 P) .nil .nil) (.node (ob97 P) .nil .nil))) (.node (ob45 P) (.node (ob58 P) (.node (ob74 P) .nil .nil) (.node (ob93 P) .nil .nil)) (.node (ob66 P) (.node (ob82 P) .nil .nil) (.node (ob101 P) .nil .nil))))) (.node (ob49 P) (.node (boot_o_4 P) (.node (boot_o_8 P) (.node (ob53 P) (.node (ob69 P) (.node (ob104 P) .nil .nil) .nil) (.node (ob85 P) .nil .nil)) (.node (ob61 P) (.node (ob77 P) .nil .nil) (.node (ob96 P) .nil .nil))) (.node (ob88 P) (.node (ob57 P) (.node (ob73 P) (.node (ob108 P) .nil .nil) .nil) (.node (ob92 P) .nil .nil)) (.node (ob65 P) (.node (ob81 P) .nil .nil) (.node (ob100 P) .nil .nil)))) (.node (boot_o_6 P) (.node (boot_o_10 P) (.node (ob55 P) (.node (ob71 P) (.node (ob106 P) .nil .nil) .nil) (.node (ob90 P) .nil .nil)) (.node (ob63 P) (.node (ob79 P) .nil .nil) (.node (ob98 P) .nil .nil))) (.node (ob46 P) (.node (ob59 P) (.node (ob75 P) .nil .nil) (.node (ob94 P) .nil .nil)) (.node (ob67 P) (.node (ob89 P) .nil .nil) (.node (ob102 P) .nil .nil)))))
noncomputable def tr159 (P : Params) : BT := .node (boot_o_0 P) (.node (boot_o_1 P) (.node (ob109 P) (.node (boot_o_7 P) (.node (ob52 P) (.node (ob68 P) (.node (ob103 P) .nil .nil) (.node (ob137 P) .nil .nil)) (.node (ob84 P) (.node (ob121 P) .nil .nil) (.node (ob153 P) .nil .nil))) (.node (ob60 P) (.node (ob76 P) (.node (ob113 P) .nil .nil) (.node (ob145 P) .nil .nil)) (.node (ob95 P) (.node (ob129 P) .nil .nil) .nil))) (.node (ob43 P) (.node (ob56 P) (.node (ob72 P) (.node (ob107 P) .nil .nil) (.node (ob141 P) .nil .nil)) (.node (ob91 P) (.node (ob125 P) .nil .nil) (.node (ob157 P) .nil .nil))) (.node (ob64 P) (.node (ob80 P) (.node (ob117 P) .nil .nil) (.node (ob149 P) .nil .nil)) (.node (ob99 P) (.node (ob133 P) .nil .nil) .nil)))) (.node (boot_o_5 P) (.node (boot_o_9 P) (.node (ob54 P) (.node (ob70 P) (.node (ob105 P) .nil .nil) (.node (ob139 P) .nil .nil)) (.node (ob86 P) (.node (ob123 P) .nil .nil) (.node (ob155 P) .nil .nil))) (.node (ob62 P) (.node (ob78 P) (.node (ob115 P) .nil .nil) (.node (ob147 P) .nil .nil)) (.node (ob97 P) (.node (ob131 P) .nil .nil) .nil))) (.node (ob45 P) (.node (ob58 P) (.node (ob74 P) (.node (ob111 P) .nil .nil) (.node (ob143 P) .nil .nil)) (.node (ob93 P) (.node (ob127 P) .nil .nil) (.node (ob159 P) .nil .nil))) (.node (ob66 P) (.node (ob82 P) (.node (ob119 P) .nil .nil) (.node (ob151 P) .nil .nil)) (.node (ob101 P) (.node (ob135 P) .nil .nil) .nil))))) (.node (ob49 P) (.node (boot_o_4 P) (.node (boot_o_8 P) (.node (ob53 P) (.node (ob69 P) (.node (ob104 P) .nil .nil) (.node (ob138 P) .nil .nil)) (.node (ob85 P) (.node (ob122 P) .nil .nil) (.node (ob154 P) .nil .nil))) (.node (ob61 P) (.node (ob77 P) (.node (ob114 P) .nil .nil) (.node (ob146 P) .nil .nil)) (.node (ob96 P) (.node (ob130 P) .nil .nil) .nil))) (.node (ob110 P) (.node (ob57 P) (.node (ob73 P) (.node (ob108 P) .nil .nil) (.node (ob142 P) .nil .nil)) (.node (ob92 P) (.node (ob126 P) .nil .nil) (.node (ob158 P) .nil .nil))) (.node (ob65 P) (.node (ob81 P) (.node (ob118 P) .nil .nil) (.node (ob150 P) .nil .nil)) (.node (ob100 P) (.node (ob134 P) .nil .nil) .nil)))) (.node (boot_o_6 P) (.node (boot_o_10 P) (.node (ob55 P) (.node (ob71 P) (.node (ob106 P) .nil .nil) (.node (ob140 P) .nil .nil)) (.node (ob90 P) (.node (ob124 P) .nil .nil) (.node (ob156 P) .nil .nil))) (.node (ob63 P) (.node (ob79 P) (.node (ob116 P) .nil .nil) (.node (ob148 P) .nil .nil)) (.node (ob98 P) (.node (ob132 P) .nil .nil) .nil))) (.node (ob46 P) (.node (ob59 P) (.node (ob75 P) (.node (ob112 P) .nil .nil) (.node (ob144 P) .nil .nil)) (.node (ob94 P) (.node (ob128 P) .nil .nil) .nil)) (.node (ob67 P) (.node (ob89 P) (.node (ob120 P) .nil .nil) (.node (ob152 P) .nil .nil)) (.node (ob102 P) (.node (ob136 P) .nil .nil) .nil)))))
noncomputable def tr232 (P : Params) : BT := .node (boot_o_0 P) (.node (boot_o_1 P) (.node (ob160 P) (.node (boot_o_7 P) (.node (ob52 P) (.node (ob68 P) (.node (ob103 P) (.node (ob171 P) .nil .nil) .nil) (.node (ob137 P) (.node (ob203 P) .nil .nil) .nil)) (.node (ob84 P) (.node (ob121 P) (.node (ob187 P) .nil .nil) .nil) (.node (ob153 P) (.node (ob219 P) .nil .nil) .nil))) (.node (ob60 P) (.node (ob76 P) (.node (ob113 P) (.node (ob179 P) .nil .nil) .nil) (.node (ob145 P) (.node (ob211 P) .nil .nil) .nil)) (.node (ob95 P) (.node (ob129 P) (.node (ob195 P) .nil .nil) .nil) (.node (ob163 P) (.node (ob227 P) .nil .nil) .nil)))) (.node (ob43 P) (.node (ob56 P) (.node (ob72 P) (.node (ob107 P) (.node (ob175 P) .nil .nil) .nil) (.node (ob141 P) (.node (ob207 P) .nil .nil) .nil)) (.node (ob91 P) (.node (ob125 P) (.node (ob191 P) .nil .nil) .nil) (.node (ob157 P) (.node (ob223 P) .nil .nil) .nil))) (.node (ob64 P) (.node (ob80 P) (.node (ob117 P) (.node (ob183 P) .nil .nil) .nil) (.node (ob149 P) (.node (ob215 P) .nil .nil) .nil)) (.node (ob99 P) (.node (ob133 P) (.node (ob199 P) .nil .nil) .nil) (.node (ob167 P) (.node (ob231 P) .nil .nil) .nil))))) (.node (boot_o_5 P) (.node (boot_o_9 P) (.node (ob54 P) (.node (ob70 P) (.node (ob105 P) (.node (ob173 P) .nil .nil) .nil) (.node (ob139 P) (.node (ob205 P) .nil .nil) .nil)) (.node (ob86 P) (.node (ob123 P) (.node (ob189 P) .nil .nil) .nil) (.node (ob155 P) (.node (ob221 P) .nil .nil) .nil))) (.node (ob62 P) (.node (ob78 P) (.node (ob115 P) (.node (ob181 P) .nil .nil) .nil) (.node (ob147 P) (.node (ob213 P) .nil .nil) .nil)) (.node (ob97 P) (.node (ob131 P) (.node (ob197 P) .nil .nil) .nil) (.node (ob165 P) (.node (ob229 P) .nil .nil) .nil)))) (.node (ob45 P) (.node (ob58 P) (.node (ob74 P) (.node (ob111 P) (.node (ob177 P) .nil .nil) .nil) (.node (ob143 P) (.node (ob209 P) .nil .nil) .nil)) (.node (ob93 P) (.node (ob127 P) (.node (ob193 P) .nil .nil) .nil) (.node (ob159 P) (.node (ob225 P) .nil .nil) .nil))) (.node (ob66 P) (.node (ob82 P) (.node (ob119 P) (.node (ob185 P) .nil .nil) .nil) (.node (ob151 P) (.node (ob217 P) .nil .nil) .nil)) (.node (ob101 P) (.node (ob135 P) (.node (ob201 P) .nil .nil) .nil) (.node (ob169 P) .nil .nil)))))) (.node (ob49 P) (.node (boot_o_4 P) (.node (boot_o_8 P) (.node (ob53 P) (.node (ob69 P) (.node (ob104 P) (.node (ob172 P) .nil .nil) .nil) (.node (ob138 P) (.node (ob204 P) .nil .nil) .nil)) (.node (ob85 P) (.node (ob122 P) (.node (ob188 P) .nil .nil) .nil) (.node (ob154 P) (.node (ob220 P) .nil .nil) .nil))) (.node (ob61 P) (.node (ob77 P) (.node (ob114 P) (.node (ob180 P) .nil .nil) .nil) (.node (ob146 P) (.node (ob212 P) .nil .nil) .nil)) (.node (ob96 P) (.node (ob130 P) (.node (ob196 P) .nil .nil) .nil) (.node (ob164 P) (.node (ob228 P) .nil .nil) .nil)))) (.node (ob161 P) (.node (ob57 P) (.node (ob73 P) (.node (ob108 P) (.node (ob176 P) .nil .nil) .nil) (.node (ob142 P) (.node (ob208 P) .nil .nil) .nil)) (.node (ob92 P) (.node (ob126 P) (.node (ob192 P) .nil .nil) .nil) (.node (ob158 P) (.node (ob224 P) .nil .nil) .nil))) (.node (ob65 P) (.node (ob81 P) (.node (ob118 P) (.node (ob184 P) .nil .nil) .nil) (.node (ob150 P) (.node (ob216 P) .nil .nil) .nil)) (.node (ob100 P) (.node (ob134 P) (.node (ob200 P) .nil .nil) .nil) (.node (ob168 P) (.node (ob232 P) .nil .nil) .nil))))) (.node (boot_o_6 P) (.node (boot_o_10 P) (.node (ob55 P) (.node (ob71 P) (.node (ob106 P) (.node (ob174 P) .nil .nil) .nil) (.node (ob140 P) (.node (ob206 P) .nil .nil) .nil)) (.node (ob90 P) (.node (ob124 P) (.node (ob190 P) .nil .nil) .nil) (.node (ob156 P) (.node (ob222 P) .nil .nil) .nil))) (.node (ob63 P) (.node (ob79 P) (.node (ob116 P) (.node (ob182 P) .nil .nil) .nil) (.node (ob148 P) (.node (ob214 P) .nil .nil) .nil)) (.node (ob98 P) (.node (ob132 P) (.node (ob198 P) .nil .nil) .nil) (.node (ob166 P) (.node (ob230 P) .nil .nil) .nil)))) (.node (ob46 P) (.node (ob59 P) (.node (ob75 P) (.node (ob112 P) (.node (ob178 P) .nil .nil) .nil) (.node (ob144 P) (.node (ob210 P) .nil .nil) .nil)) (.node (ob94 P) (.node (ob128 P) (.node (ob194 P) .nil .nil) .nil) (.node (ob162 P) (.node (ob226 P) .nil .nil) .nil))) (.node (ob67 P) (.node (ob89 P) (.node (ob120 P) (.node (ob186 P) .nil .nil) .nil) (.node (ob152 P) (.node (ob218 P) .nil .nil) .nil)) (.node (ob102 P) (.node (ob136 P) (.node (ob202 P) .nil .nil) .nil) (.node (ob170 P) .nil .nil))))))
noncomputable def tr286 (P : Params) : BT := .node (boot_o_0 P) (.node (boot_o_1 P) (.node (ob233 P) (.node (boot_o_7 P) (.node (ob52 P) (.node (ob68 P) (.node (ob103 P) (.node (ob171 P) .nil .nil) (.node (ob237 P) .nil .nil)) (.node (ob137 P) (.node (ob203 P) .nil .nil) (.node (ob269 P) .nil .nil))) (.node (ob84 P) (.node (ob121 P) (.node (ob187 P) .nil .nil) (.node (ob253 P) .nil .nil)) (.node (ob153 P) (.node (ob219 P) .nil .nil) (.node (ob285 P) .nil .nil)))) (.node (ob60 P) (.node (ob76 P) (.node (ob113 P) (.node (ob179 P) .nil .nil) (.node (ob245 P) .nil .nil)) (.node (ob145 P) (.node (ob211 P) .nil .nil) (.node (ob277 P) .nil .nil))) (.node (ob95 P) (.node (ob129 P) (.node (ob195 P) .nil .nil) (.node (ob261 P) .nil .nil)) (.node (ob163 P) (.node (ob227 P) .nil .nil) .nil)))) (.node (ob43 P) (.node (ob56 P) (.node (ob72 P) (.node (ob107 P) (.node (ob175 P) .nil .nil) (.node (ob241 P) .nil .nil)) (.node (ob141 P) (.node (ob207 P) .nil .nil) (.node (ob273 P) .nil .nil))) (.node (ob91 P) (.node (ob125 P) (.node (ob191 P) .nil .nil) (.node (ob257 P) .nil .nil)) (.node (ob157 P) (.node (ob223 P) .nil .nil) .nil))) (.node (ob64 P) (.node (ob80 P) (.node (ob117 P) (.node (ob183 P) .nil .nil) (.node (ob249 P) .nil .nil)) (.node (ob149 P) (.node (ob215 P) .nil .nil) (.node (ob281 P) .nil .nil))) (.node (ob99 P) (.node (ob133 P) (.node (ob199 P) .nil .nil) (.node (ob265 P) .nil .nil)) (.node (ob167 P) (.node (ob231 P) .nil .nil) .nil))))) (.node (boot_o_5 P) (.node (boot_o_9 P) (.node (ob54 P) (.node (ob70 P) (.node (ob105 P) (.node (ob173 P) .nil .nil) (.node (ob239 P) .nil .nil)) (.node (ob139 P) (.node (ob205 P) .nil .nil) (.node (ob271 P) .nil .nil))) (.node (ob86 P) (.node (ob123 P) (.node (ob189 P) .nil .nil) (.node (ob255 P) .nil .nil)) (.node (ob155 P) (.node (ob221 P) .nil .nil) .nil))) (.node (ob62 P) (.node (ob78 P) (.node (ob115 P) (.node (ob181 P) .nil .nil) (.node (ob247 P) .nil .nil)) (.node (ob147 P) (.node (ob213 P) .nil .nil) (.node (ob279 P) .nil .nil))) (.node (ob97 P) (.node (ob131 P) (.node (ob197 P) .nil .nil) (.node (ob263 P) .nil .nil)) (.node (ob165 P) (.node (ob229 P) .nil .nil) .nil)))) (.node (ob45 P) (.node (ob58 P) (.node (ob74 P) (.node (ob111 P) (.node (ob177 P) .nil .nil) (.node (ob243 P) .nil .nil)) (.node (ob143 P) (.node (ob209 P) .nil .nil) (.node (ob275 P) .nil .nil))) (.node (ob93 P) (.node (ob127 P) (.node (ob193 P) .nil .nil) (.node (ob259 P) .nil .nil)) (.node (ob159 P) (.node (ob225 P) .nil .nil) .nil))) (.node (ob66 P) (.node (ob82 P) (.node (ob119 P) (.node (ob185 P) .nil .nil) (.node (ob251 P) .nil .nil)) (.node (ob151 P) (.node (ob217 P) .nil .nil) (.node (ob283 P) .nil .nil))) (.node (ob101 P) (.node (ob135 P) (.node (ob201 P) .nil .nil) (.node (ob267 P) .nil .nil)) (.node (ob169 P) (.node (ob235 P) .nil .nil) .nil)))))) (.node (ob49 P) (.node (boot_o_4 P) (.node (boot_o_8 P) (.node (ob53 P) (.node (ob69 P) (.node (ob104 P) (.node (ob172 P) .nil .nil) (.node (ob238 P) .nil .nil)) (.node (ob138 P) (.node (ob204 P) .nil .nil) (.node (ob270 P) .nil .nil))) (.node (ob85 P) (.node (ob122 P) (.node (ob188 P) .nil .nil) (.node (ob254 P) .nil .nil)) (.node (ob154 P) (.node (ob220 P) .nil .nil) (.node (ob286 P) .nil .nil)))) (.node (ob61 P) (.node (ob77 P) (.node (ob114 P) (.node (ob180 P) .nil .nil) (.node (ob246 P) .nil .nil)) (.node (ob146 P) (.node (ob212 P) .nil .nil) (.node (ob278 P) .nil .nil))) (.node (ob96 P) (.node (ob130 P) (.node (ob196 P) .nil .nil) (.node (ob262 P) .nil .nil)) (.node (ob164 P) (.node (ob228 P) .nil .nil) .nil)))) (.node (ob234 P) (.node (ob57 P) (.node (ob73 P) (.node (ob108 P) (.node (ob176 P) .nil .nil) (.node (ob242 P) .nil .nil)) (.node (ob142 P) (.node (ob208 P) .nil .nil) (.node (ob274 P) .nil .nil))) (.node (ob92 P) (.node (ob126 P) (.node (ob192 P) .nil .nil) (.node (ob258 P) .nil .nil)) (.node (ob158 P) (.node (ob224 P) .nil .nil) .nil))) (.node (ob65 P) (.node (ob81 P) (.node (ob118 P) (.node (ob184 P) .nil .nil) (.node (ob250 P) .nil .nil)) (.node (ob150 P) (.node (ob216 P) .nil .nil) (.node (ob282 P) .nil .nil))) (.node (ob100 P) (.node (ob134 P) (.node (ob200 P) .nil .nil) (.node (ob266 P) .nil .nil)) (.node (ob168 P) (.node (ob232 P) .nil .nil) .nil))))) (.node (boot_o_6 P) (.node (boot_o_10 P) (.node (ob55 P) (.node (ob71 P) (.node (ob106 P) (.node (ob174 P) .nil .nil) (.node (ob240 P) .nil .nil)) (.node (ob140 P) (.node (ob206 P) .nil .nil) (.node (ob272 P) .nil .nil))) (.node (ob90 P) (.node (ob124 P) (.node (ob190 P) .nil .nil) (.node (ob256 P) .nil .nil)) (.node (ob156 P) (.node (ob222 P) .nil .nil) .nil))) (.node (ob63 P) (.node (ob79 P) (.node (ob116 P) (.node (ob182 P) .nil .nil) (.node (ob248 P) .nil .nil)) (.node (ob148 P) (.node (ob214 P) .nil .nil) (.node (ob280 P) .nil .nil))) (.node (ob98 P) (.node (ob132 P) (.node (ob198 P) .nil .nil) (.node (ob264 P) .nil .nil)) (.node (ob166 P) (.node (ob230 P) .nil .nil) .nil)))) (.node (ob46 P) (.node (ob59 P) (.node (ob75 P) (.node (ob112 P) (.node (ob178 P) .nil .nil) (.node (ob244 P) .nil .nil)) (.node (ob144 P) (.node (ob210 P) .nil .nil) (.node (ob276 P) .nil .nil))) (.node (ob94 P) (.node (ob128 P) (.node (ob194 P) .nil .nil) (.node (ob260 P) .nil .nil)) (.node (ob162 P) (.node (ob226 P) .nil .nil) .nil))) (.node (ob67 P) (.node (ob89 P) (.node (ob120 P) (.node (ob186 P) .nil .nil) (.node (ob252 P) .nil .nil)) (.node (ob152 P) (.node (ob218 P) .nil .nil) (.node (ob284 P) .nil .nil))) (.node (ob102 P) (.node (ob136 P) (.node (ob202 P) .nil .nil) (.node (ob268 P) .nil .nil)) (.node (ob170 P) (.node (ob236 P) .nil .nil) .nil))))))
noncomputable def tr345 (P : Params) : BT := .node (boot_o_0 P) (.node (boot_o_1 P) (.node (ob287 P) (.node (boot_o_7 P) (.node (ob52 P) (.node (ob68 P) (.node (ob103 P) (.node (ob171 P) (.node (ob303 P) .nil .nil) .nil) (.node (ob237 P) .nil .nil)) (.node (ob137 P) (.node (ob203 P) (.node (ob335 P) .nil .nil) .nil) (.node (ob269 P) .nil .nil))) (.node (ob84 P) (.node (ob121 P) (.node (ob187 P) (.node (ob319 P) .nil .nil) .nil) (.node (ob253 P) .nil .nil)) (.node (ob153 P) (.node (ob219 P) .nil .nil) (.node (ob285 P) .nil .nil)))) (.node (ob60 P) (.node (ob76 P) (.node (ob113 P) (.node (ob179 P) (.node (ob311 P) .nil .nil) .nil) (.node (ob245 P) .nil .nil)) (.node (ob145 P) (.node (ob211 P) (.node (ob343 P) .nil .nil) .nil) (.node (ob277 P) .nil .nil))) (.node (ob95 P) (.node (ob129 P) (.node (ob195 P) (.node (ob327 P) .nil .nil) .nil) (.node (ob261 P) .nil .nil)) (.node (ob163 P) (.node (ob227 P) .nil .nil) (.node (ob295 P) .nil .nil))))) (.node (ob43 P) (.node (ob56 P) (.node (ob72 P) (.node (ob107 P) (.node (ob175 P) (.node (ob307 P) .nil .nil) .nil) (.node (ob241 P) .nil .nil)) (.node (ob141 P) (.node (ob207 P) (.node (ob339 P) .nil .nil) .nil) (.node (ob273 P) .nil .nil))) (.node (ob91 P) (.node (ob125 P) (.node (ob191 P) (.node (ob323 P) .nil .nil) .nil) (.node (ob257 P) .nil .nil)) (.node (ob157 P) (.node (ob223 P) .nil .nil) (.node (ob291 P) .nil .nil)))) (.node (ob64 P) (.node (ob80 P) (.node (ob117 P) (.node (ob183 P) (.node (ob315 P) .nil .nil) .nil) (.node (ob249 P) .nil .nil)) (.node (ob149 P) (.node (ob215 P) .nil .nil) (.node (ob281 P) .nil .nil))) (.node (ob99 P) (.node (ob133 P) (.node (ob199 P) (.node (ob331 P) .nil .nil) .nil) (.node (ob265 P) .nil .nil)) (.node (ob167 P) (.node (ob231 P) .nil .nil) (.node (ob299 P) .nil .nil)))))) (.node (boot_o_5 P) (.node (boot_o_9 P) (.node (ob54 P) (.node (ob70 P) (.node (ob105 P) (.node (ob173 P) (.node (ob305 P) .nil .nil) .nil) (.node (ob239 P) .nil .nil)) (.node (ob139 P) (.node (ob205 P) (.node (ob337 P) .nil .nil) .nil) (.node (ob271 P) .nil .nil))) (.node (ob86 P) (.node (ob123 P) (.node (ob189 P) (.node (ob321 P) .nil .nil) .nil) (.node (ob255 P) .nil .nil)) (.node (ob155 P) (.node (ob221 P) .nil .nil) (.node (ob289 P) .nil .nil)))) (.node (ob62 P) (.node (ob78 P) (.node (ob115 P) (.node (ob181 P) (.node (ob313 P) .nil .nil) .nil) (.node (ob247 P) .nil .nil)) (.node (ob147 P) (.node (ob213 P) (.node (ob345 P) .nil .nil) .nil) (.node (ob279 P) .nil .nil))) (.node (ob97 P) (.node (ob131 P) (.node (ob197 P) (.node (ob329 P) .nil .nil) .nil) (.node (ob263 P) .nil .nil)) (.node (ob165 P) (.node (ob229 P) .nil .nil) (.node (ob297 P) .nil .nil))))) (.node (ob45 P) (.node (ob58 P) (.node (ob74 P) (.node (ob111 P) (.node (ob177 P) (.node (ob309 P) .nil .nil) .nil) (.node (ob243 P) .nil .nil)) (.node (ob143 P) (.node (ob209 P) (.node (ob341 P) .nil .nil) .nil) (.node (ob275 P) .nil .nil))) (.node (ob93 P) (.node (ob127 P) (.node (ob193 P) (.node (ob325 P) .nil .nil) .nil) (.node (ob259 P) .nil .nil)) (.node (ob159 P) (.node (ob225 P) .nil .nil) (.node (ob293 P) .nil .nil)))) (.node (ob66 P) (.node (ob82 P) (.node (ob119 P) (.node (ob185 P) (.node (ob317 P) .nil .nil) .nil) (.node (ob251 P) .nil .nil)) (.node (ob151 P) (.node (ob217 P) .nil .nil) (.node (ob283 P) .nil .nil))) (.node (ob101 P) (.node (ob135 P) (.node (ob201 P) (.node (ob333 P) .nil .nil) .nil) (.node (ob267 P) .nil .nil)) (.node (ob169 P) (.node (ob235 P) .nil .nil) (.node (ob301 P) .nil .nil))))))) (.node (ob49 P) (.node (boot_o_4 P) (.node (boot_o_8 P) (.node (ob53 P) (.node (ob69 P) (.node (ob104 P) (.node (ob172 P) (.node (ob304 P) .nil .nil) .nil) (.node (ob238 P) .nil .nil)) (.node (ob138 P) (.node (ob204 P) (.node (ob336 P) .nil .nil) .nil) (.node (ob270 P) .nil .nil))) (.node (ob85 P) (.node (ob122 P) (.node (ob188 P) (.node (ob320 P) .nil .nil) .nil) (.node (ob254 P) .nil .nil)) (.node (ob154 P) (.node (ob220 P) .nil .nil) (.node (ob286 P) .nil .nil)))) (.node (ob61 P) (.node (ob77 P) (.node (ob114 P) (.node (ob180 P) (.node (ob312 P) .nil .nil) .nil) (.node (ob246 P) .nil .nil)) (.node (ob146 P) (.node (ob212 P) (.node (ob344 P) .nil .nil) .nil) (.node (ob278 P) .nil .nil))) (.node (ob96 P) (.node (ob130 P) (.node (ob196 P) (.node (ob328 P) .nil .nil) .nil) (.node (ob262 P) .nil .nil)) (.node (ob164 P) (.node (ob228 P) .nil .nil) (.node (ob296 P) .nil .nil))))) (.node (ob288 P) (.node (ob57 P) (.node (ob73 P) (.node (ob108 P) (.node (ob176 P) (.node (ob308 P) .nil .nil) .nil) (.node (ob242 P) .nil .nil)) (.node (ob142 P) (.node (ob208 P) (.node (ob340 P) .nil .nil) .nil) (.node (ob274 P) .nil .nil))) (.node (ob92 P) (.node (ob126 P) (.node (ob192 P) (.node (ob324 P) .nil .nil) .nil) (.node (ob258 P) .nil .nil)) (.node (ob158 P) (.node (ob224 P) .nil .nil) (.node (ob292 P) .nil .nil)))) (.node (ob65 P) (.node (ob81 P) (.node (ob118 P) (.node (ob184 P) (.node (ob316 P) .nil .nil) .nil) (.node (ob250 P) .nil .nil)) (.node (ob150 P) (.node (ob216 P) .nil .nil) (.node (ob282 P) .nil .nil))) (.node (ob100 P) (.node (ob134 P) (.node (ob200 P) (.node (ob332 P) .nil .nil) .nil) (.node (ob266 P) .nil .nil)) (.node (ob168 P) (.node (ob232 P) .nil .nil) (.node (ob300 P) .nil .nil)))))) (.node (boot_o_6 P) (.node (boot_o_10 P) (.node (ob55 P) (.node (ob71 P) (.node (ob106 P) (.node (ob174 P) (.node (ob306 P) .nil .nil) .nil) (.node (ob240 P) .nil .nil)) (.node (ob140 P) (.node (ob206 P) (.node (ob338 P) .nil .nil) .nil) (.node (ob272 P) .nil .nil))) (.node (ob90 P) (.node (ob124 P) (.node (ob190 P) (.node (ob322 P) .nil .nil) .nil) (.node (ob256 P) .nil .nil)) (.node (ob156 P) (.node (ob222 P) .nil .nil) (.node (ob290 P) .nil .nil)))) (.node (ob63 P) (.node (ob79 P) (.node (ob116 P) (.node (ob182 P) (.node (ob314 P) .nil .nil) .nil) (.node (ob248 P) .nil .nil)) (.node (ob148 P) (.node (ob214 P) .nil .nil) (.node (ob280 P) .nil .nil))) (.node (ob98 P) (.node (ob132 P) (.node (ob198 P) (.node (ob330 P) .nil .nil) .nil) (.node (ob264 P) .nil .nil)) (.node (ob166 P) (.node (ob230 P) .nil .nil) (.node (ob298 P) .nil .nil))))) (.node (ob46 P) (.node (ob59 P) (.node (ob75 P) (.node (ob112 P) (.node (ob178 P) (.node (ob310 P) .nil .nil) .nil) (.node (ob244 P) .nil .nil)) (.node (ob144 P) (.node (ob210 P) (.node (ob342 P) .nil .nil) .nil) (.node (ob276 P) .nil .nil))) (.node (ob94 P) (.node (ob128 P) (.node (ob194 P) (.node (ob326 P) .nil .nil) .nil) (.node (ob260 P) .nil .nil)) (.node (ob162 P) (.node (ob226 P) .nil .nil) (.node (ob294 P) .nil .nil)))) (.node (ob67 P) (.node (ob89 P) (.node (ob120 P) (.node (ob186 P) (.node (ob318 P) .nil .nil) .nil) (.node (ob252 P) .nil .nil)) (.node (ob152 P) (.node (ob218 P) .nil .nil) (.node (ob284 P) .nil .nil))) (.node (ob102 P) (.node (ob136 P) (.node (ob202 P) (.node (ob334 P) .nil .nil) .nil) (.node (ob268 P) .nil .nil)) (.node (ob170 P) (.node (ob236 P) .nil .nil) (.node (ob302 P) .nil .nil)))))))
noncomputable def hp46 (P : Params) : Heap := { objs := { toList := [boot_o_0 P, boot_o_1 P, boot_o_2 P, boot_o_3 P, boot_o_4 P, boot_o_5 P, boot_o_6 P, boot_o_7 P, boot_o_8 P, boot_o_9 P, boot_o_10 P, ob43 P, ob44 P, ob45 P, ob46 P] } }
noncomputable def hp346 (P : Params) : Heap := { objs := { toList := [boot_o_0 P, boot_o_1 P, ob49 P, ob287 P, boot_o_4 P, boot_o_5 P, boot_o_6 P, boot_o_7 P, boot_o_8 P, boot_o_9 P, boot_o_10 P, ob43 P, ob288 P, ob45 P, ob46 P, ob52 P, ob53 P, ob54 P, ob55 P, ob56 P, ob57 P, ob58 P, ob59 P, ob60 P, ob61 P, ob62 P, ob63 P, ob64 P, ob65 P, ob66 P, ob67 P, ob68 P, ob69 P, ob70 P, ob71 P, ob72 P, ob73 P, ob74 P, ob75 P, ob76 P, ob77 P, ob78 P, ob79 P, ob80 P, ob81 P, ob82 P, ob89 P, ob84 P, ob85 P, ob86 P, ob90 P, ob91 P, ob92 P, ob93 P, ob94 P, ob95 P, ob96 P, ob97 P, ob98 P, ob99 P, ob100 P, ob101 P, ob102 P, ob103 P, ob104 P, ob105 P, ob106 P, ob107 P, ob108 P, ob111 P, ob112 P, ob113 P, ob114 P, ob115 P, ob116 P, ob117 P, ob118 P, ob119 P, ob120 P, ob121 P, ob122 P, ob123 P, ob124 P, ob125 P, ob126 P, ob127 P, ob128 P, ob129 P, ob130 P, ob131 P, ob132 P, ob133 P, ob134 P, ob135 P, ob136 P, ob137 P, ob138 P, ob139 P, ob140 P, ob141 P, ob142 P, ob143 P, ob144 P, ob145 P, ob146 P, ob147 P, ob148 P, ob149 P, ob150 P, ob151 P, ob152 P, ob153 P, ob154 P, ob155 P, ob156 P, ob157 P, ob158 P, ob159 P, ob162 P, ob163 P, ob164 P, ob165 P, ob166 P, ob167 P, ob168 P, ob169 P, ob170 P, ob171 P, ob172 P, ob173 P, ob174 P, ob175 P, ob176 P, ob177 P, ob178 P, ob179 P, ob180 P, ob181 P, ob182 P, ob183 P, ob184 P, ob185 P, ob186 P, ob187 P, ob188 P, ob189 P, ob190 P, ob191 P, ob192 P, ob193 P, ob194 P, ob195 P, ob196 P, ob197 P, ob198 P, ob199 P, ob200 P, ob201 P, ob202 P, ob203 P, ob204 P, ob205 P, ob206 P, ob207 P, ob208 P, ob209 P, ob210 P, ob211 P, ob212 P, ob213 P, ob214 P, ob215 P, ob216 P, ob217 P, ob218 P, ob219 P, ob220 P, ob221 P, ob222 P, ob223 P, ob224 P, ob225 P, ob226 P, ob227 P, ob228 P, ob229 P, ob230 P, ob231 P, ob232 P, ob235 P, ob236 P, ob237 P, ob238 P, ob239 P, ob240 P, ob241 P, ob242 P, ob243 P, ob244 P, ob245 P, ob246 P, ob247 P, ob248 P, ob249 P, ob250 P, ob251 P, ob252 P, ob253 P, ob254 P, ob255 P, ob256 P, ob257 P, ob258 P, ob259 P, ob260 P, ob261 P, ob262 P, ob263 P, ob264 P, ob265 P, ob266 P, ob267 P, ob268 P, ob269 P, ob270 P, ob271 P, ob272 P, ob273 P, ob274 P, ob275 P, ob276 P, ob277 P, ob278 P, ob279 P, ob280 P, ob281 P, ob282 P, ob283 P, ob284 P, ob285 P, ob286 P, ob289 P, ob290 P, ob291 P, ob292 P, ob293 P, ob294 P, ob295 P, ob296 P, ob297 P, ob298 P, ob299 P, ob300 P, ob301 P, ob302 P, ob303 P, ob304 P, ob305 P, ob306 P, ob307 P, ob308 P, ob309 P, ob310 P, ob311 P, ob312 P, ob313 P, ob314 P, ob315 P, ob316 P, ob317 P, ob318 P, ob319 P, ob320 P, ob321 P, ob322 P, ob323 P, ob324 P, ob325 P, ob326 P, ob327 P, ob328 P, ob329 P, ob330 P, ob331 P, ob332 P, ob333 P, ob334 P, ob335 P, ob336 P, ob337 P, ob338 P, ob339 P, ob340 P, ob341 P, ob342 P, ob343 P, ob344 P, ob345 P] } }
noncomputable abbrev envK : Env := { scope := pwP.main.scope, locals := mainNs, globals := mainNs, cells := [], code := .ref 13, frame := some 14 }
noncomputable abbrev cdK : Code := .body (behindTheImports pwP) envK
noncomputable abbrev stT (T : BT) (n k : Nat) (os : OsState) : SharedT := { tree := T, n := n, life := {}, gens := #[], drawn := {}, toks := k, os := os }
noncomputable def sts1 : List Stmt := [stAt 0, stAt 1, stAt 2]
noncomputable def sts2 : List Stmt := [stAt 3, stAt 4, stAt 5, stAt 6, stAt 7, stAt 8]
noncomputable def sts3 : List Stmt := [stAt 9, stAt 10, stAt 11]
noncomputable def sts4 : List Stmt := [stAt 12, stAt 13, stAt 14, stAt 15, stAt 16, stAt 17, stAt 18, stAt 19, stAt 20, stAt 21, stAt 22, stAt 23]
noncomputable def sts5 : List Stmt := [stAt 24, stAt 25, stAt 26]
noncomputable def sts6 : List Stmt := [stAt 27, stAt 28, stAt 29, stAt 30, stAt 31, stAt 32, stAt 33, stAt 34, stAt 35]
theorem pre_ : ∀ w : World, (fun os => topGo treeTable pwP w 11 (some (.ref 6)) 12 ⟨boot_heap w.params, #[], boot_drawn, boot_toks, os⟩ (topStub pwP)) = fun os => some (⟨hp46 w.params, #[], {}, 187, os⟩, ⟨denote treeTable cdK, cdK, ⟨0, 0, 0, 0⟩, [topFrame ⟨0, 0, 0, 0⟩]⟩) := fun w => by kernel_rfl
theorem block_ : ∀ w : World, (fun os => segRun treeTable pwP w 11 (some (.ref 6)) 1 1 ⟨hp46 w.params, #[], {}, 187, os⟩ (blockOf (behindTheImports pwP) envK cdK ⟨0, 0, 0, 0⟩ [topFrame ⟨0, 0, 0, 0⟩])) = fun os => some (.next, (stT (tr47 w.params) 15 187 os).abs, cdK, ⟨0, 0, 0, 0⟩) := fun w => by kernel_rfl
theorem run1_ : ∀ w : World, (fun os => segRunT treeTable pwP w 11 (some (.ref 6)) 1 307 (stT (tr47 w.params) 15 187 os) (piecesOf sts1 envK cdK ⟨0, 0, 0, 0⟩ [topFrame ⟨0, 0, 0, 0⟩])) = fun os => some (.next, stT (tr86 w.params) 50 236 os, cdK, ⟨5, 0, 13, 16⟩) := fun w => by kernel_rfl
theorem run2_ : ∀ w : World, (fun os => segRunT treeTable pwP w 11 (some (.ref 6)) 1 280 (stT (tr86 w.params) 50 236 os) (piecesOf sts2 envK cdK ⟨5, 0, 13, 16⟩ [topFrame ⟨0, 0, 0, 0⟩])) = fun os => some (.next, stT (tr108 w.params) 69 268 os, cdK, ⟨20, 0, 21, 69⟩) := fun w => by kernel_rfl
theorem run3_ : ∀ w : World, (fun os => segRunT treeTable pwP w 11 (some (.ref 6)) 1 366 (stT (tr108 w.params) 69 268 os) (piecesOf sts3 envK cdK ⟨20, 0, 21, 69⟩ [topFrame ⟨0, 0, 0, 0⟩])) = fun os => some (.next, stT (tr159 w.params) 118 348 os, cdK, ⟨54, 0, 61, 47⟩) := fun w => by kernel_rfl
theorem run4_ : ∀ w : World, (fun os => segRunT treeTable pwP w 11 (some (.ref 6)) 1 360 (stT (tr159 w.params) 118 348 os) (piecesOf sts4 envK cdK ⟨54, 0, 61, 47⟩ [topFrame ⟨0, 0, 0, 0⟩])) = fun os => some (.next, stT (tr232 w.params) 189 460 os, cdK, ⟨159, 0, 160, 40⟩) := fun w => by kernel_rfl
theorem run5_ : ∀ w : World, (fun os => segRunT treeTable pwP w 11 (some (.ref 6)) 1 378 (stT (tr232 w.params) 189 460 os) (piecesOf sts5 envK cdK ⟨159, 0, 160, 40⟩ [topFrame ⟨0, 0, 0, 0⟩])) = fun os => some (.next, stT (tr286 w.params) 241 548 os, cdK, ⟨175, 0, 175, 10⟩) := fun w => by kernel_rfl
theorem run6_ : ∀ w : World, (fun os => segRunT treeTable pwP w 11 (some (.ref 6)) 1 276 (stT (tr286 w.params) 241 548 os) (piecesOf sts6 envK cdK ⟨175, 0, 175, 10⟩ [topFrame ⟨0, 0, 0, 0⟩])) = fun os => some (.next, stT (tr345 w.params) 298 631 os, cdK, ⟨242, 0, 262, 104⟩) := fun w => by kernel_rfl
theorem fin_ : ∀ w : World, (fun os => topRun treeTable pwP w 11 (some (.ref 6)) 2 (stT (tr345 w.params) 298 631 os).abs ⟨doneF .next, cdK, ⟨242, 0, 262, 104⟩, [topFrame ⟨0, 0, 0, 0⟩]⟩) = fun os => some ⟨hp346 w.params, #[], {}, 631, os⟩ := fun w => by kernel_rfl
theorem run_ (w : World) (os : OsState) : topRun treeTable pwP w 11 (some (.ref 6)) (12 + (1 + (307 + (280 + (366 + (360 + (378 + (276 + 2)))))))) ⟨boot_heap w.params, #[], boot_drawn, boot_toks, os⟩ (topStub pwP) = some ⟨hp346 w.params, #[], {}, 631, os⟩ :=
  go_top (congrFun (pre_ w) os) (piece_block (congrFun (block_ w) os) (piece_app (l := sts1) (segRun_of (congrFun (run1_ w) os)) (piece_app (l := sts2) (segRun_of (congrFun (run2_ w) os)) (piece_app (l := sts3) (segRun_of (congrFun (run3_ w) os)) (piece_app (l := sts4) (segRun_of (congrFun (run4_ w) os)) (piece_app (l := sts5) (segRun_of (congrFun (run5_ w) os)) (piece_app (l := sts6) (segRun_of (congrFun (run6_ w) os)) (piece_nil (congrFun (fin_ w) os)))))))))
theorem leftK : LeftO pwP vq lq XtK HK.obs HK.val 4048 :=
  LeftO.of_pieces (H₀ := boot_heap) (H₁ := hp346) (gs₀ := #[]) (gs₁ := #[]) (d₀ := boot_drawn) (d₁ := {}) (k₀ := boot_toks) (k₁ := 631) (m₀ := 11) (ann := some (.ref 6)) (M := 12 + (1 + (307 + (280 + (366 + (360 + (378 + (276 + 2))))))))
    (boot_open (by kernel_rfl) (by decide) fun s => by rfl) (fun w => by kernel_rfl) run_ (by decide) (fun w => by kernel_rfl)
end
section
structure Cx where
  prog : Program
  w : World
  σ : Shared
noncomputable abbrev Cx.M (c : Cx) : Model := model c.prog c.w
noncomputable abbrev Cx.S (c : Cx) (h : Heap) (t : Nat) : Shared := ⟨h, c.σ.gens, c.σ.drawn, t, c.σ.os⟩
noncomputable def Cx.E (c : Cx) (E : Value → Heap → Nat → Prop) : Value → Shared → Prop := fun e s => ∃ h t, s = c.S h t ∧ E e h t
@[irreducible] noncomputable def W (c : Cx) (A : Around) {α : Type} (m : Sem α) (Q : α → Heap → Nat → Prop) (E : Value → Heap → Nat → Prop) (h : Heap) (t : Nat) : Prop :=
  wpAny c.M A m (fun a s => ∃ h' t', s = c.S h' t' ∧ Q a h' t') (c.E E) (c.S h t)
theorem W.of {c : Cx} {A : Around} {α : Type} {m : Sem α} {Q : α → Heap → Nat → Prop} {E : Value → Heap → Nat → Prop} {h : Heap} {t : Nat}
    (x : wpAny c.M A m (fun a s => ∃ h' t', s = c.S h' t' ∧ Q a h' t') (c.E E) (c.S h t)) : W c A m Q E h t := by unfold W; exact x
theorem W.to {c : Cx} {A : Around} {α : Type} {m : Sem α} {Q : α → Heap → Nat → Prop} {E : Value → Heap → Nat → Prop} {h : Heap} {t : Nat}
    (x : W c A m Q E h t) : wpAny c.M A m (fun a s => ∃ h' t', s = c.S h' t' ∧ Q a h' t') (c.E E) (c.S h t) := by unfold W at x; exact x
theorem cps {c : Cx} {A : Around} {α : Type} {m : Sem α} {K : α → Shared → Prop} {E : Value → Heap → Nat → Prop} {h : Heap} {t : Nat}
    (x : W c A m (fun a h' t' => K a (c.S h' t')) E h t) : wpAny c.M A m K (c.E E) (c.S h t) :=
  wpAny_mono x.to (fun a s ⟨h', t', e, k⟩ => e ▸ k) fun _ _ x => x
theorem W.kit {c : Cx} {A : Around} {α : Type} {m : Sem α} {Q : α → Heap → Nat → Prop} {E : Value → Heap → Nat → Prop} {h : Heap} {t : Nat} (K : α → Shared → Prop) (E' : Value → Shared → Prop)
    (x : wpAny c.M A m K E' (c.S h t)) (k : ∀ a s, K a s → ∃ h' t', s = c.S h' t' ∧ Q a h' t') (e : ∀ v s, E' v s → c.E E v s) : W c A m Q E h t :=
  .of (wpAny_mono x k e)
theorem W.mono {c : Cx} {A : Around} {α : Type} {m : Sem α} {Q Q' : α → Heap → Nat → Prop} {E E' : Value → Heap → Nat → Prop} {h : Heap} {t : Nat}
    (x : W c A m Q E h t) (k : ∀ a h' t', Q a h' t' → Q' a h' t') (e : ∀ a h' t', E a h' t' → E' a h' t') : W c A m Q' E' h t :=
  .of (wpAny_mono x.to (fun a s ⟨h', t', e, q⟩ => ⟨h', t', e, k a h' t' q⟩) fun a s ⟨h', t', e', q⟩ => ⟨h', t', e', e a h' t' q⟩)
theorem W.pure {c : Cx} {A : Around} {α : Type} {a : α} {Q : α → Heap → Nat → Prop} {E : Value → Heap → Nat → Prop} {h : Heap} {t : Nat} (x : Q a h t) : W c A (pure a) Q E h t :=
  .of (wpAny_pure ⟨h, t, rfl, x⟩)
theorem W.bind {c : Cx} {A : Around} {α β : Type} {m : Sem α} {f : α → Sem β} {Q : β → Heap → Nat → Prop} {E : Value → Heap → Nat → Prop} {h : Heap} {t : Nat}
    (x : W c A m (fun a h' t' => W c A (f a) Q E h' t') E h t) : W c A (m >>= f) Q E h t :=
  .of (wpAny_bind (cps (x.mono (fun a h' t' q => q.to) fun _ _ _ e => e)))
structure EnvN (env : Env) (names : List (Str × NameKind)) : Prop where
  kind : env.scope.kind = .function
  glob : env.globals = mainGlobals
  blt : env.builtins = builtinsNs
  names : env.scope.names = names
theorem EnvN.of {env : Env} {ns : List (Str × NameKind)} {x : Str} {k : NameKind} (N : EnvN env ns) (h : ns.lookup x = some k) : env.kindOf x = some k := by unfold Env.kindOf; rw [N.names]; exact h
theorem EnvN.notMod {env : Env} {ns : List (Str × NameKind)} (N : EnvN env ns) : (env.scope.kind == .class || (env.scope.kind == .module && env.locals != env.globals)) = false := by rw [N.kind]; rfl
structure Room (A : Around) (n : Nat) : Prop where
  depth : A.depth + n < 999
  units : A.units + 8 * n + 8 < cLine
  quiet : A.handled = none
theorem Room.mono {A : Around} {n k : Nat} (r : Room A n) (h : k ≤ n) : Room A k := ⟨by have := r.depth; omega, by have := r.units; omega, r.quiet⟩
theorem Room.in1 {A : Around} {n : Nat} (r : Room A (n + 1)) : Room A.in1 n := ⟨by have := r.depth; show A.depth + n < 999; omega, by have := r.units; show A.units + 1 + 8 * n + 8 < cLine; omega, r.quiet⟩
theorem Room.deeper {A : Around} {n : Nat} {env : Env} (r : Room A (n + 1)) : Room (A.deeper env) n := ⟨by have := r.depth; show A.depth + 1 + n < 999; omega, by have := r.units; show A.units + 3 + 8 * n + 8 < cLine; omega, r.quiet⟩
theorem Room.lim {A : Around} {n : Nat} (r : Room A n) : A.depth < recursionLimit := by have := r.depth; show A.depth < 1000; omega
theorem Room.clim {A : Around} {n : Nat} (r : Room A n) : A.units < cLine := by have := r.units; omega
noncomputable def IsI (n : Int) (v : Value) : Prop := ∃ t, v = .int n t
theorem isI (n : Int) (t : Tok) : IsI n (.int n t) := ⟨t, rfl⟩
theorem isI_of {n m : Int} (h : m = n) (t : Tok) : IsI n (.int m t) := ⟨t, by rw [h]⟩
noncomputable def IsY (b : List UInt8) (v : Value) : Prop := ∃ t, v = .bytes b.toArray t
theorem isY (b : List UInt8) (t : Tok) : IsY b (.bytes b.toArray t) := ⟨t, rfl⟩
noncomputable def EvV (c : Cx) (A : Around) (env : Env) (g : Heap) (ms : List Entry) (e : Expr) (P : Value → Prop) : Prop :=
  ∀ (Q : Value → Heap → Nat → Prop) (E : Value → Heap → Nat → Prop) (h : Heap) (t : Nat), Led g ms h →
    (∀ v h' t', Led g ms h' → P v → Q v h' t') → W c A (eval e env) Q E h t
noncomputable abbrev EvX (c : Cx) (A : Around) (env : Env) (g : Heap) (ms : List Entry) (e : Expr) (v : Value) : Prop := EvV c A env g ms e (fun u => u = v)
noncomputable abbrev EvI (c : Cx) (A : Around) (env : Env) (g : Heap) (ms : List Entry) (e : Expr) (n : Int) : Prop := EvV c A env g ms e (IsI n)
noncomputable abbrev EvB (c : Cx) (A : Around) (env : Env) (g : Heap) (ms : List Entry) (e : Expr) (b : Bool) : Prop := EvV c A env g ms e (fun u => u = .bool b)
noncomputable abbrev EvY (c : Cx) (A : Around) (env : Env) (g : Heap) (ms : List Entry) (e : Expr) (b : List UInt8) : Prop := EvV c A env g ms e (IsY b)
noncomputable def Tst (c : Cx) (A : Around) (env : Env) (g : Heap) (ms : List Entry) (e : Expr) (b : Bool) : Prop :=
  ∀ (Q : Bool → Heap → Nat → Prop) (E : Value → Heap → Nat → Prop) (h : Heap) (t : Nat), Led g ms h →
    (∀ h' t', Led g ms h' → Q b h' t') → W c A (isTrue e env (eval e env)) Q E h t
section
variable {c : Cx} {A : Around} {env : Env} {g : Heap} {ms : List Entry} {ns : List (Str × NameKind)}
theorem EvV.mono {e : Expr} {P P' : Value → Prop} (x : EvV c A env g ms e P) (h : ∀ v, P v → P' v) : EvV c A env g ms e P' :=
  fun Q E h0 t H k => x Q E h0 t H fun v h' t' H' p => k v h' t' H' (h v p)
theorem EvV.eq {e : Expr} {n m : Int} (x : EvI c A env g ms e n) (h : n = m) : EvI c A env g ms e m := h ▸ x
theorem EvX.loc {x : Str} {pos : Pos} {v : Value} {l : List (Str × Value)} (N : EnvN env ns) (hx : ns.lookup x = some .local) (hv : l.lookup x = some v) (hd : (x == ("__debug__" : Str)) = false) :
    EvX c A env g ((env.locals, OLoc l) :: ms) (.Name x pos) v := fun Q E h t H k => by
  obtain ⟨m, hn, hm⟩ := ns_of (H.at 0 rfl)
  exact .of (wpAny_Name (wpAny_loadName_local N.kind (N.of hx) hn (hm _ _ hv) ⟨h, t, rfl, k v h t H rfl⟩) hd)
theorem EvX.cell {x : Str} {pos : Pos} {d : Addr} {v : Value} (i : Nat) (N : EnvN env ns) (hx : ns.lookup x = some .cell) (hc : env.cells.lookup x = some d) (hi : ms[i]? = some (d, OCell (some v))) (hd : (x == ("__debug__" : Str)) = false) :
    EvX c A env g ms (.Name x pos) v := fun Q E h t H k =>
  .of (wpAny_Name (wpAny_loadName_cell N.kind (N.of hx) hc (H.at i hi) ⟨h, t, rfl, k v h t H rfl⟩) hd)
theorem EvX.free {x : Str} {pos : Pos} {d : Addr} {v : Value} (i : Nat) (N : EnvN env ns) (hx : ns.lookup x = some .free) (hc : env.cells.lookup x = some d) (hi : ms[i]? = some (d, OCell (some v))) (hd : (x == ("__debug__" : Str)) = false)
    (hn : (x == ("__classdict__" : Str)) = false) : EvX c A env g ms (.Name x pos) v := fun Q E h t H k =>
  .of (wpAny_Name (wpAny_loadName_free N.kind (N.of hx) hc (H.at i hi) ⟨h, t, rfl, k v h t H rfl⟩ hn) hd)
theorem EvX.gcell {x : Str} {pos : Pos} {d : Addr} {v : Value} (N : EnvN env ns) (hx : ns.lookup x = some .cell) (hc : env.cells.lookup x = some d) (hi : g.IsCell d (some v)) (hd : (x == ("__debug__" : Str)) = false) :
    EvX c A env g ms (.Name x pos) v := fun Q E h t H k =>
  .of (wpAny_Name (wpAny_loadName_cell N.kind (N.of hx) hc (hi.keeps H.base) ⟨h, t, rfl, k v h t H rfl⟩) hd)
theorem EvX.gc {x : Str} {pos : Pos} {d : Addr} {v : Value} {cs : List (Str × Addr)} (N : EnvN env ns) (hx : ns.lookup x = some .cell) (hcs : env.cells = cs) (hc : cs.lookup x = some d) (hi : g.IsCell d (some v)) (hd : (x == ("__debug__" : Str)) = false) :
    EvX c A env g ms (.Name x pos) v := .gcell N hx (hcs ▸ hc) hi hd
theorem EvX.gfree {x : Str} {pos : Pos} {d : Addr} {v : Value} (N : EnvN env ns) (hx : ns.lookup x = some .free) (hc : env.cells.lookup x = some d) (hi : g.IsCell d (some v)) (hd : (x == ("__debug__" : Str)) = false)
    (hn : (x == ("__classdict__" : Str)) = false) : EvX c A env g ms (.Name x pos) v := fun Q E h t H k =>
  .of (wpAny_Name (wpAny_loadName_free N.kind (N.of hx) hc (hi.keeps H.base) ⟨h, t, rfl, k v h t H rfl⟩ hn) hd)
noncomputable def GName (g : Heap) (x : Str) (v : Value) : Prop := ∃ mg, g.Ns mainGlobals mg ∧ mg x = some v
noncomputable def BName (g : Heap) (x : Str) (v : Value) : Prop := ∃ mg mb, g.Ns mainGlobals mg ∧ mg x = none ∧ g.Ns builtinsNs mb ∧ mb x = some v
theorem GName.keeps {h h' : Heap} {x : Str} {v : Value} (n : GName h x v) (k : h.StaysIn h') : GName h' x v := let ⟨mg, a, b⟩ := n; ⟨mg, a.keeps k, b⟩
theorem BName.keeps {h h' : Heap} {x : Str} {v : Value} (n : BName h x v) (k : h.StaysIn h') : BName h' x v := let ⟨mg, mb, a, b, c, d⟩ := n; ⟨mg, mb, a.keeps k, b, c.keeps k, d⟩
theorem EvX.glob {x : Str} {pos : Pos} {v : Value} (n : GName g x v) (N : EnvN env ns) (hx : ns.lookup x = some .globalImplicit) (hd : (x == ("__debug__" : Str)) = false) :
    EvX c A env g ms (.Name x pos) v := fun Q E h t H k => by
  obtain ⟨mg, a, b⟩ := n
  exact .of (Name_function_global N.kind (N.of hx) (loadGlobal_global (s := c.S h t) (N.glob ▸ a.keeps H.base) b ⟨h, t, rfl, k v h t H rfl⟩) hd)
theorem EvX.blt {x : Str} {pos : Pos} {v : Value} (n : BName g x v) (N : EnvN env ns) (hx : ns.lookup x = some .globalImplicit) (hd : (x == ("__debug__" : Str)) = false) :
    EvX c A env g ms (.Name x pos) v := fun Q E h t H k => by
  obtain ⟨mg, mb, a, b, cc, d⟩ := n
  exact .of (Name_function_global N.kind (N.of hx) (loadGlobal_builtin (s := c.S h t) (N.glob ▸ a.keeps H.base) b (N.blt ▸ cc.keeps H.base) d ⟨h, t, rfl, k v h t H rfl⟩) hd)
theorem EvI.const {i : Int} {k : Nat} {pos : Pos} : EvI c A env g ms (.Constant (.int i) k pos) i := fun _Q _E h t H q => .of (wpAny_Constant_int ⟨h, t + 1, rfl, q _ h _ H (isI _ _)⟩)
theorem EvX.none {k : Nat} {pos : Pos} : EvX c A env g ms (.Constant .none k pos) .none := fun _Q _E h t H q => .of (wpAny_pure ⟨h, t, rfl, q _ h t H rfl⟩)
theorem EvX.bool {b : Bool} {k : Nat} {pos : Pos} : EvX c A env g ms (.Constant (.bool b) k pos) (.bool b) := fun _Q _E h t H q => .of (wpAny_pure ⟨h, t, rfl, q _ h t H rfl⟩)
theorem EvX.int {e : Expr} {n : Int} {t : Tok} (x : EvX c A env g ms e (.int n t)) : EvI c A env g ms e n := x.mono fun _ h => ⟨t, h⟩
theorem EvX.bytes {e : Expr} {b : List UInt8} {t : Tok} (x : EvX c A env g ms e (.bytes b.toArray t)) : EvY c A env g ms e b := x.mono fun _ h => ⟨t, h⟩
theorem EvV.bin {l r : Expr} {op : Operator} {pos : Pos} {P R S : Value → Prop} (hl : EvV c A env g ms l P) (hr : EvV c A env g ms r R)
    (op_ : ∀ (Q : Value → Heap → Nat → Prop) (E : Value → Heap → Nat → Prop) (h : Heap) (t : Nat) a b, Led g ms h → P a → R b → (∀ v h' t', Led g ms h' → S v → Q v h' t') → W c A (binaryOp op a b) Q E h t) :
    EvV c A env g ms (.BinOp l op r pos) S := fun Q E h t H k =>
  .of (wpAny_BinOp (cps (hl _ E h t H fun a h₁ t₁ H₁ p => cps (hr _ E h₁ t₁ H₁ fun b h₂ t₂ H₂ q => (op_ Q E h₂ t₂ a b H₂ p q fun v h' t' H' s => k v h' t' H' s).to))))
theorem EvI.bin {l r : Expr} {op : Operator} {pos : Pos} {a b d : Int} (hl : EvI c A env g ms l a) (hr : EvI c A env g ms r b)
    (op_ : ∀ (Q : Value → Shared → Prop) (E : Value → Shared → Prop) (s : Shared) (x y : Tok), Led g ms s.heap → (Q (.int d s.toks) { s with toks := s.toks + 1 }) → wpAny c.M A (binaryOp op (.int a x) (.int b y)) Q E s) :
    EvI c A env g ms (.BinOp l op r pos) d := EvV.bin hl hr fun Q E h t a' b' H ⟨x, e₁⟩ ⟨y, e₂⟩ k => by
  rw [e₁, e₂]
  exact .of (by with_reducible exact op_ _ _ (c.S h t) x y H ⟨h, t + 1, rfl, k _ h _ H (isI _ _)⟩)
theorem EvI.add {l r : Expr} {pos : Pos} {a b : Int} (hl : EvI c A env g ms l a) (hr : EvI c A env g ms r b) : EvI c A env g ms (.BinOp l .Add r pos) (a + b) :=
  .bin hl hr fun Q _ s _ _ _ k => by with_reducible exact PyProof.Rows.add_int (Q := Q) k
theorem EvI.sub {l r : Expr} {pos : Pos} {a b : Int} (hl : EvI c A env g ms l a) (hr : EvI c A env g ms r b) : EvI c A env g ms (.BinOp l .Sub r pos) (a - b) :=
  .bin hl hr fun Q _ s _ _ _ k => by with_reducible exact PyProof.Rows.sub_int (Q := Q) k
theorem EvI.mul {l r : Expr} {pos : Pos} {a b : Int} (hl : EvI c A env g ms l a) (hr : EvI c A env g ms r b) (hm : IntMulOk a b) : EvI c A env g ms (.BinOp l .Mult r pos) (a * b) :=
  .bin hl hr fun Q _ s _ _ _ k => by with_reducible exact PyProof.Rows.mul_int (Q := Q) k hm
theorem EvI.mod {l r : Expr} {pos : Pos} {a b : Int} (hl : EvI c A env g ms l a) (hr : EvI c A env g ms r b) (hb : b ≠ 0) : EvI c A env g ms (.BinOp l .Mod r pos) (a.fmod b) :=
  .bin hl hr fun Q _ s _ _ _ k => by with_reducible exact PyProof.Rows.mod_int (Q := Q) hb k
theorem EvI.shr {l r : Expr} {pos : Pos} {a b : Int} (hl : EvI c A env g ms l a) (hr : EvI c A env g ms r b) (hb : 0 ≤ b) : EvI c A env g ms (.BinOp l .RShift r pos) (a.fdiv (2 ^ b.toNat)) :=
  .bin hl hr fun Q _ s _ _ _ k => by with_reducible exact PyProof.Rows.rshift_int (Q := Q) hb k
theorem EvI.neg {x : Expr} {pos : Pos} {a : Int} (hx : EvI c A env g ms x a) : EvI c A env g ms (.UnaryOp .USub x pos) (-a) := fun Q E h t H k => by
  show W c A (eval x env >>= fun v => standAt pos >>= fun _ => holding [v] (unaryOp .USub v)) Q E h t
  refine .of (wpAny_bind (cps (hx _ E h t H ?_)))
  intro v h₁ t₁ H₁ ⟨u, e₁⟩
  rw [e₁]
  refine wpAny_bind (wpAny_standAt (wpAny_holding ?_))
  with_reducible exact PyProof.Rows.neg_int ⟨h₁, t₁ + 1, rfl, k _ h₁ _ H₁ (isI _ _)⟩
noncomputable def CmpOk (c : Cx) (A : Around) (g : Heap) (ms : List Entry) (op : CmpOp) (P R : Value → Prop) (b : Bool) : Prop :=
  ∀ (Q : Value → Heap → Nat → Prop) (E : Value → Heap → Nat → Prop) (h : Heap) (t : Nat) x y, Led g ms h → P x → R y → (∀ h' t', Led g ms h' → Q (.bool b) h' t') → W c A (compareOp op x y) Q E h t
theorem EvB.cmp {l r : Expr} {op : CmpOp} {pos : Pos} {P R : Value → Prop} {b : Bool} (hl : EvV c A env g ms l P) (hr : EvV c A env g ms r R) (op_ : CmpOk c A g ms op P R b) (hm : behindInMarks op r = false) :
    EvB c A env g ms (.Compare l [op] [r] pos) b := fun Q E h t H k =>
  .of (wpAny_Compare1 (cps (hl _ E h t H fun x h₁ t₁ H₁ p₁ => cps (hr _ E h₁ t₁ H₁ fun y h₂ t₂ H₂ p₂ => (op_ Q E h₂ t₂ x y H₂ p₁ p₂ fun h' t' H' => k _ h' t' H' rfl).to))) hm)
theorem Tst.cmp {l r : Expr} {op : CmpOp} {pos : Pos} {P R : Value → Prop} {b : Bool} (hl : EvV c A env g ms l P) (hr : EvV c A env g ms r R) (op_ : CmpOk c A g ms op P R b) (hm : behindInMarks op r = false) :
    Tst c A env g ms (.Compare l [op] [r] pos) b := fun Q E h t H k =>
  .of (wpAny_isTrue_Compare1 (cps (hl _ E h t H fun x h₁ t₁ H₁ p₁ => cps (hr _ E h₁ t₁ H₁ fun y h₂ t₂ H₂ p₂ => cps (op_ _ E h₂ t₂ x y H₂ p₁ p₂ fun h' t' H' => wpAny_truthy_bool ⟨h', t', rfl, k h' t' H'⟩)))) hm)
noncomputable def cmpI : CmpOp → Int → Int → Option Bool
  | .Lt, a, b => some (decide (a < b))
  | .LtE, a, b => some (decide (a ≤ b))
  | .Gt, a, b => some (decide (b < a))
  | .GtE, a, b => some (decide (b ≤ a))
  | .Eq, a, b => some (a == b)
  | .NotEq, a, b => some (a != b)
  | _, _, _ => .none
theorem cmp_ints {prog : Program} {w : World} {op : CmpOp} {a b : Int} {d : Bool} (e : cmpI op a b = some d) {t u : Tok} {Q : Value → Shared → Prop} {E : Value → Shared → Prop} {s : Shared} (k : Q (.bool d) s) :
    wpAny (model prog w) A (compareOp op (.int a t) (.int b u)) Q E s := by
  cases op <;> cases e
  · with_reducible exact PyProof.Rows.eq_int k
  · with_reducible exact PyProof.Rows.ne_int k
  · with_reducible exact PyProof.Rows.lt_int k
  · with_reducible exact PyProof.Rows.le_int k
  · with_reducible exact PyProof.Rows.gt_int k
  · with_reducible exact PyProof.Rows.ge_int k
theorem CmpOk.ints {op : CmpOp} {a b : Int} {d : Bool} (e : cmpI op a b = some d) : CmpOk c A g ms op (IsI a) (IsI b) d := fun Q E h t x y H ⟨t₁, e₁⟩ ⟨t₂, e₂⟩ k => by
  subst e₁ e₂
  exact .of (by with_reducible exact cmp_ints e ⟨h, t, rfl, k h t H⟩)
theorem Tst.ints {l r : Expr} {op : CmpOp} {pos : Pos} {a b : Int} {d : Bool} (hl : EvI c A env g ms l a) (hr : EvI c A env g ms r b) (e : cmpI op a b = some d) (hm : behindInMarks op r = false) :
    Tst c A env g ms (.Compare l [op] [r] pos) d := .cmp hl hr (.ints e) hm
theorem EvB.ints {l r : Expr} {op : CmpOp} {pos : Pos} {a b : Int} {d : Bool} (hl : EvI c A env g ms l a) (hr : EvI c A env g ms r b) (e : cmpI op a b = some d) (hm : behindInMarks op r = false) :
    EvB c A env g ms (.Compare l [op] [r] pos) d := .cmp hl hr (.ints e) hm
theorem Tst.not {x : Expr} {pos : Pos} {b : Bool} (hx : Tst c A env g ms x b) : Tst c A env g ms (.UnaryOp .Not x pos) (!b) := fun Q E h t H k => by
  show W c A (isTrue x env (eval x env) >>= fun b => Pure.pure (!b)) Q E h t
  exact .bind (hx _ E h t H fun h' t' H' => .pure (k h' t' H'))
theorem Tst.val {e : Expr} {P : Value → Prop} {b : Bool} (he : EvV c A env g ms e P)
    (ht : ∀ (Q : Bool → Heap → Nat → Prop) (E : Value → Heap → Nat → Prop) (h : Heap) (t : Nat) v, Led g ms h → P v → (∀ h' t', Led g ms h' → Q b h' t') → W c A (truthy v) Q E h t)
    (hs : isTrue e env (eval e env) = (do let v ← eval e env; standAt e.pos; holding [v] (truthy v))) : Tst c A env g ms e b := fun Q E h t H k => by
  rw [hs]
  exact .bind (he _ E h t H fun v h₁ t₁ H₁ p => .of (wpAny_bind (wpAny_standAt (wpAny_holding (ht Q E h₁ t₁ v H₁ p fun h' t' H' => k h' t' H').to))))
theorem Tst.boolVal {e : Expr} {b : Bool} (he : EvB c A env g ms e b) (hs : isTrue e env (eval e env) = (do let v ← eval e env; standAt e.pos; holding [v] (truthy v))) : Tst c A env g ms e b :=
  .val he (fun _ _ h t _ H p k => by subst p; exact .of (wpAny_truthy_bool ⟨h, t, rfl, k h t H⟩)) hs
theorem Tst.eq {e : Expr} {b d : Bool} (x : Tst c A env g ms e b) (h : b = d) : Tst c A env g ms e d := h ▸ x
theorem allTrue_and_cons (x : Expr) (rest : List Expr) (env : Env) : allTrue .And (x :: rest) env = (do if ← isTrue x env (eval x env) then allTrue .And rest env else pure false) := by
  show (isTrue x env (eval x env) >>= fun b => _) = _
  congr 1; funext b; cases b <;> rfl
theorem allTrue_or_cons (x : Expr) (rest : List Expr) (env : Env) : allTrue .Or (x :: rest) env = (do if ← isTrue x env (eval x env) then pure true else allTrue .Or rest env) := by
  show (isTrue x env (eval x env) >>= fun b => _) = _
  congr 1; funext b; cases b <;> rfl
noncomputable def All (c : Cx) (A : Around) (env : Env) (g : Heap) (ms : List Entry) (op : BoolOp) (es : List Expr) (b : Bool) : Prop :=
  ∀ (Q : Bool → Heap → Nat → Prop) (E : Value → Heap → Nat → Prop) (h : Heap) (t : Nat), Led g ms h →
    (∀ h' t', Led g ms h' → Q b h' t') → W c A (allTrue op es env) Q E h t
theorem All.nil {op : BoolOp} : All c A env g ms op [] (op == .And) := fun _ _ h t H k => .pure (k h t H)
theorem All.and {x : Expr} {rest : List Expr} {b d : Bool} (hx : Tst c A env g ms x b) (hr : b = true → All c A env g ms .And rest d) : All c A env g ms .And (x :: rest) (b && d) := fun Q E h t H k => by
  rw [allTrue_and_cons]
  refine .bind (hx _ E h t H fun h' t' H' => ?_)
  cases b with
  | false => exact .pure (k h' t' H')
  | true => exact hr rfl Q E _ _ H' fun h'' t'' H'' => k h'' t'' H''
theorem All.or {x : Expr} {rest : List Expr} {b d : Bool} (hx : Tst c A env g ms x b) (hr : b = false → All c A env g ms .Or rest d) : All c A env g ms .Or (x :: rest) (b || d) := fun Q E h t H k => by
  rw [allTrue_or_cons]
  refine .bind (hx _ E h t H fun h' t' H' => ?_)
  cases b with
  | true => exact .pure (k h' t' H')
  | false => exact hr rfl Q E _ _ H' fun h'' t'' H'' => k h'' t'' H''
theorem All.and1 {x : Expr} {b : Bool} (hx : Tst c A env g ms x b) : All c A env g ms .And [x] b := by
  have := All.and (d := true) hx fun _ => All.nil (op := .And)
  rwa [Bool.and_true] at this
theorem All.or1 {x : Expr} {b : Bool} (hx : Tst c A env g ms x b) : All c A env g ms .Or [x] b := by
  have := All.or (d := false) hx fun _ => All.nil (op := .Or)
  rwa [Bool.or_false] at this
theorem Tst.all {op : BoolOp} {es : List Expr} {pos : Pos} {b : Bool} (h : All c A env g ms op es b) : Tst c A env g ms (.BoolOp op es pos) b := h
theorem EvV.ite {test body orelse : Expr} {pos : Pos} {b : Bool} {P : Value → Prop} (ht : Tst c A env g ms test b) (h1 : b = true → EvV c A env g ms body P) (h2 : b = false → EvV c A env g ms orelse P) :
    EvV c A env g ms (.IfExp test body orelse pos) P := fun Q E h t H k => by
  refine .of (wpAny_IfExp (cps (ht _ E h t H fun h' t' H' => ?_)))
  cases b with
  | true => rw [if_pos rfl]; exact (h1 rfl Q E _ _ H' fun v h'' t'' H'' p => k v h'' t'' H'' p).to
  | false => rw [if_neg (by decide)]; exact (h2 rfl Q E _ _ H' fun v h'' t'' H'' p => k v h'' t'' H'' p).to
theorem EvV.subscr {value slice : Expr} {pos : Pos} {P R S : Value → Prop} (hv : EvV c A env g ms value P) (hs : EvV c A env g ms slice R)
    (tl : ∀ (Q : Value → Heap → Nat → Prop) (E : Value → Heap → Nat → Prop) (h : Heap) (t : Nat) o i, Led g ms h → P o → R i → (∀ v h' t', Led g ms h' → S v → Q v h' t') → W c A (subscriptTail value slice o i) Q E h t) :
    EvV c A env g ms (.Subscript value slice pos) S := fun Q E h t H k =>
  .of (Subscript_ (cps (hv _ E h t H fun o h₁ t₁ H₁ p₁ => cps (hs _ E h₁ t₁ H₁ fun i h₂ t₂ H₂ p₂ => (tl Q E h₂ t₂ o i H₂ p₁ p₂ fun v h' t' H' q => k v h' t' H' q).to))))
end
end
section
noncomputable def notSlice : Expr → Bool
  | .Slice .. => false
  | _ => true
theorem subscripted_of {sl : Expr} (h : notSlice sl = true) (o i : Value) : subscripted sl false o i = operate [o, i] (getItem o i) := by
  cases sl <;> first | rfl | cases h
theorem seqIndex_nat {n k : Nat} (h : n < k) : seqIndex? (n : Int) k = some n := by
  have hn' : ¬ (n : Int) < 0 := by omega
  simp [seqIndex?, hn', h]
section
variable {c : Cx} {A : Around} {env : Env} {g : Heap} {ms : List Entry} {value slice : Expr} {pos : Pos}
theorem EvI.octet {b : List UInt8} {i : Int} {n : Nat} (hv : EvY c A env g ms value b) (hs : EvI c A env g ms slice i) (hn : i = n) (hl : n < b.length) (hz : b.length ≤ 1000) (hp : notSlice slice = true) :
    EvI c A env g ms (.Subscript value slice pos) ((b.getD n 0).toNat) :=
  EvV.subscr hv hs fun Q E h t o x H ⟨y, e₁⟩ ⟨u, e₂⟩ k => by
    subst e₁ e₂ hn
    refine .of (tail_any (ops := [.bytes b.toArray y, .int (n : Int) u]) (typeIs_bytes _ _ _) FB.slot_bytes_getitem.lookup (getItem_bytes (by omega) (by omega) (by omega) ?_) (subscripted_of hp _ _))
    exact ⟨h, t + 1, rfl, k _ h _ H (isI _ _)⟩
theorem EvX.listAt {vs : List Value} {l : Addr} {i : Int} {n : Nat} {v : Value} (hv : EvX c A env g ms value (.ref l)) (hs : EvI c A env g ms slice i) (hj : ∀ h, Led g ms h → h.IsList l vs.toArray) (hn : i = n) (hx : vs[n]? = some v) (hz : vs.length ≤ 100000) (hp : notSlice slice = true) :
    EvX c A env g ms (.Subscript value slice pos) v :=
  EvV.subscr hv hs fun Q E h t o x H e₁ ⟨u, e₂⟩ k => by
    subst e₁ e₂ hn
    have hl := hj h H
    have hlt : n < vs.length := (List.getElem?_eq_some_iff.mp hx).1
    refine .of (tail_any (s := c.S h t) (ops := [.ref l, .int (n : Int) u]) (Heap.IsList.typeIs (s := c.S h t) hl) slot_list_getitem.lookup (wpAny_getItem_list (x := v) hl (by omega) (by omega) (by simpa using hx) ?_) (subscripted_of hp _ _))
    exact ⟨h, t, rfl, k v h t H rfl⟩
theorem EvX.item {vs : List Value} {l : Addr} {i : Int} {n : Nat} {v : Value} (j : Nat) (hv : EvX c A env g ms value (.ref l)) (hs : EvI c A env g ms slice i) (hj : ms[j]? = some (l, OList vs)) (hn : i = n) (hx : vs[n]? = some v) (hz : vs.length ≤ 100000) (hp : notSlice slice = true) :
    EvX c A env g ms (.Subscript value slice pos) v := .listAt hv hs (fun _ H => isList_of (H.at j hj)) hn hx hz hp
theorem EvX.gitem {vs : List Value} {l : Addr} {i : Int} {n : Nat} {v : Value} (hv : EvX c A env g ms value (.ref l)) (hs : EvI c A env g ms slice i) (hj : g.IsList l vs.toArray) (hn : i = n) (hx : vs[n]? = some v) (hz : vs.length ≤ 100000) (hp : notSlice slice = true) :
    EvX c A env g ms (.Subscript value slice pos) v := .listAt hv hs (fun _ H => stays_list H.base hj) hn hx hz hp
theorem EvX.tupAt {vs : List Value} {l : Addr} {i : Int} {n : Nat} {v : Value} (hv : EvX c A env g ms value (.ref l)) (hs : EvI c A env g ms slice i) (hj : ∀ h, Led g ms h → IsTup h l vs.toArray) (hn : i = n) (hx : vs[n]? = some v) (hz : vs.length ≤ 100000) (hp : notSlice slice = true) :
    EvX c A env g ms (.Subscript value slice pos) v :=
  EvV.subscr hv hs fun Q E h t o x H e₁ ⟨u, e₂⟩ k => by
    subst e₁ e₂ hn
    have hlt : n < vs.length := (List.getElem?_eq_some_iff.mp hx).1
    exact .of (item_tupleT (s := c.S h t) (x := v) (j := n) (hj h H) (by omega) (by omega) (seqIndex_nat hlt) hx ⟨h, t, rfl, k v h t H rfl⟩ (subscripted_of hp _ _))
theorem EvX.gtup {vs : List Value} {l : Addr} {i : Int} {n : Nat} {v : Value} (hv : EvX c A env g ms value (.ref l)) (hs : EvI c A env g ms slice i) (hj : IsTup g l vs.toArray) (hn : i = n) (hx : vs[n]? = some v) (hz : vs.length ≤ 100000) (hp : notSlice slice = true) :
    EvX c A env g ms (.Subscript value slice pos) v := .tupAt hv hs (fun _ H => IsTup.keeps hj H.base) hn hx hz hp
noncomputable def EvAs (c : Cx) (A : Around) (env : Env) (g : Heap) (ms : List Entry) (pos : Pos) (es : List Expr) (R : List Value → Prop) : Prop :=
  ∀ (Q : List Value → Heap → Nat → Prop) (E : Value → Heap → Nat → Prop) (h : Heap) (t : Nat), Led g ms h →
    (∀ vs h' t', Led g ms h' → R vs → Q vs h' t') → W c A (spliced (backTo pos (starEach es env))) Q E h t
noncomputable def noStar : Expr → Bool
  | .Starred .. => false
  | _ => true
theorem starEach_cons {e : Expr} {es : List Expr} (h : noStar e = true) : starEach (e :: es) env = (false, eval e env) :: starEach es env := by
  cases e <;> first | rfl | cases h
theorem backTo_cons (pos : Pos) (x : Sem Value) (r : List (Bool × Sem Value)) : backTo pos ((false, x) :: r) = (false, x) :: backTo pos r := rfl
inductive ACons (P : Value → Prop) (R : List Value → Prop) (l : List Value) : Prop
  | mk (v : Value) (r : List Value) (e : l = v :: r) (p : P v) (q : R r) : ACons P R l
theorem argsA_ii {a b : Int} {X : Heap → Prop} {C : List Value → Heap → Nat → Prop} (k : ∀ ta tb, ∀ h t, X h → C [.int a ta, .int b tb] h t) : ∀ l h t, X h → (ACons (IsI a) (ACons (IsI b) (fun l => l = []))) l → C l h t := by
  rintro _ h t x ⟨_, _, rfl, ⟨ta, rfl⟩, _, _, rfl, ⟨tb, rfl⟩, rfl⟩
  exact k ta tb h t x
theorem argsA_iii {a b c : Int} {X : Heap → Prop} {C : List Value → Heap → Nat → Prop} (k : ∀ ta tb tc, ∀ h t, X h → C [.int a ta, .int b tb, .int c tc] h t) : ∀ l h t, X h → (ACons (IsI a) (ACons (IsI b) (ACons (IsI c) (fun l => l = [])))) l → C l h t := by
  rintro _ h t x ⟨_, _, rfl, ⟨ta, rfl⟩, _, _, rfl, ⟨tb, rfl⟩, _, _, rfl, ⟨tc, rfl⟩, rfl⟩
  exact k ta tb tc h t x
theorem argsA_iix {a b : Int} {c : Value} {X : Heap → Prop} {C : List Value → Heap → Nat → Prop} (k : ∀ ta tb, ∀ h t, X h → C [.int a ta, .int b tb, c] h t) : ∀ l h t, X h → (ACons (IsI a) (ACons (IsI b) (ACons (fun v => v = c) (fun l => l = [])))) l → C l h t := by
  rintro _ h t x ⟨_, _, rfl, ⟨ta, rfl⟩, _, _, rfl, ⟨tb, rfl⟩, _, _, rfl, rfl, rfl⟩
  exact k ta tb h t x
theorem argsA_iiii {a b c d : Int} {X : Heap → Prop} {C : List Value → Heap → Nat → Prop} (k : ∀ ta tb tc td, ∀ h t, X h → C [.int a ta, .int b tb, .int c tc, .int d td] h t) : ∀ l h t, X h → (ACons (IsI a) (ACons (IsI b) (ACons (IsI c) (ACons (IsI d) (fun l => l = []))))) l → C l h t := by
  rintro _ h t x ⟨_, _, rfl, ⟨ta, rfl⟩, _, _, rfl, ⟨tb, rfl⟩, _, _, rfl, ⟨tc, rfl⟩, _, _, rfl, ⟨td, rfl⟩, rfl⟩
  exact k ta tb tc td h t x
theorem argsA_xiiii {b c d e : Int} {a : Value} {X : Heap → Prop} {C : List Value → Heap → Nat → Prop} (k : ∀ tb tc td te, ∀ h t, X h → C [a, .int b tb, .int c tc, .int d td, .int e te] h t) : ∀ l h t, X h → (ACons (fun v => v = a) (ACons (IsI b) (ACons (IsI c) (ACons (IsI d) (ACons (IsI e) (fun l => l = [])))))) l → C l h t := by
  rintro _ h t x ⟨_, _, rfl, rfl, _, _, rfl, ⟨tb, rfl⟩, _, _, rfl, ⟨tc, rfl⟩, _, _, rfl, ⟨td, rfl⟩, _, _, rfl, ⟨te, rfl⟩, rfl⟩
  exact k tb tc td te h t x
theorem argsA_xxiii {c d e : Int} {a b : Value} {X : Heap → Prop} {C : List Value → Heap → Nat → Prop} (k : ∀ tc td te, ∀ h t, X h → C [a, b, .int c tc, .int d td, .int e te] h t) : ∀ l h t, X h → (ACons (fun v => v = a) (ACons (fun v => v = b) (ACons (IsI c) (ACons (IsI d) (ACons (IsI e) (fun l => l = [])))))) l → C l h t := by
  rintro _ h t x ⟨_, _, rfl, rfl, _, _, rfl, rfl, _, _, rfl, ⟨tc, rfl⟩, _, _, rfl, ⟨td, rfl⟩, _, _, rfl, ⟨te, rfl⟩, rfl⟩
  exact k tc td te h t x
theorem argsB_ii {a b : Int} {X Y : Prop} {C : List Value → Prop} (k : ∀ ta tb, X → Y → C [.int a ta, .int b tb]) : ∀ l, X → (ACons (IsI a) (ACons (IsI b) (fun l => l = []))) l → Y → C l := by
  rintro _ x ⟨_, _, rfl, ⟨ta, rfl⟩, _, _, rfl, ⟨tb, rfl⟩, rfl⟩ y
  exact k ta tb x y
theorem argsB_xi {b : Int} {a : Value} {X Y : Prop} {C : List Value → Prop} (k : ∀ tb, X → Y → C [a, .int b tb]) : ∀ l, X → (ACons (fun v => v = a) (ACons (IsI b) (fun l => l = []))) l → Y → C l := by
  rintro _ x ⟨_, _, rfl, rfl, _, _, rfl, ⟨tb, rfl⟩, rfl⟩ y
  exact k tb x y
theorem argsB_xx {a b : Value} {X Y : Prop} {C : List Value → Prop} (k : X → Y → C [a, b]) : ∀ l, X → (ACons (fun v => v = a) (ACons (fun v => v = b) (fun l => l = []))) l → Y → C l := by
  rintro _ x ⟨_, _, rfl, rfl, _, _, rfl, rfl, rfl⟩ y
  exact k x y
theorem argsB_iiii {a b c d : Int} {X Y : Prop} {C : List Value → Prop} (k : ∀ ta tb tc td, X → Y → C [.int a ta, .int b tb, .int c tc, .int d td]) : ∀ l, X → (ACons (IsI a) (ACons (IsI b) (ACons (IsI c) (ACons (IsI d) (fun l => l = []))))) l → Y → C l := by
  rintro _ x ⟨_, _, rfl, ⟨ta, rfl⟩, _, _, rfl, ⟨tb, rfl⟩, _, _, rfl, ⟨tc, rfl⟩, _, _, rfl, ⟨td, rfl⟩, rfl⟩ y
  exact k ta tb tc td x y
theorem argsB_yi {a : List UInt8} {b : Int} {X Y : Prop} {C : List Value → Prop} (k : ∀ ta tb, X → Y → C [.bytes a.toArray ta, .int b tb]) : ∀ l, X → (ACons (IsY a) (ACons (IsI b) (fun l => l = []))) l → Y → C l := by
  rintro _ x ⟨_, _, rfl, ⟨ta, rfl⟩, _, _, rfl, ⟨tb, rfl⟩, rfl⟩ y
  exact k ta tb x y
theorem argsB_yiii {a : List UInt8} {b : Int} {c : Int} {d : Int} {X Y : Prop} {C : List Value → Prop} (k : ∀ ta tb tc td, X → Y → C [.bytes a.toArray ta, .int b tb, .int c tc, .int d td]) : ∀ l, X → (ACons (IsY a) (ACons (IsI b) (ACons (IsI c) (ACons (IsI d) (fun l => l = []))))) l → Y → C l := by
  rintro _ x ⟨_, _, rfl, ⟨ta, rfl⟩, _, _, rfl, ⟨tb, rfl⟩, _, _, rfl, ⟨tc, rfl⟩, _, _, rfl, ⟨td, rfl⟩, rfl⟩ y
  exact k ta tb tc td x y
theorem argsA_yiii {a : List UInt8} {b : Int} {c : Int} {d : Int} {X : Heap → Prop} {C : List Value → Heap → Nat → Prop} (k : ∀ ta tb tc td, ∀ h t, X h → C [.bytes a.toArray ta, .int b tb, .int c tc, .int d td] h t) : ∀ l h t, X h → (ACons (IsY a) (ACons (IsI b) (ACons (IsI c) (ACons (IsI d) (fun l => l = []))))) l → C l h t := by
  rintro _ h t x ⟨_, _, rfl, ⟨ta, rfl⟩, _, _, rfl, ⟨tb, rfl⟩, _, _, rfl, ⟨tc, rfl⟩, _, _, rfl, ⟨td, rfl⟩, rfl⟩
  exact k ta tb tc td h t x
theorem argsA_yix {a : List UInt8} {b : Int} {c : Value} {X : Heap → Prop} {C : List Value → Heap → Nat → Prop} (k : ∀ ta tb, ∀ h t, X h → C [.bytes a.toArray ta, .int b tb, c] h t) : ∀ l h t, X h → (ACons (IsY a) (ACons (IsI b) (ACons (fun v => v = c) (fun l => l = [])))) l → C l h t := by
  rintro _ h t x ⟨_, _, rfl, ⟨ta, rfl⟩, _, _, rfl, ⟨tb, rfl⟩, _, _, rfl, rfl, rfl⟩
  exact k ta tb h t x
theorem EvAs.nil : EvAs c A env g ms pos [] (fun vs => vs = []) := fun _ _ h t H k => .of (spliced_nil ⟨h, t, rfl, k [] h t H rfl⟩)
theorem EvAs.cons {e : Expr} {es : List Expr} {P : Value → Prop} {R : List Value → Prop} (he : EvV c A env g ms e P) (hr : EvAs c A env g ms pos es R) (hs : noStar e = true) :
    EvAs c A env g ms pos (e :: es) (ACons P R) := fun Q E h t H k => by
  rw [starEach_cons hs, backTo_cons]
  exact .of (spliced_cons (cps (he _ E h t H fun v h₁ t₁ H₁ p => cps (hr _ E h₁ t₁ H₁ fun r h₂ t₂ H₂ q => ⟨h₂, t₂, rfl, k (v :: r) h₂ t₂ H₂ ⟨v, r, rfl, p, q⟩⟩))))
theorem EvAs.mono {es : List Expr} {R R' : List Value → Prop} (x : EvAs c A env g ms pos es R) (h : ∀ vs, R vs → R' vs) : EvAs c A env g ms pos es R' :=
  fun Q E h0 t H k => x Q E h0 t H fun v h' t' H' p => k v h' t' H' (h v p)
theorem EvAs.xs {e : Expr} {es : List Expr} {v : Value} {r : List Value} (he : EvX c A env g ms e v) (hr : EvAs c A env g ms pos es (fun vs => vs = r)) (hs : noStar e = true) : EvAs c A env g ms pos (e :: es) (fun vs => vs = v :: r) :=
  (EvAs.cons he hr hs).mono fun vs ⟨_, _, e, p, q⟩ => by rw [e, p, q]
theorem anyStar {pos : Pos} {es : List Expr} (h : es.all noStar = true) : (backTo pos (starEach es env)).any (·.1) = false := by
  induction es with
  | nil => rfl
  | cons x r ih =>
    rw [List.all_cons, Bool.and_eq_true] at h
    rw [starEach_cons h.1, backTo_cons, List.any_cons, ih h.2]
    rfl
theorem call_blt {id : Str} {p pos : Pos} {b : String} {e : Expr} {es : List Expr} {R : List Value → Prop} {Q : Value → Heap → Nat → Prop} {E : Value → Heap → Nat → Prop} {h : Heap} {t : Nat}
    (H : Led g ms h) (hf : EvX c A env g ms (.Name id p) (.builtin b)) (ha : EvAs c A env g ms pos (e :: es) R) (hs : (e :: es).all noStar = true)
    (k : ∀ vs h' t', Led g ms h' → R vs → W c A (call (.builtin b) vs) Q E h' t') :
    W c A (eval (.Call (.Name id p) (e :: es) [] pos) env) Q E h t := by
  refine .of (wpAny_Call_Name_kw (cps (hf _ E h t H fun v h₁ t₁ H₁ q => ?_)))
  subst q
  have hs1 : noStar e = true := by rw [List.all_cons, Bool.and_eq_true] at hs; exact hs.1
  have ha' := ha
  unfold EvAs at ha'
  refine callWith_builtin (anyStar hs) ?_
  rw [starEach_cons hs1, backTo_cons] at ha' ⊢
  exact evalArgs_plain (cps (ha' _ E h₁ t₁ H₁ fun vs h₂ t₂ H₂ r => (k vs h₂ t₂ H₂ r).to))
theorem EvV.blt {id : Str} {p pos : Pos} {b : String} {e : Expr} {es : List Expr} {R : List Value → Prop} {P : Value → Prop}
    (hf : EvX c A env g ms (.Name id p) (.builtin b)) (ha : EvAs c A env g ms pos (e :: es) R) (hs : (e :: es).all noStar = true)
    (k : ∀ (Q : Value → Heap → Nat → Prop) (E : Value → Heap → Nat → Prop) (h : Heap) (t : Nat) vs, Led g ms h → R vs → (∀ v h' t', Led g ms h' → P v → Q v h' t') → W c A (call (.builtin b) vs) Q E h t) :
    EvV c A env g ms (.Call (.Name id p) (e :: es) [] pos) P := fun Q E h t H q =>
  call_blt H hf ha hs fun vs h' t' H' r => k Q E h' t' vs H' r fun v h'' t'' H'' p => q v h'' t'' H'' p
theorem EvI.lenY {id : Str} {p pos : Pos} {e : Expr} {b : List UInt8} (hf : EvX c A env g ms (.Name id p) (.builtin "len")) (he : EvY c A env g ms e b) (hz : b.length ≤ 1000) (hs : noStar e = true) :
    EvI c A env g ms (.Call (.Name id p) [e] [] pos) b.length :=
  .blt hf (.cons he .nil hs) (by simp [hs]) fun Q E h t vs H r k => by
    obtain ⟨v, r, rfl, ⟨u, rfl⟩, rfl⟩ := r
    exact .of (len_bytes (by simp; omega) ⟨h, _, rfl, k _ h _ H (isI_of (by simp) _)⟩)
theorem EvI.lenAt {id : Str} {p pos : Pos} {e : Expr} {l : Addr} {vs : List Value} (hf : EvX c A env g ms (.Name id p) (.builtin "len")) (he : EvX c A env g ms e (.ref l)) (hj : ∀ h, Led g ms h → h.IsList l vs.toArray) (hz : vs.length ≤ 100000) (hs : noStar e = true) :
    EvI c A env g ms (.Call (.Name id p) [e] [] pos) vs.length :=
  .blt hf (.cons he .nil hs) (by simp [hs]) fun Q E h t vs' H r k => by
    obtain ⟨v, r, rfl, rfl, rfl⟩ := r
    exact .of (PyProof.Rows.len_list (s := c.S h t) (hj h H) (by simp; omega) ⟨h, _, rfl, k _ h _ H (isI_of (by simp) _)⟩)
theorem EvI.lenL {id : Str} {p pos : Pos} {e : Expr} {l : Addr} {vs : List Value} (j : Nat) (hf : EvX c A env g ms (.Name id p) (.builtin "len")) (he : EvX c A env g ms e (.ref l)) (hj : ms[j]? = some (l, OList vs)) (hz : vs.length ≤ 100000) (hs : noStar e = true) :
    EvI c A env g ms (.Call (.Name id p) [e] [] pos) vs.length := .lenAt hf he (fun _ H => isList_of (H.at j hj)) hz hs
theorem EvI.lenG {id : Str} {p pos : Pos} {e : Expr} {l : Addr} {vs : List Value} (hf : EvX c A env g ms (.Name id p) (.builtin "len")) (he : EvX c A env g ms e (.ref l)) (hj : g.IsList l vs.toArray) (hz : vs.length ≤ 100000) (hs : noStar e = true) :
    EvI c A env g ms (.Call (.Name id p) [e] [] pos) vs.length := .lenAt hf he (fun _ H => stays_list H.base hj) hz hs
theorem EvI.min2 {id : Str} {p pos : Pos} {e₁ e₂ : Expr} {a b : Int} {n : Nat} (hA : Room A n) (hf : EvX c A env g ms (.Name id p) (.builtin "min")) (h₁ : EvI c A env g ms e₁ a) (h₂ : EvI c A env g ms e₂ b) (hs₁ : noStar e₁ = true) (hs₂ : noStar e₂ = true) :
    EvI c A env g ms (.Call (.Name id p) [e₁, e₂] [] pos) (if b < a then b else a) :=
  .blt hf (.cons h₁ (.cons h₂ .nil hs₂) hs₁) (by simp [hs₁, hs₂]) fun Q E h t vs H r k => by
    obtain ⟨v, r, rfl, ⟨x, rfl⟩, v', r', rfl, ⟨x', rfl⟩, rfl⟩ := r
    refine .of (min_two_ints hA.quiet fun h' tk hk => ⟨h', tk, rfl, k _ h' tk (H.ext hk) ?_⟩)
    split <;> exact isI _ _
end
end
section
noncomputable abbrev Xs (c : Cx) (A : Around) (env : Env) (stmts : List Stmt) (Q : Flow → Heap → Nat → Prop) (E : Value → Heap → Nat → Prop) (h : Heap) (t : Nat) : Prop := W c A (execs stmts env) Q E h t
noncomputable abbrev NoE : Value → Heap → Nat → Prop := fun _ _ _ => False
theorem noE {c : Cx} {E' : Value → Shared → Prop} : ∀ v s, c.E NoE v s → E' v s := fun _ _ ⟨_, _, _, f⟩ => f.elim
theorem W.noE {c : Cx} {A : Around} {α : Type} {m : Sem α} {Q : α → Heap → Nat → Prop} {E : Value → Heap → Nat → Prop} {h : Heap} {t : Nat} (x : W c A m Q NoE h t) : W c A m Q E h t := x.mono (fun _ _ _ q => q) fun _ _ _ f => f.elim
theorem cpsN {c : Cx} {A : Around} {α : Type} {m : Sem α} {K : α → Shared → Prop} {E' : Value → Shared → Prop} {h : Heap} {t : Nat}
    (x : W c A m (fun a h' t' => K a (c.S h' t')) NoE h t) : wpAny c.M A m K E' (c.S h t) :=
  wpAny_mono x.to (fun a s ⟨h', t', e, k⟩ => e ▸ k) Mine.noE
noncomputable def flowVal : Flow → Value
  | .ret v => v
  | _ => .none
noncomputable def notComp : Expr → Bool
  | .ListComp .. => false
  | .SetComp .. => false
  | .DictComp .. => false
  | _ => true
theorem swaps_of {e : Expr} (h : notComp e = true) (t : Option Expr) (line : Nat) (env : Env) : swapsWith e t line env = pure false := by
  cases e <;> first | rfl | cases h
section
variable {c : Cx} {A : Around} {env : Env} {g : Heap} {ms : List Entry} {ns : List (Str × NameKind)} {Q : Flow → Heap → Nat → Prop} {E : Value → Heap → Nat → Prop} {h : Heap} {t : Nat} {rest : List Stmt} {l : List (Str × Value)} {pos p : Pos} {x : Str}
theorem store_loc {v : Value} {Q : Unit → Heap → Nat → Prop} (H : Led g ((env.locals, OLoc l) :: ms) h) (N : EnvN env ns) (hx : ns.lookup x = some .local)
    (k : ∀ h', Led g ((env.locals, OLoc ((x, v) :: l)) :: ms) h' → Q () h' (t + 1)) : W c A (storeName env x v) Q E h t := by
  obtain ⟨m, hn, hm⟩ := ns_of (H.at 0 rfl)
  exact .of (wpAny_storeName_local (s := c.S h t) (N.of hx) hn (fun h' hn' hs => ⟨h', _, rfl, k h' (H.put 0 rfl hs (of_ns hn' (lookup_cons_of hm x v)))⟩) N.notMod)
theorem store_cell {v : Value} {d : Addr} {v₀ : Option Value} {Q : Unit → Heap → Nat → Prop} (i : Nat) (H : Led g ms h) (N : EnvN env ns) (hx : ns.lookup x = some .cell) (hc : env.cells.lookup x = some d) (hi : ms[i]? = some (d, OCell v₀))
    (k : ∀ h', Led g (ms.set i (d, OCell (some v))) h' → Q () h' t) : W c A (storeName env x v) Q E h t :=
  .of (wpAny_storeName_cell (s := c.S h t) N.kind (N.of hx) hc (H.at i hi) fun h' hv hs => ⟨h', t, rfl, k h' (H.put i hi hs hv)⟩)
theorem Xs.nil (k : Q .next h t) : Xs c A env [] Q E h t := .of (wpAny_execs_nil ⟨h, t, rfl, k⟩)
theorem Xs.cons {st : Stmt} (k : W c A (exec st env) (fun f h' t' => match f with | .next => Xs c A env rest Q E h' t' | f => Q f h' t') E h t) : Xs c A env (st :: rest) Q E h t := by
  refine .of (wpAny_execs_cons (cps (k.mono (fun f h' t' q => ?_) fun _ _ _ e => e)))
  cases f <;> first | exact q.to | exact ⟨h', t', rfl, q⟩
noncomputable def Then (c : Cx) (A : Around) (env : Env) (rest : List Stmt) (Q : Flow → Heap → Nat → Prop) (E : Value → Heap → Nat → Prop) : Flow → Heap → Nat → Prop := fun f h t => match f with
  | .next => Xs c A env rest Q E h t
  | f => Q f h t
theorem Xs.nilT (k : Xs c A env rest Q E h t) : Xs c A env [] (Then c A env rest Q E) E h t := Xs.nil k
theorem Xs.assign {e : Expr} {P : Value → Prop} (H : Led g ((env.locals, OLoc l) :: ms) h) (he : EvV c A env g ((env.locals, OLoc l) :: ms) e P) (N : EnvN env ns) (hx : ns.lookup x = some .local) (hc : notComp e = true)
    (k : ∀ v h' t', P v → Led g ((env.locals, OLoc ((x, v) :: l)) :: ms) h' → Xs c A env rest Q E h' t') : Xs c A env (.Assign [.Name x p] e pos :: rest) Q E h t :=
  Xs.cons (.of (wpAny_Assign_Name (cps (he _ E h t H fun v h₁ t₁ H₁ q => cps (store_loc H₁ N hx fun h' H' => ⟨h', _, rfl, k v h' _ q H'⟩))) (swaps_of hc ..)))
theorem Xs.assignE {e : Expr} (he : W c A (eval e env) (fun v h' t' => W c A (storeName env x v) (fun _ h'' t'' => Xs c A env rest Q E h'' t'') E h' t') E h t) (hc : notComp e = true) :
    Xs c A env (.Assign [.Name x p] e pos :: rest) Q E h t :=
  Xs.cons (.of (wpAny_Assign_Name (cps (he.mono (fun v h₁ t₁ q => cps (q.mono (fun _ h₂ t₂ q => ⟨h₂, t₂, rfl, q⟩) fun _ _ _ e => e)) fun _ _ _ e => e)) (swaps_of hc ..)))
theorem Xs.aug {e : Expr} {op : Operator} {a b d : Int} {y : Tok} (H : Led g ((env.locals, OLoc l) :: ms) h) (hv : l.lookup x = some (.int a y)) (he : EvI c A env g ((env.locals, OLoc l) :: ms) e b) (N : EnvN env ns) (hx : ns.lookup x = some .local)
    (op_ : ∀ (Q : Value → Shared → Prop) (E : Value → Shared → Prop) (s : Shared) u, (Q (.int d s.toks) { s with toks := s.toks + 1 }) → wpAny c.M A (inplaceOp op (.int a y) (.int b u)) Q E s)
    (k : ∀ h' t' u, Led g ((env.locals, OLoc ((x, .int d u) :: l)) :: ms) h' → Xs c A env rest Q E h' t') : Xs c A env (.AugAssign (.Name x p) op e pos :: rest) Q E h t := by
  refine Xs.cons (.of (wpAny_AugAssign_Name ?_))
  obtain ⟨m, hn, hm⟩ := ns_of (H.at 0 rfl)
  refine wpAny_loadName_local (s := c.S h t) N.kind (N.of hx) hn (hm _ _ hv) (cps (he _ E h t H ?_))
  intro v h₁ t₁ H₁ ⟨u, e₁⟩
  rw [e₁]
  with_reducible exact op_ _ _ (c.S h₁ t₁) u (cps (store_loc H₁ N hx fun h' H' => ⟨h', _, rfl, k h' _ _ H'⟩))
theorem Xs.augAdd {e : Expr} {a b : Int} {y : Tok} (H : Led g ((env.locals, OLoc l) :: ms) h) (hv : l.lookup x = some (.int a y)) (he : EvI c A env g ((env.locals, OLoc l) :: ms) e b) (N : EnvN env ns) (hx : ns.lookup x = some .local)
    (k : ∀ h' t' u, Led g ((env.locals, OLoc ((x, .int (a + b) u) :: l)) :: ms) h' → Xs c A env rest Q E h' t') : Xs c A env (.AugAssign (.Name x p) .Add e pos :: rest) Q E h t :=
  Xs.aug H hv he N hx (fun Q E s u k => by with_reducible exact PyProof.Rows.iadd_int (Q := Q) k) k
theorem Xs.ite {test : Expr} {body orelse : List Stmt} {b : Bool} (H : Led g ms h) (ht : Tst c A env g ms test b)
    (h1 : b = true → ∀ h' t', Led g ms h' → Xs c A env body (Then c A env rest Q E) E h' t')
    (h2 : b = false → ∀ h' t', Led g ms h' → Xs c A env orelse (Then c A env rest Q E) E h' t') : Xs c A env (.If test body orelse pos :: rest) Q E h t := by
  refine Xs.cons (.of (wpAny_If (cps (ht _ E h t H fun h' t' H' => ?_))))
  cases b with
  | true => rw [if_pos rfl]; exact (h1 rfl h' t' H').to
  | false => rw [if_neg (by decide)]; exact (h2 rfl h' t' H').to
theorem Xs.ret {e : Expr} {P : Value → Prop} (H : Led g ms h) (he : EvV c A env g ms e P) (k : ∀ v h' t', P v → Led g ms h' → Q (.ret v) h' t') : Xs c A env (.Return (some e) pos :: rest) Q E h t :=
  Xs.cons (.of (wpAny_Return_some (cps (he _ E h t H fun v h' t' H' q => ⟨h', t', rfl, k v h' t' q H'⟩))))
theorem Xs.retE {e : Expr} (he : W c A (eval e env) (fun v h' t' => Q (.ret v) h' t') E h t) : Xs c A env (.Return (some e) pos :: rest) Q E h t :=
  Xs.cons (.of (wpAny_Return_some he.to))
theorem Xs.expr {e : Expr} (he : W c A (eval e env) (fun v h' t' => (∀ a, v ≠ .ref a) ∧ Xs c A env rest Q E h' t') E h t) (N : EnvN env ns) (hc : notComp e = true) : Xs c A env (.Expr e pos :: rest) Q E h t := by
  refine Xs.cons (.of (wpAny_Expr (cps (he.mono (fun v h' t' q => ?_) fun _ _ _ e => e)) ?_ (swaps_of hc ..)))
  · cases v <;> first | exact ⟨h', t', rfl, q.2⟩ | exact absurd rfl (q.1 _)
  · unfold interactive; rw [N.kind]; rfl
noncomputable def WPost (c : Cx) (A : Around) (env : Env) (rest : List Stmt) (Q : Flow → Heap → Nat → Prop) (E : Value → Heap → Nat → Prop) (J : Nat → Heap → List Entry → Prop) (n : Nat) : Flow → Heap → Nat → Prop := fun f h t => match f with
  | .next | .cont => ∃ m g' ms', m < n ∧ J m g' ms' ∧ Led g' ms' h
  | .brk => Xs c A env rest Q E h t
  | .ret v => Q (.ret v) h t
theorem Xs.while {test : Expr} {body : List Stmt} (J : Nat → Heap → List Entry → Prop) (n : Nat) (j : J n g ms) (H : Led g ms h)
    (turn : ∀ n g ms, J n g ms → ∃ b, Tst c A env g ms test b ∧
      (b = true → ∀ h t, Led g ms h → Xs c A env body (WPost c A env rest Q E J n) NoE h t) ∧
      (b = false → ∀ h t, Led g ms h → Xs c A env rest Q E h t)) : Xs c A env (.While test body [] pos :: rest) Q E h t := by
  refine Xs.cons (.of (wpAny_While (codeAny_whileLoop (fun n s => ∃ g ms h t, s = c.S h t ∧ J n g ms ∧ Led g ms h) ?_ n ⟨g, ms, h, t, rfl, j, H⟩)))
  rintro n _ ⟨g, ms, h, t, rfl, j, H⟩
  obtain ⟨b, ht, h1, h2⟩ := turn n g ms j
  refine cpsN (ht _ NoE h t H fun h' t' H' => ?_)
  cases b with
  | true =>
    rw [if_pos rfl]
    refine cpsN ((h1 rfl h' t' H').mono (fun f h'' t'' q => ?_) fun _ _ _ e => e)
    have fin : (∃ m g' ms', m < n ∧ J m g' ms' ∧ Led g' ms' h'') → ∃ m, m < n ∧ ∃ g ms h t, c.S h'' t'' = c.S h t ∧ J m g ms ∧ Led g ms h := by
      rintro ⟨m, g', ms', a, b, d⟩
      exact ⟨m, a, g', ms', h'', t'', rfl, b, d⟩
    cases f with
    | next => exact fin q
    | cont => exact fin q
    | brk => exact ⟨h'', t'', rfl, q⟩
    | ret v => exact ⟨h'', t'', rfl, q⟩
  | false =>
    rw [if_neg (by decide)]
    exact wpAny_execs_nil ⟨h', t', rfl, h2 rfl h' t' H'⟩
noncomputable def Back (c : Cx) (Q : Value → Heap → Nat → Prop) (E : Value → Heap → Nat → Prop) : Result → Shared → Prop := fun r s' => match r with
  | .ok (.ret v) => ∃ h' t', s' = c.S h' t' ∧ Q v h' t'
  | .ok _ => False
  | .error e => c.E E e s'
theorem W.code {f : Value} {args : List Value} {kw : List (Str × Value)} {Q : Value → Heap → Nat → Prop} {E : Value → Heap → Nat → Prop} (hc : codeAny c.M A (.call f ⟨args, kw⟩) (Back c Q E) (c.S h t)) : W c A (call f args kw) Q E h t := .of (wpAny_call hc)
theorem Room.call {n : Nat} {C : Addr} {r : List Value} {kw : List (Str × Value)} (r' : Room A (n + 1)) : Room (A.under (.builtin "type.__call__" ⟨.ref C :: r, kw⟩)) n := by
  refine ⟨?_, ?_, r'.quiet⟩
  · have := r'.depth
    show A.depth + Code.weight _ + n < 999
    have w : Code.weight (.builtin "type.__call__" ⟨.ref C :: r, kw⟩) = 1 := by kernel_rfl
    omega
  · have := r'.units
    show A.units + Code.cUnits _ + 8 * n + 8 < cLine
    have w : Code.cUnits (.builtin "type.__call__" ⟨.ref C :: r, kw⟩) = 1 := by kernel_rfl
    omega
theorem callFc {fa : Addr} {o : Obj} {fd : FuncData} {body : List Stmt} {args : List Value} {kw : List (Str × Value)} {binds : List (Str × Value)} {Q : Value → Heap → Nat → Prop} {n : Nat} (W : List Entry)
    (ho : h.get? fa = some o) (hd : o.data = .func fd) (hb : fd.body = .stmts body) (hns : fd.scope.names = ns) (hr : Room A (n + 1)) (hl : h.NoLimit) (hc : h.CodeRec fd.code fd.qualname) (hbind : BindsTo (c.S h t) fd ⟨args, kw⟩ binds)
    (hcell : ∀ x ∈ ns, x.2 ≠ .cell) (hloc : ∀ x ∈ binds, ns.lookup x.1 = some .local) (hk : fd.scope.kind = .function) (hco : fd.scope.isCoroutine = false) (hgen : fd.scope.isGenerator = false) (hg : fd.globals = mainGlobals) (hbu : fd.builtins = builtinsNs)
    (hW : ∀ p ∈ W, ∃ o, h.get? p.1 = some o ∧ p.2 o) (hn : (W.map (·.1)).Nodup)
    (k : ∀ A' env h' t', Room A' n → EnvN env ns → env.cells = fd.closure → Led (hideAll h (W.map (·.1))) ((env.locals, OLoc binds.reverse) :: W) h' → h.get? env.locals = none → Xs c A' env body (fun f h t => Q (flowVal f) h t) NoE h' t') :
    codeAny c.M A (.call (.ref fa) ⟨args, kw⟩) (Back c Q E) (c.S h t) := by
  subst hns
  refine (codeAny_call_def (s := c.S h t) (fd := fd) (body := body) (binds := binds) hr.lim ho hd hl hc hb hbind hcell hloc (fun h₁ hns hk₁ => ?_) hco hgen hk)
  have hne : h.get? h.objs.size = none := by
    cases q : h.get? h.objs.size with
    | none => rfl
    | some o => exact absurd (Heap.lt_size q) (Nat.lt_irrefl _)
  have H : Led (hideAll h (W.map (·.1))) W h₁ := (Led.start h W hW hn).ext hk₁
  have H' : Led (hideAll h (W.map (·.1))) ((h.objs.size, OLoc binds.reverse) :: W) h₁ := H.add (fun m => by
      obtain ⟨p, hp, e⟩ := List.mem_map.mp m
      obtain ⟨o, h1, _⟩ := hW p hp
      rw [e, hne] at h1; cases h1) (by
      cases q : (hideAll h (W.map (·.1))).get? h.objs.size with
      | none => rfl
      | some o => rw [of_hideAll _ q] at hne; cases hne) (of_ns hns fun _ _ e => e)
  refine cpsN ((k (A.deeper (callEnv fd h.objs.size fa)) (callEnv fd h.objs.size fa) h₁ _ hr.deeper ⟨hk, hg, hbu, rfl⟩ rfl H' hne).mono (fun f h' t' q => ?_) fun _ _ _ x => x)
  cases f <;> exact ⟨h', t', rfl, q⟩
theorem callF {fa : Addr} {o : Obj} {fd : FuncData} {body : List Stmt} {args : List Value} {kw : List (Str × Value)} {binds : List (Str × Value)} {Q : Value → Heap → Nat → Prop} {n : Nat} (W : List Entry)
    (ho : h.get? fa = some o) (hd : o.data = .func fd) (hb : fd.body = .stmts body) (hns : fd.scope.names = ns) (hr : Room A (n + 1)) (hl : h.NoLimit) (hc : h.CodeRec fd.code fd.qualname) (hbind : BindsTo (c.S h t) fd ⟨args, kw⟩ binds)
    (hcell : ∀ x ∈ ns, x.2 ≠ .cell) (hloc : ∀ x ∈ binds, ns.lookup x.1 = some .local) (hk : fd.scope.kind = .function) (hco : fd.scope.isCoroutine = false) (hgen : fd.scope.isGenerator = false) (hg : fd.globals = mainGlobals) (hbu : fd.builtins = builtinsNs)
    (hW : ∀ p ∈ W, ∃ o, h.get? p.1 = some o ∧ p.2 o) (hn : (W.map (·.1)).Nodup)
    (k : ∀ A' env h' t', Room A' n → EnvN env ns → env.cells = fd.closure → Led (hideAll h (W.map (·.1))) ((env.locals, OLoc binds.reverse) :: W) h' → h.get? env.locals = none → Xs c A' env body (fun f h t => Q (flowVal f) h t) NoE h' t') :
    Mine.W c A (call (.ref fa) args kw) Q E h t := .code (callFc W ho hd hb hns hr hl hc hbind hcell hloc hk hco hgen hg hbu hW hn k)
theorem callF0 {fa : Addr} {o : Obj} {fd : FuncData} {body : List Stmt} {args : List Value} {kw : List (Str × Value)} {binds : List (Str × Value)} {Q : Value → Heap → Nat → Prop} {n : Nat}
    (ho : h.get? fa = some o) (hd : o.data = .func fd) (hb : fd.body = .stmts body) (hns : fd.scope.names = ns) (hr : Room A (n + 1)) (hl : h.NoLimit) (hc : h.CodeRec fd.code fd.qualname) (hbind : BindsTo (c.S h t) fd ⟨args, kw⟩ binds)
    (hcell : ∀ x ∈ ns, x.2 ≠ .cell) (hloc : ∀ x ∈ binds, ns.lookup x.1 = some .local) (hk : fd.scope.kind = .function) (hco : fd.scope.isCoroutine = false) (hgen : fd.scope.isGenerator = false) (hg : fd.globals = mainGlobals) (hbu : fd.builtins = builtinsNs)
    (k : ∀ A' env h' t', Room A' n → EnvN env ns → env.cells = fd.closure → Led h [(env.locals, OLoc binds.reverse)] h' → h.get? env.locals = none → Xs c A' env body (fun f h t => Q (flowVal f) h t) NoE h' t') :
    Mine.W c A (call (.ref fa) args kw) Q E h t :=
  callF [] ho hd hb hns hr hl hc hbind hcell hloc hk hco hgen hg hbu (fun _ h => nomatch h) .nil k
end
end
section
noncomputable abbrev KK (w : World) : Frag := KF w.params
structure Gl (w : World) (g : Heap) : Prop where
  X : (KK w).In g
  lim : g.NoLimit
  gn : ∀ x v, nsIn (KK w) mainGlobals x = some (some v) → GName g x v
  bn : ∀ x v, nsIn (KK w) mainGlobals x = some none → bootBuiltins x = some v → x ≠ "__name__" → BName g x v
theorem Gl.keeps {w : World} {g g' : Heap} (G : Gl w g) (k : g.StaysIn g') : Gl w g' :=
  ⟨G.X.keeps k, G.lim.keeps k, fun x v e => (G.gn x v e).keeps k, fun x v a b c => (G.bn x v a b c).keeps k⟩
theorem gl_of {w : World} {g : Heap} {p : Program} {loose : List Str} {mg mb : Str → Option Value} (X : (KK w).In g) (T : TopRead p loose mg mb g) : Gl w g :=
  ⟨X, T.nolimit, fun x v e => ⟨mg, T.g, mg_of X T.g e⟩, fun x v a b c => ⟨mg, mb, T.g, mg_none_of X T.g a, T.b, (T.builtins x c).trans b⟩⟩
section
variable {w : World} {g : Heap} (G : Gl w g)
include G
theorem gn_LEAST : GName g "LEAST" (.int 3 254) := G.gn _ _ (by kernel_rfl)
theorem gn_UNUSED_PRICE : GName g "UNUSED_PRICE" (.int 16 432) := G.gn _ _ (by kernel_rfl)
theorem gn_key_at : GName g "key_at" (.ref 68) := G.gn _ _ (by kernel_rfl)
theorem gn_Chains : GName g "Chains" (.ref 99) := G.gn _ _ (by kernel_rfl)
theorem gn_common_length : GName g "common_length" (.ref 110) := G.gn _ _ (by kernel_rfl)
theorem gn_match_at : GName g "match_at" (.ref 117) := G.gn _ _ (by kernel_rfl)
theorem gn_find_matches : GName g "find_matches" (.ref 125) := G.gn _ _ (by kernel_rfl)
theorem gn_lazy_matches : GName g "lazy_matches" (.ref 133) := G.gn _ _ (by kernel_rfl)
theorem gn_matches_by_length : GName g "matches_by_length" (.ref 140) := G.gn _ _ (by kernel_rfl)
theorem gn_cheapest_parts : GName g "cheapest_parts" (.ref 146) := G.gn _ _ (by kernel_rfl)
theorem gn_cost_of : GName g "cost_of" (.ref 153) := G.gn _ _ (by kernel_rfl)
theorem gn_length_of : GName g "length_of" (.ref 160) := G.gn _ _ (by kernel_rfl)
theorem gn_expanded : GName g "expanded" (.ref 167) := G.gn _ _ (by kernel_rfl)
theorem gn_FilterFault : GName g "FilterFault" (.ref 59) := G.gn _ _ (by kernel_rfl)
theorem gn_split_number : GName g "split_number" (.ref 174) := G.gn _ _ (by kernel_rfl)
theorem gn_length_symbol : GName g "length_symbol" (.ref 181) := G.gn _ _ (by kernel_rfl)
theorem gn_distance_symbol : GName g "distance_symbol" (.ref 188) := G.gn _ _ (by kernel_rfl)
theorem gn_Prices : GName g "Prices" (.ref 219) := G.gn _ _ (by kernel_rfl)
theorem gn_law_BACKS : GName g "_law_BACKS" (.ref 240) := G.gn _ _ (by kernel_rfl)
theorem gn_law_taker : GName g "_law_taker" (.ref 247) := G.gn _ _ (by kernel_rfl)
theorem gn_law_places : GName g "_law_places" (.ref 252) := G.gn _ _ (by kernel_rfl)
theorem gn_law_common : GName g "_law_common" (.ref 259) := G.gn _ _ (by kernel_rfl)
theorem gn_law_match : GName g "_law_match" (.ref 266) := G.gn _ _ (by kernel_rfl)
theorem gn_law_greedy : GName g "_law_greedy" (.ref 273) := G.gn _ _ (by kernel_rfl)
theorem gn_law_price : GName g "_law_price" (.ref 280) := G.gn _ _ (by kernel_rfl)
theorem gn_law_cheapest : GName g "_law_cheapest" (.ref 285) := G.gn _ _ (by kernel_rfl)
theorem gn_law_fault_place : GName g "_law_fault_place" (.ref 292) := G.gn _ _ (by kernel_rfl)
theorem bn_len : BName g "len" (.builtin "len") := G.bn _ _ (by kernel_rfl) (by boot_fast) (by decide)
theorem bn_min : BName g "min" (.builtin "min") := G.bn _ _ (by kernel_rfl) (by boot_fast) (by decide)
theorem bn_range : BName g "range" (.type "range") := G.bn _ _ (by kernel_rfl) (by boot_fast) (by decide)
theorem bn_isinstance : BName g "isinstance" (.builtin "isinstance") := G.bn _ _ (by kernel_rfl) (by boot_fast) (by decide)
theorem bn_tuple : BName g "tuple" (.type "tuple") := G.bn _ _ (by kernel_rfl) (by boot_fast) (by decide)
theorem bn_bytes : BName g "bytes" (.type "bytes") := G.bn _ _ (by kernel_rfl) (by boot_fast) (by decide)
theorem bn_bytearray : BName g "bytearray" (.type "bytearray") := G.bn _ _ (by kernel_rfl) (by kernel_rfl) (by decide)
theorem bn_sum : BName g "sum" (.builtin "sum") := G.bn _ _ (by kernel_rfl) (by boot_fast) (by decide)
theorem bn_Exception : BName g "Exception" (.type "Exception") := G.bn _ _ (by kernel_rfl) (by boot_fast) (by decide)
end
end
section
section
variable {c : Cx} {A : Around} {env : Env} {g : Heap} {ms : List Entry} {ns : List (Str × NameKind)} {E : Value → Heap → Nat → Prop} {h : Heap} {t : Nat} {rest : List Stmt} {l : List (Str × Value)} {pos p : Pos} {x : Str}
theorem tup_ {elts : List Expr} {k : Nat} {R : List Value → Prop} {Q : Value → Heap → Nat → Prop} (H : Led g ms h) (ha : EvAs c A env g ms pos elts R) (hz : ∀ vs, R vs → vs.length ≤ 1000)
    (q : ∀ vs a h' t', R vs → Led g ((a, OTup vs) :: ms) h' → Q (.ref a) h' t') : W c A (eval (.Tuple elts k pos) env) Q E h t :=
  .of (Tuple_ (cps (ha _ E h t H fun vs h₁ t₁ H₁ r => wpAny_newObj_type ⟨_, t₁, rfl, q vs _ _ t₁ r (H₁.push { cls := .type "tuple", data := .seq vs.toArray } rfl ⟨rfl, 0, rfl⟩)⟩ (by
    have := hz vs r
    show vs.toArray.size ≤ sizeLine
    rw [List.size_toArray, sizeLine_eq]; omega))))
theorem list_ {elts : List Expr} {R : List Value → Prop} {Q : Value → Heap → Nat → Prop} (H : Led g ms h) (ha : EvAs c A env g ms pos elts R) (hz : ∀ vs, R vs → vs.length ≤ 1000)
    (q : ∀ vs a h' t', R vs → Led g ((a, OList vs) :: ms) h' → Q (.ref a) h' t') : W c A (eval (.List elts pos) env) Q E h t :=
  .of (List_ (cps (ha _ E h t H fun vs h₁ t₁ H₁ r => wpAny_newObj_type ⟨_, t₁, rfl, q vs _ _ t₁ r (H₁.push { cls := .type "list", data := .seq vs.toArray } rfl ⟨0, rfl⟩)⟩ (by
    have := hz vs r
    show vs.toArray.size ≤ sizeLine
    rw [List.size_toArray, sizeLine_eq]; omega))))
theorem Xs.assignNil {pos' : Pos} {Q : Flow → Heap → Nat → Prop} (H : Led g ((env.locals, OLoc l) :: ms) h) (N : EnvN env ns) (hx : ns.lookup x = some .local)
    (q : ∀ a h' t', Led g ((env.locals, OLoc ((x, .ref a) :: l)) :: (a, OList []) :: ms) h' → Xs c A env rest Q E h' t') : Xs c A env (.Assign [.Name x p] (.List [] pos') pos :: rest) Q E h t :=
  Xs.assignE (list_ H .nil (fun _ r => by subst r; exact Nat.zero_le _) fun vs a h' t' r H' => by
    subst r
    exact store_loc H'.swap N hx fun h'' H'' => q a h'' _ H'') rfl
noncomputable def FnAt (g : Heap) (fa : Addr) : Prop := ∃ o fd, g.get? fa = some o ∧ o.data = .func fd
theorem call_fn {id : Str} {fa : Addr} {e : Expr} {es : List Expr} {R : List Value → Prop} {Q : Value → Heap → Nat → Prop}
    (H : Led g ms h) (hf : EvX c A env g ms (.Name id p) (.ref fa)) (fo : FnAt g fa) (ha : EvAs c A env g ms pos (e :: es) R) (hs : (e :: es).all noStar = true)
    (k : ∀ vs h' t', Led g ms h' → R vs → W c A (call (.ref fa) vs) Q E h' t') :
    W c A (eval (.Call (.Name id p) (e :: es) [] pos) env) Q E h t := by
  refine .of (wpAny_Call_Name_kw (cps (hf _ E h t H fun v h₁ t₁ H₁ q => ?_)))
  subst q
  obtain ⟨o, fd, ho, hd⟩ := fo
  have hs1 : noStar e = true := by rw [List.all_cons, Bool.and_eq_true] at hs; exact hs.1
  have ha' := ha
  unfold EvAs at ha'
  refine callWith_function (o := o) (fd := fd) ?_
  rw [starEach_cons hs1, backTo_cons] at ha' ⊢
  exact evalArgs_plain (cps (ha' _ E h₁ t₁ H₁ fun vs h₂ t₂ H₂ r => ⟨⟨H₂.base _ _ ho, hd⟩, (k vs h₂ t₂ H₂ r).to⟩))
theorem EvV.fn {id : Str} {fa : Addr} {e : Expr} {es : List Expr} {R : List Value → Prop} {P : Value → Prop}
    (hf : EvX c A env g ms (.Name id p) (.ref fa)) (fo : FnAt g fa) (ha : EvAs c A env g ms pos (e :: es) R) (hs : (e :: es).all noStar = true)
    (k : ∀ (Q : Value → Heap → Nat → Prop) (E : Value → Heap → Nat → Prop) (h : Heap) (t : Nat) vs, Led g ms h → R vs → (∀ v h' t', h.StaysIn h' → P v → Q v h' t') → W c A (call (.ref fa) vs) Q E h t) :
    EvV c A env g ms (.Call (.Name id p) (e :: es) [] pos) P := fun Q E h t H q =>
  call_fn H hf fo ha hs fun vs h' t' H' r => k Q E h' t' vs H' r fun v h'' t'' s p => q v h'' t'' (H'.ext s) p
theorem InOrder.nil {xs : List Value} {Q : Unit → Heap → Nat → Prop} (q : Q () h t) : W c A (assignInOrder [] xs) Q E h t := .of (assignInOrder_nil ⟨h, t, rfl, q⟩)
theorem InOrder.loc {ts : List (Value → Sem Unit)} {v : Value} {xs : List Value} {Q : Unit → Heap → Nat → Prop} (H : Led g ((env.locals, OLoc l) :: ms) h) (N : EnvN env ns) (hx : ns.lookup x = some .local)
    (k : ∀ h' t', Led g ((env.locals, OLoc ((x, v) :: l)) :: ms) h' → W c A (assignInOrder ts xs) Q E h' t') : W c A (assignInOrder (assign (.Name x p) env :: ts) (v :: xs)) Q E h t :=
  .of (assignInOrder_cons (assign_Name (cps (store_loc H N hx fun h' H' => (k h' _ H').to))))
theorem Xs.unpack {elts : List Expr} {k : Nat} {tpos : Pos} {e : Expr} {Q : Flow → Heap → Nat → Prop} {n : Nat} (hA : Room A n)
    (he : W c A (eval e env) (fun v h' t' => ∃ a vs, v = .ref a ∧ IsTup h' a vs.toArray ∧ (assignEach elts env).length = vs.length ∧
      ∀ h'', h'.StaysIn h'' → W c A (assignInOrder ((assignEach elts env).map (·.2)) vs) (fun _ h t => Xs c A env rest Q E h t) E h'' t') E h t)
    (hs : swapsWithSole [.Tuple elts k tpos] e pos.line env = pure false) (hw : swappedStores [.Tuple elts k tpos] e env = pure none) (hstar : (assignEach elts env).findIdx? (·.1) = none) :
    Xs c A env (.Assign [.Tuple elts k tpos] e pos :: rest) Q E h t := by
  refine Xs.cons (.of (Assign_Tuple (cps (he.mono (fun v h' t' q => ?_) fun _ _ _ e => e)) hs hw))
  obtain ⟨a, vs, rfl, ht, hn, q⟩ := q
  refine assign_Tuple_tuple (s := c.S h' t') hA.quiet ht (by simpa using hn) hstar fun h'' x => ?_
  have st : h'.StaysIn h'' := fun b o e => x b o (Nat.ne_of_lt (Heap.lt_size e)) e
  exact cps ((q h'' st).mono (fun _ h t q => ⟨h, t, rfl, q⟩) fun _ _ _ e => e)
theorem append_ {a : Addr} {vs : List Value} {v : Value} {Q : Value → Heap → Nat → Prop} (j : Nat) (H : Led g ms h) (hj : ms[j]? = some (a, OList vs)) (hz : vs.length ≤ 100000)
    (q : ∀ h', Led g (ms.set j (a, OList (vs ++ [v]))) h' → Q .none h' t) : W c A (call (.builtin "list.append") [.ref a, v]) Q E h t := by
  obtain ⟨o, ho, n, rfl⟩ := H.at j hj
  refine .of (append_at (s := c.S h t) (hsz := by rw [List.size_toArray, sizeLine_eq]; omega) ho fun h' hs ho' => ⟨h', t, rfl, q h' (H.put j hj hs ⟨_, ho', n + 1, ?_⟩)⟩)
  simp
theorem call_meth {o : Expr} {name : Str} {apos : Pos} {id : String} {ov : Value} {e : Expr} {es : List Expr} {R : List Value → Prop} {Q : Value → Heap → Nat → Prop} {pl : Sem Bool}
    (H : Led g ms h) (ho : EvX c A env g ms o ov) (hm : ∀ (K : Value × List Value → Shared → Prop) (E : Value → Shared → Prop) h t, Led g ms h → K (.builtin id, [ov]) (c.S h t) → wpAny c.M A (getMethod ov name pl) K E (c.S h t))
    (ha : EvAs c A env g ms pos (e :: es) R) (hs : (e :: es).all noStar = true)
    (he : eval (.Call (.Attribute o name apos) (e :: es) [] pos) env = (do
      let ov ← eval o env
      standAt apos.atName
      let (f, first) ← holding [ov] (getMethod ov name pl)
      callWith pos f first (backTo pos (starEach (e :: es) env)) []))
    (k : ∀ vs h' t', Led g ms h' → R vs → W c A (call (.builtin id) (ov :: vs)) Q E h' t') :
    W c A (eval (.Call (.Attribute o name apos) (e :: es) [] pos) env) Q E h t := by
  refine .of (MethodCall_ (pl := pl) (cps (ho _ E h t H fun v h₁ t₁ H₁ q => ?_)) he)
  subst q
  refine hm _ _ h₁ t₁ H₁ ?_
  have hs1 : noStar e = true := by rw [List.all_cons, Bool.and_eq_true] at hs; exact hs.1
  have ha' := ha
  unfold EvAs at ha'
  refine callWith_builtin (anyStar hs) ?_
  rw [starEach_cons hs1, backTo_cons] at ha' ⊢
  exact evalArgs_plain (cps (ha' _ E h₁ t₁ H₁ fun vs h₂ t₂ H₂ r => (k vs h₂ t₂ H₂ r).to))
theorem Xs.append {o e : Expr} {apos cpos : Pos} {a : Addr} {vs : List Value} {P : Value → Prop} {Q : Flow → Heap → Nat → Prop} {pl : Sem Bool} (j : Nat) (H : Led g ms h) (ho : EvX c A env g ms o (.ref a)) (hj : ms[j]? = some (a, OList vs)) (hz : vs.length ≤ 100000)
    (he : EvV c A env g ms e P) (N : EnvN env ns)
    (q : ∀ v h' t', P v → Led g (ms.set j (a, OList (vs ++ [v]))) h' → Xs c A env rest Q E h' t') (hs : noStar e = true)
    (hee : eval (.Call (.Attribute o "append" apos) [e] [] cpos) env = (do
      let ov ← eval o env
      standAt apos.atName
      let (f, first) ← holding [ov] (getMethod ov "append" pl)
      callWith cpos f first (backTo cpos (starEach [e] env)) [])) : Xs c A env (.Expr (.Call (.Attribute o "append" apos) [e] [] cpos) pos :: rest) Q E h t :=
  Xs.expr (call_meth (id := "list.append") (pl := pl) H ho (fun K E h t H q => by
      obtain ⟨ob, ho, n, rfl⟩ := H.at j hj
      exact getMethod_list_append (s := c.S h t) ho rfl rfl q) (.cons he .nil hs) (by simp [hs]) hee fun vs' h' t' H' r => by
    obtain ⟨v, r, rfl, hp, rfl⟩ := r
    exact append_ j H' hj hz fun h'' H'' => ⟨fun a e => (nomatch e), q v h'' t' hp H''⟩) N rfl
theorem setItem_ {a : Addr} {vs : List Value} {v : Value} {i : Int} {n : Nat} {u : Tok} {Q : Unit → Heap → Nat → Prop} (j : Nat) (H : Led g ms h) (hj : ms[j]? = some (a, OSeq vs)) (hi : i = n) (hn : n < vs.length) (hz : vs.length ≤ 100000)
    (q : ∀ h', Led g (ms.set j (a, OSeq (vs.set n v))) h' → Q () h' t) : W c A (setItem (.ref a) (.int i u) v) Q E h t := by
  subst hi
  refine .of (wpAny_setItem_list (s := c.S h t) (isList_ofS (H.at j hj)) (by omega) (by omega) (by simpa using hn) fun h' hl hs => ⟨h', t, rfl, q h' (H.put j hj hs (of_isList ?_))⟩)
  have : vs.toArray.setIfInBounds n v = (vs.set n v).toArray := by simp
  rw [← this]
  simpa using hl
noncomputable def OMap (f : Int → Option Value) (n : Nat) (o : Obj) : Prop := o.ExactDict ∧ ∃ es ep, o.data = .dict es ep ∧ (∀ e ∈ es, ∃ k, Value.isInt k e.key = true ∧ e.hash = hashInt k) ∧ (∀ k, findBy Value.isInt es k = f k) ∧ es.size ≤ n
theorem mapOf_of {prog : Program} {w : World} {h : Heap} {a : Addr} {f : Int → Option Value} {n : Nat} (e : ∃ o, h.get? a = some o ∧ OMap f n o) : h.MapOf (intKind prog w) a f :=
  let ⟨o, h1, h2, es, ep, h3, h4, h5, _⟩ := e; ⟨o, es, ep, h1, h2, h3, h4, h5⟩
theorem dictGet_ {d : Addr} {f : Int → Option Value} {n : Nat} {k : Int} {u : Tok} {dflt : Value} {Q : Value → Heap → Nat → Prop} (j : Nat) (H : Led g ms h) (hj : ms[j]? = some (d, OMap f n)) (lo : (d == sysModules) = false)
    (q : Q ((f k).getD dflt) h (t + 1)) : W c A (call (.builtin "dict.get") [.ref d, .int k u, dflt]) Q E h t := by
  have M := mapOf_of (prog := c.prog) (w := c.w) (H.at j hj)
  exact .of (call_meetsIn PySem.F.slot_dict_get (Heap.MapOf.typeIs (s := c.S h t) M) PySem.F.entry_dict_get (PySem.F.args_dict_get_3 _ _ _) (meets_dict_get_default (intKind c.prog c.w) d (intKind_is _ _ k u) lo dflt) ⟨f, M, ⟨h, t + 1, rfl, q⟩⟩)
theorem dictSet_ {d : Addr} {f : Int → Option Value} {n : Nat} {k : Int} {u : Tok} {v : Value} {Q : Unit → Heap → Nat → Prop} (j : Nat) (H : Led g ms h) (hj : ms[j]? = some (d, OMap f n)) (hn : n ≤ 1000)
    (q : ∀ h', Led g (ms.set j (d, OMap (fun x => if x = k then some v else f x) (n + 1))) h' → Q () h' (t + 1)) : W c A (setItem (.ref d) (.int k u) v) Q E h t := by
  obtain ⟨o, ho, hx, es, ep, hd, hk, hf, hz⟩ := H.at j hj
  have M := mapOf_of (prog := c.prog) (w := c.w) (H.at j hj)
  have hkey : (intKind c.prog c.w).is k (.int k u) = true := intKind_is _ _ k u
  have hT := Heap.MapOf.typeIs (s := c.S h t) M
  refine .of ?_
  unfold setItem
  refine wpAny_holding (wpAny_bind (wpAny_sequenceKey hT (by decide) ?_))
  refine wpAny_bind (wpAny_callSpecial?_slot (name := Str.ofString "__setitem__") hT slot_dict_setitem (wpAny_call_entry slot_dict_setitem hT entry_dict_setitem ?_ (args_dict_setitem _ _ _)))
  show wpAny _ _ (Builtin.Dict.notOrdered "__setitem__" ⟨[.ref d, .int k u, v], []⟩ >>= _) _ _ (c.S h t)
  refine wpAny_bind (wpAny_notOrdered_dict hT ?_)
  show wpAny _ _ (dictSet d (.int k u) v >>= _) _ _ (c.S h t)
  refine wpAny_bind ?_
  have fin : ∀ (f' : Obj → Obj) (es' : Array DictEntry) (ep' : Nat), (f' o).ExactDict → (f' o).data = .dict es' ep' → (∀ e ∈ es', ∃ k, Value.isInt k e.key = true ∧ e.hash = hashInt k) → (∀ x, findBy Value.isInt es' x = if x = k then some v else f x) → es'.size ≤ n + 1 →
      ∃ h' t', c.S (h.update d f') (t + 1) = c.S h' t' ∧ Q () h' t' := by
    intro f' es' ep' a1 a2 a3 a4 a5
    refine ⟨_, _, rfl, q _ (H.put j hj (Heap.SameBut.update ..) ⟨f' o, Heap.get?_update_self _ ho (Obj.isFreed_of_dict a2), a1, es', ep', a2, a3, a4, a5⟩)⟩
  unfold dictSet
  refine wpAny_holding (wpAny_bind (wpAny_pyHash_int ?_))
  unfold dictSetHashed
  try with_reducible refine wpAny_holding ?_
  refine wpAny_bind (wpAny_dictFind_of (knd := intKind c.prog c.w) (s := c.S h (t + 1)) hkey ho hd hk ?_)
  cases hi : es.findIdx? fun e => (intKind c.prog c.w).is k e.key with
  | some i =>
    refine wpAny_bind (wpAny_rule (wpAny_bind (wpAny_updateDict (s := c.S h (t + 1)) ho hd (wpAny_point (wpAny_pure ⟨.none, rfl, wpAny_pure ?_⟩)))))
    refine fin _ _ _ (hx.mapDict _) (Obj.data_mapDict hd _) (KeysOf.modify (knd := intKind c.prog c.w) hk i v) (fun x => ?_) (by simp; omega)
    rw [findBy_modify Value.isInt Value.isInt_inj es k x v i hi, hf]
  | none =>
    refine wpAny_bind (wpAny_rule (wpAny_updateDictKeys (hz := by rw [sizeLine_eq]; omega) (s := c.S h (t + 1)) ho hd (wpAny_pure ⟨.none, rfl, wpAny_pure ?_⟩)))
    refine fin _ _ _ (hx.mapDictKeys _) (Obj.data_mapDictKeys hd _) (KeysOf.push (knd := intKind c.prog c.w) hk hkey v) (fun x => ?_) (by simp; omega)
    rw [findBy_push Value.isInt es k x (hashInt k) (.int k u) v (fun y => KeyKind.is_eq_decide (knd := intKind c.prog c.w) hkey y) hi, hf]
end
end
section
open Builtin Builtin.ObjectAttr Builtin.Getset_descriptor
inductive Attrs : List (Str × Value) → List DictEntry → Prop
  | nil : Attrs [] []
  | cons {x : Str} {v : Value} {l : List (Str × Value)} {es : List DictEntry} {hs : Int} {tk : Tok} (r : Attrs l es) : Attrs ((x, v) :: l) (⟨hs, .str x tk, v⟩ :: es)
theorem Attrs.len : ∀ {l es}, Attrs l es → es.length = l.length
  | _, _, .nil => rfl
  | _, _, .cons r => congrArg Nat.succ r.len
theorem Attrs.get (y : Str) : ∀ {l es}, Attrs l es → getL y es = some (l.lookup y)
  | _, _, .nil => rfl
  | _, _, .cons (x := x) (v := v) (l := l) (es := es) (hs := hs) (tk := tk) r => by
    have ih := r.get y
    unfold getL at ih ⊢
    rw [List.lookup_cons]
    by_cases h : y = x
    · subst h
      simp [Value.isStr]
    · have h' : (x == y) = false := beq_eq_false_iff_ne.mpr fun e => h e.symm
      have h2 : (y == x) = false := beq_eq_false_iff_ne.mpr h
      simp only [List.find?_cons, Value.isStr, h', h2, List.any_cons, DictEntry.refKey, Bool.false_or] at ih ⊢
      exact ih
theorem Attrs.put (y : Str) (hs : Int) (tk : Tok) (u : Value) : ∀ {l es}, Attrs l es → l.lookup y = none → Attrs (l ++ [(y, u)]) (putL y hs (.str y tk) u es)
  | _, _, .nil, _ => .cons .nil
  | _, _, .cons (x := x) (v := v) (l := l) (es := es) r, e => by
    rw [List.lookup_cons] at e
    by_cases h : y = x
    · subst h; simp at e
    · have h' : (x == y) = false := beq_eq_false_iff_ne.mpr fun e => h e.symm
      have h2 : (y == x) = false := beq_eq_false_iff_ne.mpr h
      simp only [h2] at e
      unfold putL
      simp only [Value.isStr, h', Bool.false_eq_true, if_false]
      exact .cons (r.put y hs tk u e)
noncomputable def OAttr (l : List (Str × Value)) (o : Obj) : Prop := ∃ es n, o = dictOf es n ∧ Attrs l es
section
variable {c : Cx} {A : Around} {env : Env} {g : Heap} {ms : List Entry} {ns : List (Str × NameKind)} {E : Value → Heap → Nat → Prop} {h : Heap} {t : Nat} {rest : List Stmt} {l la : List (Str × Value)} {pos p : Pos} {x : Str}
variable {K : Frag} {C x dx : Addr} {name : Str} {v : Value} {i j : Nat}
theorem inst_of {a b : Obj} {l : List (Str × Value)} {od : Obj} (hx : h.get? x = some (instObj C dx)) (hd : h.get? dx = some od) : InstAt h x (instObj C dx) C (some od) := ⟨hx, rfl, rfl, hd⟩
theorem getAttr_ {expr : Bool} {attr : Option Value} {Q : Value → Heap → Nat → Prop} (X : K.In h) (ex : h.get? x = some (instObj C dx)) (ed : ∃ o, h.get? dx = some o ∧ OAttr la o)
    (hg : plainGet K C name = true) (hh : hasDictIn K C = true) (ha : findIn K (.ref C) name = some attr) (hn : noGet K attr = true) (hl : la.lookup name = some v) (hv : handedIn v = true)
    (q : Q v h (t + 1)) : W c A (getAttr (.ref x) name expr) Q E h t := by
  obtain ⟨_, ed, es, n, rfl, hat⟩ := ed
  exact .of (get_value (s := c.S h t) X (⟨ex, rfl, rfl, ed⟩ : InstAt h x (instObj C dx) C (some (dictOf es n))) (plainGet_of hg).1 (findObj_own hh ha hn (by rw [lookIn_dict, hat.get, hl])) hv ⟨h, t + 1, rfl, q⟩)
theorem EvX.attr {e : Expr} {attr : Option Value} (he : EvX c A env g ms e (.ref x)) (X : K.In g) (hx : ∀ h, Led g ms h → h.get? x = some (instObj C dx) ∧ ∃ o, h.get? dx = some o ∧ OAttr la o)
    (hg : plainGet K C name = true) (hh : hasDictIn K C = true) (ha : findIn K (.ref C) name = some attr) (hn : noGet K attr = true) (hl : la.lookup name = some v) (hv : handedIn v = true)
    (hev : eval (.Attribute e name pos) env = (do
      let o ← eval e env
      standAt pos.atName
      let r ← holding [o] (getAttr o name true)
      letTemporaryGo e o r
      pure r)) : EvX c A env g ms (.Attribute e name pos) v := fun Q E h t H k =>
  .of (Attribute_any_ (cps (he _ E h t H fun u h₁ t₁ H₁ q => cps (by
    subst q
    exact getAttr_ (X.keeps H₁.base) (hx _ H₁).1 (hx _ H₁).2 hg hh ha hn hl hv ⟨h₁, t₁ + 1, rfl, k v h₁ _ H₁ rfl⟩))) hev)
theorem setAttr_ {Q : Unit → Heap → Nat → Prop} (H : Led g ms h) (X : K.In g) (hx : h.get? x = some (instObj C dx)) (hd : ms[j]? = some (dx, OAttr la))
    (hs : findIn K (.ref C) "__setattr__" = some (some (.builtin "object.__setattr__"))) (hp : plainOver K C = true) (ht : takerIn K C name = some none) (hh : hasDictIn K C = true) (hl : la.lookup name = none) (hz : la.length ≤ 100)
    (q : ∀ h', Led g (ms.set j (dx, OAttr (la ++ [(name, v)]))) h' → Q () h' (t + 2)) : W c A (setAttr (.ref x) name v) Q E h t := by
  obtain ⟨_, ed, es, n, rfl, hat⟩ := H.at j hd
  have X' := X.keeps H.base
  have I : InstAt h x (instObj C dx) C (some (dictOf es n)) := ⟨hx, rfl, rfl, ed⟩
  obtain ⟨cd, hc, hd'⟩ := any_some hh
  refine .of (set_plain (s := c.S h t) X' I hs (osa_open (s := c.S h (t + 1)) X' I hp ht fun b => ?_))
  refine wpAny_bind (wpAny_pure (wpAny_bind (wpAny_bind (wpAny_loadPart hx (wpAny_bind ((looks_clsIn X' hc).here ?_))))))
  rw [hd']
  refine wpAny_pure (a := some dx) (wpAny_bind (wpAny_pure (wpAny_bind ?_)))
  unfold nsSet
  refine wpAny_bind (wpAny_bind (wpAny_askSetting (wpAny_pure (wpAny_bind (wpAny_mkText (wpAny_bind (wpAny_loadPart ed ?_)))))))
  have hno : es.toArray.any (·.refKey) = false := by
    have := hat.get name
    unfold getL at this
    rw [hl] at this
    split at this
    · cases this
    · split at this
      · cases this
      · rename_i z; rw [Bool.not_eq_true] at z; simpa using z
  have cc : (!es.toArray.any (·.key.isStr name) && es.toArray.any (·.refKey)) = false := by rw [hno, Bool.and_false]
  dsimp only
  rw [aRefKeyMayBeTheName_at, cc]
  refine wpAny_updatePart ed ?_
  have D' : (h.update dx (Obj.putName name (PyData.keyHash c.w.params name) (.str name (t + 1)) v)).get? dx = some (dictOf (putL name (PyData.keyHash c.w.params name) (.str name (t + 1)) v es) (putN name es n)) := by
    rw [← putName_dict]
    exact Heap.get?_update_self _ ed (by rw [putName_dict]; rfl)
  have hat' := hat.put name (PyData.keyHash c.w.params name) (t + 1) v hl
  refine wpAny_bind (wpAny_lookBehind D' (pastItsLine_dict (by rw [List.size_toArray, sizeLine_eq, hat'.len, List.length_append, List.length_singleton]; omega)) ?_)
  exact wpAny_pure ⟨_, _, rfl, q _ (H.put j hd (Heap.SameBut.update ..) ⟨_, D', _, _, rfl, hat'⟩)⟩
end
end
section
section
variable {c : Cx} {A : Around} {env : Env} {g : Heap} {ms : List Entry} {ns : List (Str × NameKind)} {E : Value → Heap → Nat → Prop} {h : Heap} {t : Nat} {rest : List Stmt} {l la : List (Str × Value)} {pos p : Pos} {x : Str}
variable {K : Frag} {C x dx : Addr} {name : Str} {v : Value} {i j : Nat}
theorem callC {fa : Addr} {o : Obj} {fd : FuncData} {body : List Stmt} {vals : List Value} {binds : List (Str × Value)} {Q : Value → Heap → Nat → Prop} {n : Nat} (ms : List Entry) (cs : Addr → List (Str × Addr)) (ll : List (Str × Value)) (es : Addr → List Entry)
    (ho : h.get? fa = some o) (hd : o.data = .func fd) (hb : fd.body = .stmts body) (hns : fd.scope.names = ns) (hr : Room A (n + 1)) (hl : h.NoLimit) (hc : h.CodeRec fd.code fd.qualname) (hbind : bindArgs fd ⟨vals, []⟩ = pure binds)
    (hclo : fd.closure = []) (hcs : ∀ L, cellsFrom (L + 1) ns [] = cs L) (hkind : (binds.all fun y => ns.lookup y.1 == some .local || ns.lookup y.1 == some .cell) = true)
    (hll : ∀ y v, ll.lookup y = some v → bindL (fun x => ns.lookup x) binds (fun _ => none) y = some v)
    (hes : ∀ L, (cs L).map (fun p => ((p.2, OCell (bindC (fun x => ns.lookup x) binds (fun _ => none) p.1)) : Entry)) = es L) (hnd : ∀ L, ((cs L).map (·.1)).Nodup)
    (hk : fd.scope.kind = .function) (hco : fd.scope.isCoroutine = false) (hgen : fd.scope.isGenerator = false) (hg : fd.globals = mainGlobals) (hbu : fd.builtins = builtinsNs)
    (k : ∀ A' env h' t', Room A' n → EnvN env ns → env.cells = cs env.locals → Led h ((env.locals, OLoc ll) :: es env.locals) h' → Xs c A' env body (fun f h t => Q (flowVal f) h t) NoE h' t') :
    Mine.W c A (call (.ref fa) vals) Q E h t := by
  subst hns
  refine .of (wpAny_call (codeAny_call_cells (s := c.S h t) (fd := fd) (body := body) (binds := binds) hr.lim ho hd hl hc hb hbind hclo (kindsX hkind _) (fun s₁ x => ?_) hco hgen hk))
  obtain ⟨⟨⟨h₁, t₁, rfl⟩, hn, keep, lo⟩, cell, apart, above⟩ := x
  have eL : (callEnvC fd h.objs.size fa).locals = h.objs.size := rfl
  have eC : (callEnvC fd h.objs.size fa).cells = cs h.objs.size := hcs _
  have hko : (fun x => fd.scope.names.lookup x) = (callEnvC fd h.objs.size fa).kindOf := by funext x; rfl
  have hnone : ∀ b, h.objs.size ≤ b → h.get? b = none := fun b hb => by
    cases q : h.get? b with
    | none => rfl
    | some o => exact absurd (Heap.lt_size q) (Nat.not_lt.mpr hb)
  have H : Led h (((callEnvC fd h.objs.size fa).locals, OLoc ll) :: es (callEnvC fd h.objs.size fa).locals) h₁ := by
    refine ⟨fun b o e => keep b o e, fun p hp => ?_, ?_⟩
    · rcases List.mem_cons.mp hp with rfl | hp
      · exact ⟨hnone _ (Nat.le_refl _), of_ns hn fun y v e => by rw [← hko]; exact hll y v e⟩
      · rw [← hes] at hp
        obtain ⟨q, hq, rfl⟩ := List.mem_map.mp hp
        rw [eL, ← eC] at hq
        have ab := above q.1 q.2 hq
        refine ⟨hnone _ (Nat.le_of_lt ab), ?_⟩
        have hlk : (callEnvC fd h.objs.size fa).cells.lookup q.1 = some q.2 := by
          rw [eC] at hq ⊢
          have := hnd h.objs.size
          revert hq this
          generalize cs h.objs.size = z
          intro hq hn
          induction z with
          | nil => cases hq
          | cons a r ih =>
            rw [List.map_cons, List.nodup_cons] at hn
            rw [List.lookup_cons]
            rcases List.mem_cons.mp hq with e | hq
            · rw [e]; simp
            · have : q.1 ≠ a.1 := fun e => hn.1 (e ▸ List.mem_map_of_mem hq)
              simp only [beq_eq_false_iff_ne.mpr this]
              exact ih hq hn.2
        obtain ⟨o, h1, h2⟩ := cell q.1 q.2 hlk
        rw [← hko] at h2
        exact ⟨o, h1, h2⟩
    · rw [← hes, List.map_cons, List.map_map, List.nodup_cons]
      rw [eC] at apart above
      refine ⟨fun hm => ?_, ?_⟩
      · obtain ⟨q, hq, e⟩ := List.mem_map.mp hm
        have ab := above q.1 q.2 hq
        have e' : q.2 = h.objs.size := e
        rw [e'] at ab
        exact absurd ab (Nat.lt_irrefl _)
      · rw [List.nodup_iff_pairwise_ne, List.pairwise_map]
        exact apart.imp fun h => h
  refine cpsN ((k (A.deeper (callEnvC fd h.objs.size fa)) (callEnvC fd h.objs.size fa) h₁ _ hr.deeper ⟨hk, hg, hbu, rfl⟩ eC H).mono (fun f h' t' q => ?_) fun _ _ _ x => x)
  cases f <;> exact ⟨h', t', rfl, q⟩
noncomputable def Inst (g : Heap) (ms : List Entry) (C x dx : Addr) (la : List (Str × Value)) : Prop := ∀ h, Led g ms h → h.get? x = some (instObj C dx) ∧ ∃ o, h.get? dx = some o ∧ OAttr la o
theorem Inst.of (i j : Nat) (hi : ms[i]? = some (x, OIs (instObj C dx))) (hj : ms[j]? = some (dx, OAttr la)) : Inst g ms C x dx la := fun h H => by
  obtain ⟨o, a, b⟩ := H.at i hi
  have b : o = instObj C dx := b
  subst b
  exact ⟨a, H.at j hj⟩
theorem Inst.ofG (hi : g.get? x = some (instObj C dx)) (hj : ∃ o, g.get? dx = some o ∧ OAttr la o) : Inst g ms C x dx la := fun h H => by
  obtain ⟨o, a, b⟩ := hj
  exact ⟨H.base _ _ hi, o, H.base _ _ a, b⟩
theorem call_own {o : Expr} {apos : Pos} {f : Addr} {e : Expr} {es : List Expr} {R : List Value → Prop} {Q : Value → Heap → Nat → Prop} {pl : Sem Bool}
    (H : Led g ms h) (ho : EvX c A env g ms o (.ref x)) (X : K.In g) (hx : Inst g ms C x dx la) (hg : plainGet K C name = true) (hf : findIn K (.ref C) name = some (some (.ref f))) (ht : isFn K (.ref f) = true) (hl : la.lookup name = none) (fo : FnAt g f)
    (ha : EvAs c A env g ms pos (e :: es) R) (hs : (e :: es).all noStar = true)
    (he : eval (.Call (.Attribute o name apos) (e :: es) [] pos) env = (do
      let ov ← eval o env
      standAt apos.atName
      let (f, first) ← holding [ov] (getMethod ov name pl)
      callWith pos f first (backTo pos (starEach (e :: es) env)) []))
    (k : ∀ vs h' t', Led g ms h' → R vs → W c A (call (.ref f) (.ref x :: vs)) Q E h' t') :
    W c A (eval (.Call (.Attribute o name apos) (e :: es) [] pos) env) Q E h t := by
  refine .of (MethodCall_ (pl := pl) (cps (ho _ E h t H fun v h₁ t₁ H₁ q => ?_)) he)
  subst q
  obtain ⟨ex, _, ed, es', n, rfl, hat⟩ := hx h₁ H₁
  refine method_fn (s := c.S h₁ t₁) (X.keeps H₁.base) (⟨ex, rfl, rfl, ed⟩ : InstAt h₁ x (instObj C dx) C (some (dictOf es' n))) (plainGet_of hg).1 (plainGet_of hg).2 hf (beq_iff_eq.mp ht) (by show (lookIn name (dictOf es' n)).map _ = _; rw [lookIn_dict, hat.get, hl]; rfl) ?_
  obtain ⟨o', fd, ho', hd⟩ := fo
  have hs1 : noStar e = true := by rw [List.all_cons, Bool.and_eq_true] at hs; exact hs.1
  have ha' := ha
  unfold EvAs at ha'
  refine callWith_function (o := o') (fd := fd) ?_
  rw [starEach_cons hs1, backTo_cons] at ha' ⊢
  exact evalArgs_plain (cps (ha' _ E h₁ t₁ H₁ fun vs h₂ t₂ H₂ r => ⟨⟨H₂.base _ _ ho', hd⟩, (k vs h₂ t₂ H₂ r).to⟩))
theorem call_cls {id : Str} {e : Expr} {es : List Expr} {R : List Value → Prop} {Q : Value → Heap → Nat → Prop} {fI : Addr}
    (H : Led g ms h) (X : K.In g) (hf : EvX c A env g ms (.Name id p) (.ref C)) (hk : keepIn K (.ref C) = true) (ha : EvAs c A env g ms pos (e :: es) R) (hs : (e :: es).all noStar = true)
    (hm : makesIn K C = true) (hi : findIn K (.ref C) "__init__" = some (some (.ref fI))) (hif : isFn K (.ref fI) = true)
    (k : ∀ vs x dx h' t', R vs → Led g ((x, OIs (instObj C dx)) :: (dx, OAttr []) :: ms) h' → 
      codeAny c.M (A.under (.builtin "type.__call__" ⟨.ref C :: vs, []⟩)) (.call (.ref fI) ⟨.ref x :: vs, []⟩) (Back c (fun v h t => v = .none ∧ Q (.ref x) h t) E) (c.S h' t')) :
    W c A (eval (.Call (.Name id p) (e :: es) [] pos) env) Q E h t := by
  refine .of (wpAny_Call_Name_kw (cps (hf _ E h t H fun v h₁ t₁ H₁ q => ?_)))
  subst q
  have hs1 : noStar e = true := by rw [List.all_cons, Bool.and_eq_true] at hs; exact hs.1
  have ha' := ha
  unfold EvAs at ha'
  refine callWith_of (P := fun h => K.In h) (by show ((backTo pos (starEach (e :: es) env)).any (·.1) || false) = false; rw [anyStar hs]; rfl) (keeps_K hk) ?_
  rw [starEach_cons hs1, backTo_cons] at ha' ⊢
  refine evalArgs_plain (cps (ha' _ E h₁ t₁ H₁ fun vs h₂ t₂ H₂ r => ⟨X.keeps H₂.base, ?_⟩))
  have X2 := X.keeps H₂.base
  refine wpAny_call (make_core (makes_of X2 hm) (looks_findIn X2 hi) (fun self => bind_fn X2 self (beq_iff_eq.mp hif)) (.inl rfl) (codeAny_mono (k vs (h₂.objs.size + 1) h₂.objs.size _ t₂ r ?_) fun r s' z => ?_))
  · have H3 := (H₂.push (P := OAttr []) emptyDict rfl ⟨[], 0, rfl, .nil⟩).push (P := OIs (instObj C h₂.objs.size)) (instObj C h₂.objs.size) rfl rfl
    rwa [Heap.size_push] at H3
  · rcases r with e | f
    · exact z
    · cases f with
      | ret v =>
        obtain ⟨h', t', rfl, rfl, z⟩ := z
        exact ⟨rfl, h', t', rfl, z⟩
      | _ => exact (show False from z).elim
end
end
section
structure Turns (c : Cx) (A : Around) (target : Expr) (I : Addr) (fp : List Addr) (n : Nat) (P : Nat → Value → Prop) (St : Nat → Heap → Prop) : Prop where
  walks : Walks c.prog c.w A I fp [I] n P St
  alive : ∀ i h, St i h → ∀ b ∈ fp, ∃ o, h.get? b = some o
  go : ∀ i (s : Shared) v (Q : Unit → Shared → Prop) (E : Value → Shared → Prop), St i s.heap → Q () s → wpAny c.M A (letOwnedTupleGo target (.ref I) v) Q E s
noncomputable def IterOk (c : Cx) (A : Around) (target : Expr) (g : Heap) (ms : List Entry) (n : Nat) (P : Nat → Value → Prop) (it : Value) (h : Heap) : Prop :=
  ∃ I fp St, it = .ref I ∧ Turns c A target I fp n P St ∧ St 0 h ∧ (∀ b ∈ fp, b ∉ ms.map (·.1)) ∧ g.get? I = none
section
variable {c : Cx} {A : Around} {env : Env} {g : Heap} {ms : List Entry} {ns : List (Str × NameKind)} {E : Value → Heap → Nat → Prop} {h : Heap} {t : Nat} {rest : List Stmt} {l la : List (Str × Value)} {pos p : Pos} {x : Str}
theorem Led.turn {h' : Heap} {a : Addr} (H : Led g ms h) (hg : g.get? a = none) (hm : a ∉ ms.map (·.1)) (k : ∀ b o, b ≠ a → h.get? b = some o → h'.get? b = some o) : Led g ms h' :=
  ⟨fun b o e => k b o (fun q => by rw [q, hg] at e; cases e) (H.base b o e), fun q hq => ⟨(H.own q hq).1, let ⟨o, h1, h2⟩ := (H.own q hq).2; ⟨o, k _ _ (fun e => hm (e ▸ List.mem_map_of_mem hq)) h1, h2⟩⟩, H.nd⟩
noncomputable def FPost (c : Cx) (A : Around) (env : Env) (rest : List Stmt) (Q : Flow → Heap → Nat → Prop) (E : Value → Heap → Nat → Prop) (J : Nat → List Entry → Prop) (i : Nat) (g' : Heap) : Flow → Heap → Nat → Prop := fun f h t => match f with
  | .next | .cont => ∃ ms', J (i + 1) ms' ∧ Led g' ms' h
  | .brk => Xs c A env rest Q E h t
  | .ret v => Q (.ret v) h t
theorem Xs.forE {target iter : Expr} {body : List Stmt} {n : Nat} {P : Nat → Value → Prop} {Q : Flow → Heap → Nat → Prop} (J : Nat → List Entry → Prop) (Eb : Value → Heap → Nat → Prop)
    (he : W c A (eval iter env) (fun x h₁ t₁ => W c A (pyIter x) (fun it h₂ t₂ => ∃ ms, J 0 ms ∧ Led g ms h₂ ∧ IterOk c A target g ms n P it h₂) E h₁ t₁) E h t)
    (turn : ∀ i g' ms v h t, i < n → g.StaysIn g' → J i ms → P i v → Led g' ms h → W c A (PySem.assign target env v) (fun _ h' t' => Xs c A env body (FPost c A env rest Q E J i g') Eb h' t') Eb h t)
    (fin : ∀ ms h t, J n ms → Led g ms h → Xs c A env rest Q E h t)
    (hE : ∀ e s', c.E Eb e s' → notedBy c.M A env (cameBackBy c.M A env (c.E E)) e s')
    (hs : ∀ x, foldedSetIterable iter env x = pure x) : Xs c A env (.For target iter body [] pos :: rest) Q E h t := by
  refine Xs.cons (.of (wpAny_For (cps (he.mono (fun x h₁ t₁ q => cps (q.mono (fun it h₂ t₂ q => ?_) fun _ _ _ e => e)) fun _ _ _ e => e)) hs))
  obtain ⟨ms, j, H, I, fp, St, rfl, T, st, hfp, hI⟩ := q
  refine codeAny_forLoop_any (R := fun r s' => match r with
    | .ok f => ∃ h' t', s' = c.S h' t' ∧ (match f with | .next => Xs c A env rest Q E h' t' | f => Q f h' t')
    | .error e => cameBackBy c.M A env (c.E E) e s') (fun k s => ∃ i ms h t, s = c.S h t ∧ k = n - i ∧ i ≤ n ∧ J i ms ∧ Led g ms h ∧ St i h ∧ ∀ b ∈ fp, b ∉ ms.map (·.1)) ?_ n ⟨0, ms, h₂, t₂, rfl, rfl, Nat.zero_le _, j, H, st, hfp⟩
  rintro k _ ⟨i, ms, h, t, rfl, rfl, hi, j, H, st, hfp⟩
  rcases Nat.lt_or_ge i n with hlt | hge
  · refine T.walks.item i (c.S h t) _ _ hlt st fun v h₃ t₃ pv st₃ k₃ => ?_
    have H₃ : Led g ms h₃ := H.turn hI (hfp I (T.walks.sub I (by simp))) fun b o hb e => k₃ b o (by simpa using hb) e
    refine T.go (i + 1) (c.S h₃ t₃) v _ _ st₃ ?_
    obtain ⟨g', hg, H', keep⟩ := H₃.freeze ms (fun _ x => x) H₃.nd
    have hfpg : ∀ b ∈ fp, ∀ o, h₃.get? b = some o → g'.get? b = some o := fun b hb o e => keep b o e (hfp b hb)
    refine wpAny_mono (cps ((turn i g' ms v h₃ t₃ hlt hg j pv H').mono (fun _ h₄ t₄ q => cps (q.mono (fun f h₅ t₅ q => ?_) fun _ _ _ e => e)) fun _ _ _ e => e)) (fun _ _ x => wpAny_mono x (fun _ _ x => x) hE) hE
    have nx : (∃ ms', J (i + 1) ms' ∧ Led g' ms' h₅) → ∃ m, m < n - i ∧ ∃ i ms h t, c.S h₅ t₅ = c.S h t ∧ m = n - i ∧ i ≤ n ∧ J i ms ∧ Led g ms h ∧ St i h ∧ ∀ b ∈ fp, b ∉ ms.map (·.1) := by
      rintro ⟨ms', j', H₅⟩
      refine ⟨n - (i + 1), by omega, i + 1, ms', h₅, t₅, rfl, rfl, hlt, j', H₅.stays hg, T.walks.frame _ _ _ st₃ fun b hb o e => H₅.base b o (hfpg b hb o e), fun b hb hm => ?_⟩
      obtain ⟨o, e⟩ := T.alive _ _ st₃ b hb
      have := H₅.offm hm
      rw [hfpg b hb o e] at this; cases this
    cases f with
    | next => exact nx q
    | cont => exact nx q
    | brk => exact ⟨h₅, t₅, rfl, q⟩
    | ret v => exact ⟨h₅, t₅, rfl, q⟩
  · have : i = n := by omega
    subst this
    refine T.walks.done (c.S h t) _ _ st fun h₃ t₃ k₃ => ?_
    have H₃ : Led g ms h₃ := H.turn hI (hfp I (T.walks.sub I (by simp))) fun b o hb e => k₃ b o (by simpa using hb) e
    exact wpAny_execs_nil ⟨h₃, t₃, rfl, fin ms h₃ t₃ j H₃⟩
theorem Xs.for {target iter : Expr} {body : List Stmt} {n : Nat} {P : Nat → Value → Prop} {Q : Flow → Heap → Nat → Prop} (J : Nat → List Entry → Prop)
    (he : W c A (eval iter env) (fun x h₁ t₁ => W c A (pyIter x) (fun it h₂ t₂ => ∃ ms, J 0 ms ∧ Led g ms h₂ ∧ IterOk c A target g ms n P it h₂) E h₁ t₁) E h t)
    (turn : ∀ i g' ms v h t, i < n → g.StaysIn g' → J i ms → P i v → Led g' ms h → W c A (PySem.assign target env v) (fun _ h' t' => Xs c A env body (FPost c A env rest Q E J i g') NoE h' t') NoE h t)
    (fin : ∀ ms h t, J n ms → Led g ms h → Xs c A env rest Q E h t)
    (hs : ∀ x, foldedSetIterable iter env x = pure x) : Xs c A env (.For target iter body [] pos :: rest) Q E h t :=
  Xs.forE J NoE he turn fin (fun _ _ ⟨_, _, _, f⟩ => f.elim) hs
theorem iter_list {a : Addr} {vs : List Value} {target : Expr} {Q : Value → Heap → Nat → Prop} (hA : A.handled = none) (H : Led g ms h) (hl : h.IsList a vs.toArray) (hn : a ∉ ms.map (·.1))
    (q : ∀ it h' t', Led g ms h' → IterOk c A target g ms vs.length (fun i v => vs[i]? = some v) it h' → Q it h' t') : W c A (pyIter (.ref a)) Q E h t := by
  refine .of (wpAny_pyIter_list (s := c.S h t) hl ⟨_, t, rfl, q _ _ t (H.push_drop _) ?_⟩)
  have ha : a ≠ h.objs.size := by obtain ⟨o, e, _⟩ := hl; exact Nat.ne_of_lt (Heap.lt_size e)
  refine ⟨h.objs.size, [h.objs.size, a], fun i h' => h'.IsListIter h.objs.size a i ∧ h'.IsList a vs.toArray, rfl, ⟨(by simpa using Walks.list hA h.objs.size a ha vs.toArray), fun i h st b hb => ?_, fun i s v Q E st q => letGo_listiter st.1 q⟩, ⟨⟨_, Heap.get?_push_size _ rfl, rfl, rfl⟩, hl.push _⟩, fun b hb hm => ?_, Heap.StaysIn.fresh H.base⟩
  · simp only [List.mem_cons, List.not_mem_nil, or_false] at hb
    obtain ⟨⟨o, e, _⟩, o', e', _⟩ := st
    rcases hb with rfl | rfl
    · exact ⟨o, e⟩
    · exact ⟨o', e'⟩
  · simp only [List.mem_cons, List.not_mem_nil, or_false] at hb
    rcases hb with rfl | rfl
    · obtain ⟨o, e⟩ := H.alive hm
      exact absurd (Heap.lt_size e) (Nat.lt_irrefl _)
    · exact hn hm
theorem iter_tup {a : Addr} {vs : List Value} {target : Expr} {Q : Value → Heap → Nat → Prop} (hA : A.handled = none) (H : Led g ms h) (hl : IsTup h a vs.toArray) (hn : a ∉ ms.map (·.1))
    (q : ∀ it h' t', Led g ms h' → IterOk c A target g ms vs.length (fun i v => vs[i]? = some v) it h' → Q it h' t') : W c A (pyIter (.ref a)) Q E h t := by
  have hl' : h.IsTuple a vs.toArray := hl
  refine .of (wpAny_pyIter_tuple (s := c.S h t) hl' ⟨_, t, rfl, q _ _ t (H.push_drop _) ?_⟩)
  have ha : a ≠ h.objs.size := by obtain ⟨o, e, _⟩ := hl; exact Nat.ne_of_lt (Heap.lt_size e)
  refine ⟨h.objs.size, [h.objs.size, a], fun i h' => h'.IsTupleIter h.objs.size a i ∧ h'.IsTuple a vs.toArray, rfl, ⟨(by simpa using Walks.tuple hA h.objs.size a ha vs.toArray), fun i h st b hb => ?_, fun i s v Q E st q => letGo_tupleiter st.1 q⟩, ⟨⟨_, Heap.get?_push_size _ rfl, rfl, rfl⟩, hl'.push _⟩, fun b hb hm => ?_, Heap.StaysIn.fresh H.base⟩
  · simp only [List.mem_cons, List.not_mem_nil, or_false] at hb
    obtain ⟨⟨o, e, _⟩, o', e', _⟩ := st
    rcases hb with rfl | rfl
    · exact ⟨o, e⟩
    · exact ⟨o', e'⟩
  · simp only [List.mem_cons, List.not_mem_nil, or_false] at hb
    rcases hb with rfl | rfl
    · obtain ⟨o, e⟩ := H.alive hm
      exact absurd (Heap.lt_size e) (Nat.lt_irrefl _)
    · exact hn hm
theorem iter_range {r : Addr} {a b s : Int} {u₁ u₂ u₃ : Tok} {m : Nat} {y : Str} {Q : Value → Heap → Nat → Prop} (hA : A.handled = none) (H : Led g ms h) (hr : IsRange h r a b s u₁ u₂ u₃) (hsm : Builtin.Range.small a b s = true) (hm : Builtin.Range.rangeSize a b s = m)
    (q : ∀ it h' t', Led g ms h' → IterOk c A (.Name y p) g ms m (fun i v => IsI (a + i * s) v) it h' → Q it h' t') : W c A (pyIter (.ref r)) Q E h t := by
  refine .of (wpAny_pyIter_range (s := c.S h t) hr hsm ⟨_, t, rfl, q _ _ t (H.push_drop _) ?_⟩)
  refine ⟨h.objs.size, [h.objs.size], _, rfl, ⟨Walks.range hA h.objs.size a s m, fun i h st b hb => ?_, fun i s v Q E st q => wpAny_pure q⟩, ?_, fun b hb hm => ?_, Heap.StaysIn.fresh H.base⟩
  · rw [List.mem_singleton] at hb; subst hb; exact ⟨_, st⟩
  · rw [hm]
    have e1 : a + ((0 : Nat) : Int) * s = a := by simp
    have e2 : (m : Int) - ((0 : Nat) : Int) = m := by simp
    rw [e1, e2]
    exact Heap.get?_push_size _ rfl
  · rw [List.mem_singleton] at hb; subst hb
    obtain ⟨o, e⟩ := H.alive hm
    exact absurd (Heap.lt_size e) (Nat.lt_irrefl _)
end
end
section
noncomputable def clOf (cells : List (Str × Addr)) : List (Str × NameKind) → List (Str × Addr) → Option (List (Str × Addr))
  | [], acc => some acc
  | (n, k) :: r, acc => if k == .free then match cells.lookup n with
    | some a => clOf cells r ((n, a) :: acc)
    | none => none
    else clOf cells r acc
theorem closureFor_of {scope : Scope} {env : Env} {cl : List (Str × Addr)} (h : clOf env.cells scope.names [] = some cl) : closureFor scope env = pure cl := by
  unfold closureFor
  have key : ∀ (names : List (Str × NameKind)) (acc : List (Str × Addr)), clOf env.cells names acc = some cl →
      (forIn names acc fun x r => match x with
        | (name, kind) => if (kind == .free) = true then do let a ← cellOf env name; pure (ForInStep.yield ((name, a) :: r)) else pure (ForInStep.yield r) : Sem (List (Str × Addr))) = pure cl := by
    intro names
    induction names with
    | nil => intro acc e; cases e; rfl
    | cons x r ih =>
      obtain ⟨n, k⟩ := x
      intro acc e
      rw [List.forIn_cons]
      unfold clOf at e
      dsimp only
      split at e
      · rename_i hk
        rw [if_pos hk]
        split at e
        · rename_i a ha
          have : cellOf env n = pure a := by unfold cellOf; rw [ha]
          rw [this]
          exact ih _ e
        · cases e
      · rename_i hk
        rw [if_neg hk]
        exact ih _ e
  exact (congrArg (fun (m : Sem (List (Str × Addr))) => m >>= fun cs => pure cs) (key _ _ h)).trans rfl
noncomputable def relabelN (names ns : List (Str × NameKind)) : List (Str × NameKind) := names.map fun (n, k) => if (k == .free && ns.lookup n == some .cell) then (n, .cell) else (n, k)
section
variable {c : Cx} {A : Around} {env : Env} {g : Heap} {ms : List Entry} {ns : List (Str × NameKind)} {E : Value → Heap → Nat → Prop} {h : Heap} {t : Nat} {rest : List Stmt} {l la : List (Str × Value)} {pos p : Pos} {x : Str}
theorem EnvN.comp {scope : Scope} {cl : List (Str × Addr)} {C : Addr} (N : EnvN env ns) (hk : scope.kind = .function) : EnvN (compEnvC scope cl C env) (relabelN scope.names ns) := by
  refine ⟨hk, N.glob, N.blt, ?_⟩
  show (relabel scope env).names = _
  unfold relabel relabelN
  refine List.map_congr_left fun x _ => ?_
  obtain ⟨n, k⟩ := x
  have : env.kindOf n = ns.lookup n := by unfold Env.kindOf; rw [N.names]
  simp only [N.kind, this, beq_self_eq_true, Bool.and_true]
noncomputable def tests (ifs : List Expr) (env : Env) : Sem Bool := forIn ifs true fun c r => if r = true then do let ok ← isTrue c env (eval c env); pure (ForInStep.yield ok) else pure (ForInStep.yield r)
theorem tests_nil {Q : Bool → Heap → Nat → Prop} (q : Q true h t) : W c A (tests [] env) Q E h t := .of (wpAny_tests_nil ⟨h, t, rfl, q⟩)
theorem tests_one {e : Expr} {b : Bool} {Q : Bool → Heap → Nat → Prop} (H : Led g ms h) (he : Tst c A env g ms e b) (q : ∀ h' t', Led g ms h' → Q b h' t') : W c A (tests [e] env) Q E h t :=
  .of (wpAny_tests_one (cps (he _ E h t H fun h' t' H' => ⟨h', t', rfl, q h' t' H'⟩)))
theorem comp_core {elt iter : Expr} {px : Pos} {ifs : List Expr} {scope : Scope} {cl : List (Str × Addr)} {n : Nat} {P : Nat → Value → Prop} {use : Option (Value → Sem Unit)} {fip : Pos} {Q : Value → Heap → Nat → Prop} (J : Nat → List Value → List Entry → Prop)
    (hcl : clOf env.cells scope.names [] = some cl) (hcell : ∀ y ∈ scope.names, y.2 ≠ .cell) (hk : scope.kind = .function) (hnames : ∀ y ∈ scope.names, y.2 = .local → scope.names.lookup y.1 = some .local)
    (hx : scope.names.lookup x = some .local) (N : EnvN env ns) (hz : n ≤ 1000)
    (he : W c A (eval iter env) (fun xv h₁ t₁ => W c A (pyIter xv) (fun it h₂ t₂ => ∃ ms, J 0 [] ms ∧ Led g ms h₂ ∧ IterOk c A (.Name x px) g ms n P it h₂) E h₁ t₁) E h t)
    (turn : ∀ i ys g' ms v h t C cenv, cenv = compEnvC scope cl C env → EnvN cenv (relabelN scope.names ns) → i < n → g.StaysIn g' → J i ys ms → P i v → Led g' ((cenv.locals, OLoc [(x, v)]) :: ms) h →
      W c A (tests ifs cenv) (fun b h' t' => ∃ ms', Led g' ((cenv.locals, OLoc [(x, v)]) :: ms') h' ∧
        (b = true → W c A (eval elt cenv) (fun y h'' t'' => ∃ ms'', Led g' ((cenv.locals, OLoc []) :: ms'') h'' ∧ J (i + 1) (ys ++ [y]) ms'') NoE h' t') ∧ (b = false → J (i + 1) ys ms')) NoE h t)
    (fin : ∀ ys ms C D h t, J n ys ms → ys.length ≤ n → Led g ((C, OLoc []) :: (D, OList ys) :: ms) h → 
      compPost c.M A (c.E E) use (fun v s => ∃ h t, s = c.S h t ∧ Q v h t) (.ref D) C (.ok .next) (c.S h t))
    (hs : ∀ x, foldedSetIterable iter env x = pure x) :
    W c A (comprehension (.ListComp elt [⟨.Name x px, iter, ifs, 0⟩] scope pos) scope env fip (newList []) false (eval iter env) use) Q E h t := by
  refine .of (wpAny_comprehension_free rfl hs (closureFor_of hcl) hk hnames (cps (he.mono (fun xv h₁ t₁ q => cps (q.mono (fun it h₂ t₂ q => ?_) fun _ _ _ e => e)) fun _ _ _ e => e)))
  obtain ⟨ms, j, H, I, fp, St, rfl, T, st, hfp, hI⟩ := q
  refine wpAny_newObj_type (s := c.S h₂ t₂) (wpAny_newFunctionEnv hcell (by intro y hy; simp at hy) (fun h₁ hns₁ hsb₁ => ?_) hk)
  dsimp only at hns₁ hsb₁ ⊢
  have HD : Led g ((h₂.objs.size, OList []) :: ms) (h₂.push { cls := .type "list", dict := none, data := .seq ([] : List Value).toArray }) := H.push _ rfl ⟨0, rfl⟩
  have dI : ∀ b ∈ fp, b ∉ ((h₂.objs.size, OList []) :: ms).map (·.1) := fun b hb hm => by
    rw [List.map_cons, List.mem_cons] at hm
    rcases hm with e | hm
    · obtain ⟨o, e'⟩ := T.alive _ _ st b hb
      exact absurd (Heap.lt_size e') (e ▸ Nat.lt_irrefl _)
    · exact hfp b hb hm
  have st' : St 0 (h₂.push { cls := .type "list", dict := none, data := .seq ([] : List Value).toArray }) := T.walks.frame _ _ _ st fun b _ o e => Heap.get?_push_of_some _ e
  generalize hH2 : h₂.push { cls := .type "list", dict := none, data := .seq ([] : List Value).toArray } = H2 at hns₁ hsb₁ HD st' ⊢
  generalize h₂.objs.size = D at HD dI ⊢
  have HC : Led g ((H2.objs.size, OLoc []) :: (D, OList []) :: ms) h₁ := by
    have := HD.push (P := OLoc []) { cls := .type (if (some env).isSome = true then "dict" else "frame"), data := .dict #[] } rfl (by
      obtain ⟨o, h1, h2⟩ := of_ns (l := []) (Heap.Ns.new H2 (.type (if (some env).isSome = true then "dict" else "frame"))) (fun _ _ e => nomatch e)
      rw [Heap.get?_push_size _ rfl] at h1
      cases h1; exact h2)
    exact this.put 0 rfl hsb₁ (of_ns hns₁ fun _ _ e => nomatch e)
  have dC : ∀ b ∈ fp, b ∉ ((H2.objs.size, OLoc []) :: (D, OList []) :: ms).map (·.1) := fun b hb hm => by
    rw [List.map_cons, List.mem_cons] at hm
    rcases hm with e | hm
    · obtain ⟨o, e'⟩ := T.alive _ _ st' b hb
      exact absurd (Heap.lt_size e') (e ▸ Nat.lt_irrefl _)
    · exact dI b hb hm
  have st₁ : St 0 h₁ := T.walks.frame _ _ _ st' fun b hb o e => hsb₁.extBut b o (fun q => by rw [q] at e; exact absurd (Heap.lt_size e) (Nat.lt_irrefl _)) (Heap.get?_push_of_some _ e)
  generalize H2.objs.size = C at HC dC ⊢
  have Nc : EnvN (compEnvC scope cl C env) (relabelN scope.names ns) := N.comp hk
  have loop : ∀ s₃ : Shared, s₃ = c.S h₁ (t₂ + ([] : List (Str × Value)).length) →
      codeAny c.M A (.compLoop (.ListComp elt [⟨.Name x px, iter, ifs, 0⟩] scope pos) 0 (.ref I) (.ref D) (compEnvC scope cl C env))
        (compPost c.M A (c.E E) use (fun v s => ∃ h t, s = c.S h t ∧ Q v h t) (.ref D) C) s₃ := by
    rintro s₃ rfl
    refine codeAny_compLoop_tests (fun k s => ∃ i ys ms h t, s = c.S h t ∧ k = n - i ∧ i ≤ n ∧ ys.length ≤ i ∧ J i ys ms ∧ Led g ((C, OLoc []) :: (D, OList ys) :: ms) h ∧ St i h ∧ ∀ b ∈ fp, b ∉ ((C, OLoc []) :: (D, OList ys) :: ms).map (·.1)) ?_ n
      ⟨0, [], ms, h₁, t₂, rfl, rfl, Nat.zero_le _, Nat.zero_le _, j, HC, st₁, dC⟩ (fun _ => rfl)
    clear HC dC st₁ st' dI HD hsb₁ hns₁ j H st hfp hH2
    rintro k _ ⟨i, ys, ms, h, t, rfl, rfl, hi, hy, j, H, st, hfp⟩
    rcases Nat.lt_or_ge i n with hlt | hge
    · refine T.walks.item i (c.S h t) _ _ hlt st fun v h₃ t₃ pv st₃ k₃ => ?_
      have H₃ : Led g ((C, OLoc []) :: (D, OList ys) :: ms) h₃ := H.turn hI (hfp I (T.walks.sub I (by simp))) fun b o hb e => k₃ b o (by simpa using hb) e
      have HCn : C ∉ ((D, OList ys) :: ms).map (·.1) := (List.nodup_cons.mp H₃.nd).1
      have HDn : D ∉ ms.map (·.1) := (List.nodup_cons.mp (List.nodup_cons.mp H₃.nd).2).1
      obtain ⟨g', hg, H', keep⟩ := H₃.freeze ((C, OLoc []) :: ms) (fun q hq => by simp only [List.mem_cons] at hq ⊢; rcases hq with e | e <;> simp [e]) (by
        rw [List.map_cons, List.nodup_cons]
        exact ⟨fun hm => HCn (by rw [List.map_cons]; exact List.mem_cons_of_mem _ hm), (List.nodup_cons.mp (List.nodup_cons.mp H₃.nd).2).2⟩)
      have hm0 : ∀ b, b ∉ ((C, OLoc []) :: (D, OList ys) :: ms).map (·.1) → b ∉ ((C, OLoc []) :: ms).map (·.1) := fun b hb hm => hb (by
        simp only [List.map_cons, List.mem_cons] at hm ⊢; rcases hm with e | e <;> simp [e])
      have hfpg : ∀ b ∈ fp, ∀ o, h₃.get? b = some o → g'.get? b = some o := fun b hb o e => keep b o e (hm0 b (hfp b hb))
      obtain ⟨oD, eD, nD, rfl⟩ := H₃.at 1 rfl
      have gD := keep D _ eD (fun hm => by
        rw [List.map_cons, List.mem_cons] at hm
        rcases hm with e | hm
        · have e : D = C := e; exact HCn (by rw [List.map_cons, ← e]; exact List.mem_cons_self ..)
        · exact HDn hm)
      have back : ∀ ys' ms' h₅ t₅, ys'.length ≤ i + 1 → J (i + 1) ys' ms' → Led g' ((C, OLoc []) :: ms') h₅ → ∀ h₆, Heap.SameBut D h₅ h₆ → (∃ n', h₆.get? D = some { cls := .type "list", data := .seq ys'.toArray n' }) →
          ∃ m, m < n - i ∧ ∃ i ys ms h t, c.S h₆ t₅ = c.S h t ∧ m = n - i ∧ i ≤ n ∧ ys.length ≤ i ∧ J i ys ms ∧ Led g ((C, OLoc []) :: (D, OList ys) :: ms) h ∧ St i h ∧ ∀ b ∈ fp, b ∉ ((C, OLoc []) :: (D, OList ys) :: ms).map (·.1) := by
        intro ys' ms' h₅ t₅ hl j' H₅ h₆ sb hD
        have Dn : D ∉ ((C, OLoc []) :: ms').map (·.1) := fun hm => by have := H₅.offm hm; rw [gD] at this; cases this
        have Doff : g.get? D = none := H₃.off 1 rfl
        have H₆ : Led g ((C, OLoc []) :: ms') h₆ := (H₅.stays hg).turn Doff Dn fun b o hb e => (sb.2 b hb).trans e
        have H₇ : Led g ((C, OLoc []) :: (D, OList ys') :: ms') h₆ := (H₆.add Dn Doff (let ⟨n', e⟩ := hD; ⟨_, e, n', rfl⟩)).swap
        have nfp : ∀ b ∈ fp, b ∉ ((C, OLoc []) :: (D, OList ys') :: ms').map (·.1) := fun b hb hm => by
          simp only [List.map_cons, List.mem_cons] at hm
          have hbD : b ≠ D := fun e => hfp b hb (by simp [e])
          have hm' : b ∈ ((C, OLoc []) :: ms').map (·.1) := by
            simp only [List.map_cons, List.mem_cons]
            rcases hm with e | e | e
            · exact .inl e
            · exact absurd e hbD
            · exact .inr e
          obtain ⟨o, e⟩ := T.alive _ _ st₃ b hb
          have := H₅.offm hm'
          rw [hfpg b hb o e] at this; cases this
        refine ⟨n - (i + 1), by omega, i + 1, ys', ms', h₆, t₅, rfl, rfl, hlt, hl, j', H₇, T.walks.frame _ _ _ st₃ fun b hb o e => ?_, nfp⟩
        have hbD : b ≠ D := fun e => hfp b hb (by simp [e])
        exact (sb.2 b hbD).trans (H₅.base b o (hfpg b hb o e))
      refine wpAny_assign_Name ?_
      refine cpsN (store_loc (env := compEnvC scope cl C env) (l := []) H' Nc (by
        have := @lookup_relabel_local env scope.names x hx
        show (relabelN scope.names ns).lookup x = some .local
        rw [← Nc.names]
        exact this) fun h₄ H₄ => ?_)
      refine cpsN ((turn i ys g' ms v h₄ _ C _ rfl Nc hlt hg j pv H₄).mono (fun b h₅ t₅ q => ?_) fun _ _ _ e => e)
      obtain ⟨ms', H₅, q1, q2⟩ := q
      cases b with
      | false =>
        rw [if_neg (by decide)]
        refine back ys ms' h₅ t₅ (by omega) (q2 rfl) (H₅.weaken 0 rfl (OLoc.sub LocSub.nil)) h₅ (Heap.SameBut.refl ..) ⟨nD, H₅.base D _ gD⟩
      | true =>
        rw [if_pos rfl]
        refine cpsN ((q1 rfl).mono (fun y h₆ t₆ q => ?_) fun _ _ _ e => e)
        obtain ⟨ms'', H₆, j'⟩ := q
        have eD₆ := H₆.base D _ gD
        refine append_at (s := c.S h₆ t₆) (hsz := by rw [List.size_toArray, sizeLine_eq]; omega) eD₆ fun h₇ sb hD => ?_
        refine back (ys ++ [y]) ms'' h₆ t₆ (by rw [List.length_append, List.length_singleton]; omega) j' H₆ h₇ sb ⟨nD + 1, ?_⟩
        rw [hD]; simp
    · have : i = n := by omega
      subst this
      refine T.walks.done (c.S h t) _ _ st fun h₃ t₃ k₃ => ?_
      have H₃ : Led g ((C, OLoc []) :: (D, OList ys) :: ms) h₃ := H.turn hI (hfp I (T.walks.sub I (by simp))) fun b o hb e => k₃ b o (by simpa using hb) e
      exact fin ys ms C D h₃ t₃ j hy H₃
  exact codeAny_compStart_list (loop _ rfl) (T.walks.self 0 _ _ _ st₁ (loop _ rfl))
theorem comp_ {elt iter : Expr} {px : Pos} {ifs : List Expr} {scope : Scope} {cl : List (Str × Addr)} {n : Nat} {P : Nat → Value → Prop} {Q : Value → Heap → Nat → Prop} (J : Nat → List Value → List Entry → Prop)
    (hcl : clOf env.cells scope.names [] = some cl) (hcell : ∀ y ∈ scope.names, y.2 ≠ .cell) (hk : scope.kind = .function) (hnames : ∀ y ∈ scope.names, y.2 = .local → scope.names.lookup y.1 = some .local)
    (hx : scope.names.lookup x = some .local) (N : EnvN env ns) (hz : n ≤ 1000)
    (he : W c A (eval iter env) (fun xv h₁ t₁ => W c A (pyIter xv) (fun it h₂ t₂ => ∃ ms, J 0 [] ms ∧ Led g ms h₂ ∧ IterOk c A (.Name x px) g ms n P it h₂) E h₁ t₁) E h t)
    (turn : ∀ i ys g' ms v h t C cenv, cenv = compEnvC scope cl C env → EnvN cenv (relabelN scope.names ns) → i < n → g.StaysIn g' → J i ys ms → P i v → Led g' ((cenv.locals, OLoc [(x, v)]) :: ms) h →
      W c A (tests ifs cenv) (fun b h' t' => ∃ ms', Led g' ((cenv.locals, OLoc [(x, v)]) :: ms') h' ∧
        (b = true → W c A (eval elt cenv) (fun y h'' t'' => ∃ ms'', Led g' ((cenv.locals, OLoc []) :: ms'') h'' ∧ J (i + 1) (ys ++ [y]) ms'') NoE h' t') ∧ (b = false → J (i + 1) ys ms')) NoE h t)
    (fin : ∀ ys ms D h t, J n ys ms → ys.length ≤ n → Led g ((D, OList ys) :: ms) h → Q (.ref D) h t)
    (hs : ∀ x, foldedSetIterable iter env x = pure x) : W c A (eval (.ListComp elt [⟨.Name x px, iter, ifs, 0⟩] scope pos) env) Q E h t := by
  rw [eval_ListComp]
  refine comp_core J hcl hcell hk hnames hx N hz he turn (fun ys ms C D h t j hy H => ?_) hs
  obtain ⟨m, hn, _⟩ := ns_of (H.at 0 rfl)
  exact ⟨m, hn, fun h' sb => ⟨h', t, rfl, fin ys ms D h' t j hy (H.tail.turn (H.off 0 rfl) (List.nodup_cons.mp H.nd).1 fun b o hb e => (sb.2 b hb).trans e)⟩⟩
theorem Xs.comp {elt iter : Expr} {px py spos : Pos} {y : Str} {ifs : List Expr} {scope : Scope} {cl : List (Str × Addr)} {n : Nat} {P : Nat → Value → Prop} {Q : Flow → Heap → Nat → Prop} (J : Nat → List Value → List Entry → Prop)
    (hcl : clOf env.cells scope.names [] = some cl) (hcell : ∀ y ∈ scope.names, y.2 ≠ .cell) (hk : scope.kind = .function) (hnames : ∀ y ∈ scope.names, y.2 = .local → scope.names.lookup y.1 = some .local)
    (hx : scope.names.lookup x = some .local) (N : EnvN env ns) (hz : n ≤ 1000)
    (he : W c A (eval iter env) (fun xv h₁ t₁ => W c A (pyIter xv) (fun it h₂ t₂ => ∃ ms, J 0 [] ms ∧ Led g ms h₂ ∧ IterOk c A (.Name x px) g ms n P it h₂) E h₁ t₁) E h t)
    (turn : ∀ i ys g' ms v h t C cenv, cenv = compEnvC scope cl C env → EnvN cenv (relabelN scope.names ns) → i < n → g.StaysIn g' → J i ys ms → P i v → Led g' ((cenv.locals, OLoc [(x, v)]) :: ms) h →
      W c A (tests ifs cenv) (fun b h' t' => ∃ ms', Led g' ((cenv.locals, OLoc [(x, v)]) :: ms') h' ∧
        (b = true → W c A (eval elt cenv) (fun y h'' t'' => ∃ ms'', Led g' ((cenv.locals, OLoc []) :: ms'') h'' ∧ J (i + 1) (ys ++ [y]) ms'') NoE h' t') ∧ (b = false → J (i + 1) ys ms')) NoE h t)
    (hy : ns.lookup y = some .local) (hsw : swapsWith (.ListComp elt [⟨.Name x px, iter, ifs, 0⟩] scope pos) (some (.Name y py)) spos.line env = pure true)
    (fin : ∀ ys ms, J n ys ms → ys.length ≤ n → ∃ l ms', ms = (env.locals, OLoc l) :: ms' ∧ ∀ D h t, Led g ((env.locals, OLoc ((y, .ref D) :: l)) :: (D, OList ys) :: ms') h → Xs c A env rest Q E h t)
    (hs : ∀ x, foldedSetIterable iter env x = pure x) : Xs c A env (.Assign [.Name y py] (.ListComp elt [⟨.Name x px, iter, ifs, 0⟩] scope pos) spos :: rest) Q E h t := by
  refine Xs.cons (.of ?_)
  rw [exec_Assign_Name_used _ _ _ _ hsw]
  refine wpAny_bind (wpAny_standAt (wpAny_bind ?_))
  show wpAny c.M A (do let _ ← comprehension (.ListComp elt [⟨.Name x px, iter, ifs, 0⟩] scope pos) scope env _ (newList []) false (eval iter env) (some (PySem.assign (.Name y py) env))) _ _ _
  refine wpAny_bind (cps ((comp_core (use := some (PySem.assign (.Name y py) env)) (Q := fun _ h t => Xs c A env rest Q E h t) J hcl hcell hk hnames hx N hz he turn (fun ys ms C D h t j hy' H => ?_) hs).mono (fun _ h' t' q => wpAny_pure (wpAny_pure ⟨h', t', rfl, q⟩)) fun _ _ _ e => e))
  show wpAny c.M A (PySem.assign (.Name y py) env (.ref D)) _ _ _
  obtain ⟨l, ms', rfl, f⟩ := fin ys ms j hy'
  have H1 : Led g ((env.locals, OLoc l) :: (C, OLoc []) :: (D, OList ys) :: ms') h := H.sub (fun q hq => by simp only [List.mem_cons] at hq ⊢; rcases hq with e | e | e | e <;> simp [e]) (by
    have := H.nd
    simp only [List.map_cons, List.nodup_cons, List.mem_cons, not_or] at this ⊢
    obtain ⟨⟨a1, a2, a3⟩, ⟨b1, b2⟩, c1, c2⟩ := this
    exact ⟨⟨fun e => a2 e.symm, fun e => b1 e.symm, c1⟩, ⟨a1, a3⟩, b2, c2⟩)
  refine wpAny_assign_Name (cps (store_loc H1 N hy fun h' H' => ?_))
  obtain ⟨m, hn, _⟩ := ns_of (H'.at 1 rfl)
  refine ⟨m, hn, fun h'' sb => ⟨h'', _, rfl, f D h'' _ ?_⟩⟩
  have H2 : Led g ((C, OLoc []) :: (env.locals, OLoc ((y, .ref D) :: l)) :: (D, OList ys) :: ms') h' := H'.swap
  exact H2.tail.turn (H2.off 0 rfl) (List.nodup_cons.mp H2.nd).1 fun b o hb e => (sb.2 b hb).trans e
end
end
section
section
variable {c : Cx} {A : Around} {env : Env} {g : Heap} {ms : List Entry} {ns : List (Str × NameKind)} {E : Value → Heap → Nat → Prop} {h : Heap} {t : Nat} {rest : List Stmt} {l la : List (Str × Value)} {pos p : Pos} {x : Str}
theorem EvI.shl {l r : Expr} {pos : Pos} {a b : Int} (hl : EvI c A env g ms l a) (hr : EvI c A env g ms r b) (hb : 0 ≤ b) (hb2 : b ≤ 1000000) (ha : a.natAbs < 2 ^ 64) : EvI c A env g ms (.BinOp l .LShift r pos) (a * 2 ^ b.toNat) :=
  .bin hl hr fun Q _ s _ _ _ k => by with_reducible exact PyProof.Rows.lshift_int_small (Q := Q) hb hb2 ha k
theorem EvI.band {l r : Expr} {pos : Pos} {a b : Int} (hl : EvI c A env g ms l a) (hr : EvI c A env g ms r b) : EvI c A env g ms (.BinOp l .BitAnd r pos) (Builtin.bitAnd a b) :=
  .bin hl hr fun Q _ s _ _ _ k => by with_reducible exact PyProof.Rows.and_int (Q := Q) k
theorem EvI.mulS {l r : Expr} {pos : Pos} {a b : Int} (hl : EvI c A env g ms l a) (hr : EvI c A env g ms r b) (ha : a.natAbs < 2 ^ 64) : EvI c A env g ms (.BinOp l .Mult r pos) (a * b) :=
  .mul hl hr (.of_left (intBits_le ha))
theorem EvI.or {e₁ e₂ : Expr} {pos : Pos} {a b : Int} (h₁ : EvI c A env g ms e₁ a) (h₂ : EvI c A env g ms e₂ b) : EvI c A env g ms (.BoolOp .Or [e₁, e₂] pos) (if a = 0 then b else a) := fun Q E h t H k =>
  .of (BoolOp_or (cps (h₁ _ E h t H fun v h' t' H' ⟨u, e⟩ => by
    subst e
    refine PyProof.Rows.truthy_int ?_
    by_cases ha : a = 0
    · subst ha
      rw [if_neg (by decide)]
      exact BoolOp_one (h₂ Q E h' t' H' fun v h'' t'' H'' p => k v h'' t'' H'' (by rw [if_pos rfl]; exact p)).to
    · have : (a != 0) = true := by simpa using ha
      rw [if_pos (by simpa using ha)]
      exact ⟨h', t', rfl, k _ h' t' H' (by rw [if_neg ha]; exact isI _ _)⟩)))
theorem getD_of_get {α : Type} {l : List α} {n : Nat} {x d : α} (h : l[n]? = some x) : l.getD n d = x := by rw [List.getD_eq_getElem?_getD, h]; rfl
theorem EvI.intAt {value slice : Expr} {vs : List Value} {is : List Int} {l : Addr} {i : Int} (n : Nat) (hv : EvX c A env g ms value (.ref l)) (hs : EvI c A env g ms slice i) (hj : ∀ h, Led g ms h → h.IsList l vs.toArray) (hi : IntsAre vs is) (hn : i = n) (hx : n < is.length) (hz : is.length ≤ 100000) (hp : notSlice slice = true) :
    EvI c A env g ms (.Subscript value slice pos) (is.getD n 0) := by
  obtain ⟨y, e⟩ : ∃ y, is[n]? = some y := ⟨_, List.getElem?_eq_getElem hx⟩
  obtain ⟨u, e'⟩ := hi.get n y e
  rw [getD_of_get e]
  exact EvX.int (.listAt hv hs hj hn e' (by rw [hi.length]; exact hz) hp)
theorem EvI.gint {value slice : Expr} {vs : List Value} {is : List Int} {l : Addr} {i : Int} (n : Nat) (hv : EvX c A env g ms value (.ref l)) (hs : EvI c A env g ms slice i) (hj : g.IsList l vs.toArray) (hi : IntsAre vs is) (hn : i = n) (hx : n < is.length) (hz : is.length ≤ 100000) (hp : notSlice slice = true) :
    EvI c A env g ms (.Subscript value slice pos) (is.getD n 0) := .intAt n hv hs (fun _ H => stays_list H.base hj) hi hn hx hz hp
theorem EvX.attrI {K : Frag} {C x dx : Addr} {name : Str} {v : Value} {e : Expr} {attr : Option Value} (he : EvX c A env g ms e (.ref x)) (X : K.In g) (hx : Inst g ms C x dx la)
    (hg : plainGet K C name = true) (hh : hasDictIn K C = true) (ha : findIn K (.ref C) name = some attr) (hn : noGet K attr = true) (hl : la.lookup name = some v) (hv : handedIn v = true)
    (hev : eval (.Attribute e name pos) env = (do
      let o ← eval e env
      standAt pos.atName
      let r ← holding [o] (getAttr o name true)
      letTemporaryGo e o r
      pure r)) : EvX c A env g ms (.Attribute e name pos) v := EvX.attr he X hx hg hh ha hn hl hv hev
theorem Xs.unpackC {elts : List Expr} {k : Nat} {tpos : Pos} {e : Expr} {Q : Flow → Heap → Nat → Prop} {n : Nat} (hA : Room A n)
    (he : W c A (eval e env) (fun v h' t' => ∃ a vs, v = .ref a ∧ IsTup h' a vs.toArray ∧ (assignEach elts env).length = vs.length ∧
      ∀ h'', h'.StaysIn h'' → W c A (assignInOrder ((assignEach elts env).map (·.2)) vs) (fun _ h t => Xs c A env rest Q E h t) E h'' t') E h t)
    (hc : notComp e = true) (hw : swappedStores [.Tuple elts k tpos] e env = pure none) (hstar : (assignEach elts env).findIdx? (·.1) = none) :
    Xs c A env (.Assign [.Tuple elts k tpos] e pos :: rest) Q E h t :=
  .unpack hA he (by unfold swapsWithSole; exact swaps_of hc ..) hw hstar
end
end
section
noncomputable def comm (o : List UInt8) : Nat → Nat → Nat → Nat
  | _, _, 0 => 0
  | b, a, k + 1 => if a < o.length ∧ o.getD b 0 = o.getD a 0 then comm o (b + 1) (a + 1) k + 1 else 0
theorem comm_le (o : List UInt8) : ∀ (k b a : Nat), comm o b a k ≤ k
  | 0, _, _ => Nat.le_refl _
  | k + 1, b, a => by
    unfold comm
    split
    · have := comm_le o k (b + 1) (a + 1); omega
    · omega
theorem comm_out (o : List UInt8) (k b a : Nat) (h : o.length ≤ a) : comm o b a k = 0 := by
  cases k with
  | zero => rfl
  | succ k => unfold comm; rw [if_neg (by omega)]
theorem u8_int {x y : UInt8} : ((x.toNat : Int) == (y.toNat : Int)) = decide (x = y) := by
  by_cases h : x = y
  · simp [h]
  · have : ¬ (x.toNat : Int) = (y.toNat : Int) := fun e => h (UInt8.toNat_inj.mp (by omega))
    simp [h, this]
end
local macro_rules | `(tactic| walk_at "ev") => `(tactic| repeat' (with_reducible first
  | exact EvI.const
  | apply EvI.add
  | apply EvI.sub
  | apply EvI.neg
  | apply EvI.min2 (by assumption)
  | apply EvI.band
  | apply EvI.mulS
  | apply EvI.shr
  | apply EvI.shl
  | apply EvI.mod
  | apply EvI.or
  | apply EvI.lenY
  | exact EvX.loc (by assumption) (by kernel_rfl) (by with_unfolding_all rfl) (by kernel_rfl)
  | exact EvX.blt (bn_len (by assumption)) (by assumption) (by kernel_rfl) (by kernel_rfl)
  | exact EvX.blt (bn_min (by assumption)) (by assumption) (by kernel_rfl) (by kernel_rfl)
  | exact EvX.attrI (K := KK _) (attr := none) (EvX.loc (by assumption) (by kernel_rfl) (by with_unfolding_all rfl) (by kernel_rfl)) (Gl.X (by assumption)) (Inst.ofG (by assumption) (by assumption)) (by kernel_rfl) (by kernel_rfl) (by kernel_rfl) (by kernel_rfl) (by with_unfolding_all rfl) (by kernel_rfl) (by with_unfolding_all rfl)
  | exact EvX.gc (by assumption) (by kernel_rfl) (by assumption) (by with_unfolding_all rfl) (by assumption) (by kernel_rfl)
  | exact EvX.glob (gn_LEAST (by assumption)) (by assumption) (by kernel_rfl) (by kernel_rfl)
  | exact EvX.none | exact EvX.bool
  | apply EvX.int
  | apply EvX.bytes
  | assumption
  | with_unfolding_all exact rfl
  | decide
  | omega))
section
end
local macro_rules | `(tactic| walk_at "ls") => `(tactic| (repeat' (first | exact LocSub.nil | refine LocSub.cons (by with_unfolding_all rfl) ?_)))
section
noncomputable def cx (w : World) (σ : Shared) : Cx := ⟨PySem.Challenge.rw_nn0118_01.row.prog, w, σ⟩
section
variable {w : World} {σ : Shared} {A : Around} {E : Value → Heap → Nat → Prop} {h : Heap} {t n : Nat} {Q : Value → Heap → Nat → Prop}
set_option maxHeartbeats 4000000 in
theorem common_length_ {o : List UInt8} {b a k : Nat} {y₀ y₁ y₂ y₃ : Tok} (G : Gl w h) (hA : Room A (n + 1)) (hz : o.length ≤ 1000) (hb : b < a) (ha : a ≤ o.length)
    (q : ∀ h' t' u, h.StaysIn h' → Q (.int (comm o b a k) u) h' t') :
    W (cx w σ) A (call (.ref 110) [.bytes o.toArray y₀, .int b y₁, .int a y₂, .int k y₃]) Q E h t := by
  refine callF0 (binds := [("octets", _), ("back", _), ("at", _), ("most", _)]) (G.X 110 _ (by rfl)) (by rfl) (by rfl) (by rfl) hA G.lim (codeRec_of G.X (by kernel_rfl)) (BindsTo.of_eq rfl) (by decide) (locs rfl) rfl rfl rfl rfl rfl ?_
  clear hA
  rintro A env h₀ t₀ hA N - H -
  dsimp only at N
  refine Xs.assign H (P := IsI 0) (by walk_at "ev") N (by kernel_rfl) rfl ?_
  rintro v h₁ t₁ ⟨u₁, rfl⟩ H₁
  refine' Xs.assign H₁ ?e N (by kernel_rfl) rfl ?k
  case e => walk_at "ev"
  rintro v h₂ t₂ ⟨u₂, rfl⟩ H₂
  refine Xs.while (fun m g' ms' => g' = h ∧ ∃ (i : Nat) (u u' : Tok) (e : Int), m = k - i ∧ i ≤ k ∧ a + i ≤ o.length ∧ comm o b a k = i + comm o (b + i) (a + i) (k - i) ∧ e = (if (k : Int) < (o.length : Int) - a then (k : Int) else (o.length : Int) - a) ∧
     ms' = [(env.locals, OLoc [("length", .int i u), ("end", .int e u'), ("octets", .bytes o.toArray y₀), ("back", .int b y₁), ("at", .int a y₂)])]) k ⟨rfl, 0, u₁, u₂, _, rfl, Nat.zero_le _, ha, (by simp), rfl, rfl⟩ (H₂.weaken 0 rfl (OLoc.sub ?_)) ?_
  · walk_at "ls"
  · rintro m g ms ⟨rfl, i, u, u', e, rfl, hi, hai, hc, he, rfl⟩
    refine ⟨decide ((i : Int) < e) && (((o.getD (b + i) 0).toNat : Int) == ((o.getD (a + i) 0).toNat : Int)),
      .all (.and (.ints (by walk_at "ev") (by walk_at "ev") rfl rfl) fun hlt => .and1 (.ints (.octet (n := b + i) (by walk_at "ev") (by walk_at "ev") (by omega) ?x1 hz rfl) (.octet (n := a + i) (by walk_at "ev") (by walk_at "ev") (by omega) ?x2 hz rfl) rfl rfl)), ?_, ?_⟩
    case x1 => simp only [decide_eq_true_eq] at hlt; split at he <;> omega
    case x2 => simp only [decide_eq_true_eq] at hlt; split at he <;> omega
    · intro hb' h₃ t₃ H₃
      rw [Bool.and_eq_true, decide_eq_true_eq, u8_int, decide_eq_true_eq] at hb'
      have hik : i < k ∧ a + i < o.length := by split at he <;> omega
      refine Xs.augAdd H₃ (by with_unfolding_all rfl) (by walk_at "ev") N (by kernel_rfl) ?_
      intro h₄ t₄ u₄ H₄
      refine Xs.nil ⟨k - (i + 1), g, _, by omega, ⟨rfl, i + 1, u₄, u', e, rfl, by omega, by omega, ?_, he, rfl⟩, H₄.weaken 0 rfl (OLoc.sub (by walk_at "ls"))⟩
      rw [hc]
      have e1 : k - i = (k - (i + 1)) + 1 := by omega
      rw [e1]
      conv => lhs; unfold comm
      rw [if_pos ⟨hik.2, hb'.2⟩]
      rw [Nat.add_assoc b i 1, Nat.add_assoc a i 1]; omega
    · intro hb' h₃ t₃ H₃
      refine Xs.ret H₃ (P := IsI i) (by walk_at "ev") ?_
      rintro v h₄ t₄ ⟨u₄, rfl⟩ H₄
      have : comm o b a k = i := by
        rw [hc]
        by_cases hik : i < k ∧ a + i < o.length
        · have e1 : k - i = (k - (i + 1)) + 1 := by omega
          rw [e1]
          unfold comm
          rw [if_neg (by
            intro hh
            rw [u8_int, decide_eq_true hh.2, Bool.and_true, decide_eq_false_iff_not] at hb'
            split at he <;> omega)]
          rfl
        · by_cases hk : i < k
          · rw [comm_out _ _ _ _ (by omega)]; rfl
          · have : k - i = 0 := by omega
            rw [this]; rfl
      rw [← this]
      exact q h₄ t₄ u₄ H₄.base
end
end
section
noncomputable def sbits (s n : Nat) : Nat → Nat → Nat
  | 0, b => b
  | k + 1, b => if 2 * s ≤ n / 2 ^ b then sbits s n k (b + 1) else b
theorem fdiv_nat (n b : Nat) : (n : Int).fdiv (2 ^ b) = ((n / 2 ^ b : Nat) : Int) := by
  rw [Int.fdiv_eq_ediv_of_nonneg _ (Int.le_of_lt (Int.pow_pos (by decide)))]
  norm_cast
theorem small_div {n b : Nat} (h : n < 16) (h2 : 2 ≤ n / 2 ^ b) : b < 4 := by
  apply Classical.byContradiction
  intro hb
  have : 2 ^ 4 ≤ 2 ^ b := Nat.pow_le_pow_right (by decide) (by omega)
  rw [Nat.div_eq_of_lt (by omega)] at h2
  omega
section
variable {w : World} {σ : Shared} {A : Around} {E : Value → Heap → Nat → Prop} {h : Heap} {t n : Nat} {Q : Value → Heap → Nat → Prop}
set_option maxHeartbeats 4000000 in
theorem split_number_ {i₀ i₁ : Int} (m s : Nat) {y₀ y₁ : Tok} (G : Gl w h) (hA : Room A (n + 1)) (e₀ : i₀ = m) (e₁ : i₁ = s) (hm : m < 16) (hs : 1 ≤ s) (hs2 : s ≤ 4)
    (q : ∀ a h' t' j₀ j₁ u₀ u₁ u₂ r, j₀ = ((s * sbits s m 4 0 + m / 2 ^ sbits s m 4 0 : Nat) : Int) → j₁ = ((sbits s m 4 0 : Nat) : Int) → h.StaysIn h' → IsTup h' a [.int j₀ u₀, .int j₁ u₁, .int r u₂].toArray → Q (.ref a) h' t') :
    W (cx w σ) A (call (.ref 174) [.int i₀ y₀, .int i₁ y₁]) Q E h t := by
  subst e₀ e₁
  refine callF0 (binds := [("number", _), ("small", _)]) (G.X 174 _ (by rfl)) (by rfl) (by rfl) (by rfl) hA G.lim (codeRec_of G.X (by kernel_rfl)) (BindsTo.of_eq rfl) (by decide) (locs rfl) rfl rfl rfl rfl rfl ?_
  clear hA
  rintro A env h₀ t₀ hA N - H -
  dsimp only at N
  refine Xs.assign H (P := IsI 0) (by walk_at "ev") N (by kernel_rfl) rfl ?_
  rintro v h₁ t₁ ⟨u₁, rfl⟩ H₁
  refine Xs.while (fun m' g' ms' => g' = h ∧ ∃ (i : Nat) (u : Tok), m' = 4 - i ∧ i ≤ 4 ∧ sbits s m (4 - i) i = sbits s m 4 0 ∧
     ms' = [(env.locals, OLoc [("bits", .int i u), ("number", .int m y₀), ("small", .int s y₁)])]) 4 ⟨rfl, 0, u₁, rfl, by omega, rfl, rfl⟩ (H₁.weaken 0 rfl (OLoc.sub (by walk_at "ls"))) ?_
  rintro m' g ms ⟨rfl, i, u, rfl, hi, hc, rfl⟩
  refine ⟨decide (2 * (s : Int) ≤ (m : Int).fdiv (2 ^ (i : Int).toNat)), .ints (by walk_at "ev") (by walk_at "ev") rfl rfl, ?_, ?_⟩
  · intro hb h₂ t₂ H₂
    rw [decide_eq_true_eq, Int.toNat_natCast, fdiv_nat] at hb
    have hi4 : i < 4 := small_div hm (by omega)
    refine Xs.augAdd H₂ (by with_unfolding_all rfl) (by walk_at "ev") N (by kernel_rfl) ?_
    intro h₃ t₃ u₃ H₃
    refine Xs.nil ⟨4 - (i + 1), g, _, by omega, ⟨rfl, i + 1, u₃, rfl, by omega, ?_, rfl⟩, H₃.weaken 0 rfl (OLoc.sub (by walk_at "ls"))⟩
    rw [← hc, show 4 - i = 4 - (i + 1) + 1 by omega]
    conv => rhs; unfold sbits
    rw [if_pos (by omega)]
  · intro hb h₂ t₂ H₂
    rw [decide_eq_false_iff_not, Int.toNat_natCast, fdiv_nat] at hb
    have hi : sbits s m 4 0 = i := by
      rw [← hc]
      generalize 4 - i = k
      cases k with
      | zero => rfl
      | succ k => unfold sbits; rw [if_neg (by omega)]
    refine Xs.retE (tup_ H₂ (.cons (P := IsI (s * i + (m : Int).fdiv (2 ^ (i : Int).toNat))) (by walk_at "ev") (.cons (P := IsI i) (by walk_at "ev") (.cons (P := IsI (Builtin.bitAnd (m : Int) (1 * 2 ^ (i : Int).toNat - 1))) (by walk_at "ev") .nil rfl) rfl) rfl) ?_ ?_)
    · rintro vs ⟨_, _, rfl, _, _, _, rfl, _, _, _, rfl, _, rfl⟩
      exact Nat.le_of_ble_eq_true rfl
    · rintro vs a h' t' ⟨_, _, rfl, ⟨u₀, rfl⟩, _, _, rfl, ⟨u₁, rfl⟩, _, _, rfl, ⟨u₂, rfl⟩, rfl⟩ H'
      exact q a h' t' _ _ u₀ u₁ u₂ _ (by rw [hi, Int.toNat_natCast, fdiv_nat]; push_cast; rfl) (by rw [hi]) H'.tail.base (isTup_of (H'.at 0 rfl))
set_option maxHeartbeats 4000000 in
theorem length_symbol_ {i₀ : Int} (m : Nat) {y₀ : Tok} (G : Gl w h) (hA : Room A (n + 2)) (e₀ : i₀ = m) (h3 : 3 ≤ m) (hm : m < 11)
    (q : ∀ a h' t' j₀ j₁ u₀ u₁ r, j₀ = ((254 + m : Nat) : Int) → j₁ = 0 → h.StaysIn h' → IsTup h' a [.int j₀ u₀, .int j₁ u₁, r].toArray → Q (.ref a) h' t') :
    W (cx w σ) A (call (.ref 181) [.int i₀ y₀]) Q E h t := by
  subst e₀
  refine callF0 (binds := [("length", _)]) (G.X 181 _ (by rfl)) (by rfl) (by rfl) (by rfl) hA G.lim (codeRec_of G.X (by kernel_rfl)) (BindsTo.of_eq rfl) (by decide) (locs rfl) rfl rfl rfl rfl rfl ?_
  clear hA
  rintro A env h₀ t₀ hA N - H -
  dsimp only at N
  refine Xs.ite H (b := false) (.eq (.ints (by walk_at "ev") (by walk_at "ev") rfl rfl) ?_) (fun e => nomatch e) fun _ h₁ t₁ H₁ => Xs.nilT ?_
  · simp; omega
  refine Xs.unpackC hA (call_fn (fa := 174) H₁ (EvX.glob (gn_split_number G) N (by kernel_rfl) (by kernel_rfl)) ⟨_, _, G.X 174 _ (by rfl), rfl⟩ (.cons (P := IsI (m - 3)) (by walk_at "ev") (.cons (P := IsI 4) (by walk_at "ev") .nil rfl) rfl) rfl ?_) rfl rfl rfl
  refine argsA_ii fun u₁ u₂ h₂ t₂ H₂ => ?_
  refine split_number_ (m - 3) 4 (G.keeps H₂.base) hA (by omega) rfl (by omega) (by omega) (by omega) ?_
  rintro a h₃ t₃ j₀ j₁ u₀ u₁ u₂ r e₀ e₁ k ht
  have hb : sbits 4 (m - 3) 4 0 = 0 := by unfold sbits; rw [if_neg (by omega)]
  rw [hb] at e₀ e₁
  refine ⟨a, _, rfl, ht, rfl, fun h₄ k₄ => ?_⟩
  have H₄ := (H₂.ext k).ext k₄
  refine InOrder.loc H₄ N (by kernel_rfl) fun h₅ t₅ H₅ => InOrder.loc H₅ N (by kernel_rfl) fun h₅ t₅ H₅ => InOrder.loc H₅ N (by kernel_rfl) fun h₅ t₅ H₅ => InOrder.nil ?_
  refine Xs.retE (tup_ H₅ (.cons (P := IsI (257 + j₀)) (by walk_at "ev") (.cons (P := IsI j₁) (by walk_at "ev") (.cons (P := IsI r) (by walk_at "ev") .nil rfl) rfl) rfl) ?_ ?_)
  · rintro vs ⟨_, _, rfl, _, _, _, rfl, _, _, _, rfl, _, rfl⟩
    exact Nat.le_of_ble_eq_true rfl
  · rintro vs a h' t' ⟨_, _, rfl, ⟨u₀, rfl⟩, _, _, rfl, ⟨u₁, rfl⟩, _, _, rfl, ⟨u₂, rfl⟩, rfl⟩ H'
    exact q a h' t' _ _ u₀ u₁ _ (by rw [e₀]; omega) (by rw [e₁]; rfl) H'.tail.base (isTup_of (H'.at 0 rfl))
set_option maxHeartbeats 4000000 in
theorem distance_symbol_ {i₀ : Int} (m : Nat) {y₀ : Tok} (G : Gl w h) (hA : Room A (n + 2)) (e₀ : i₀ = m) (h3 : 1 ≤ m) (hm : m < 17)
    (q : ∀ a h' t' j₀ j₁ u₀ u₁ r, j₀ = ((2 * sbits 2 (m - 1) 4 0 + (m - 1) / 2 ^ sbits 2 (m - 1) 4 0 : Nat) : Int) → j₁ = ((sbits 2 (m - 1) 4 0 : Nat) : Int) → h.StaysIn h' → IsTup h' a [.int j₀ u₀, .int j₁ u₁, r].toArray → Q (.ref a) h' t') :
    W (cx w σ) A (call (.ref 188) [.int i₀ y₀]) Q E h t := by
  subst e₀
  refine callF0 (binds := [("distance", _)]) (G.X 188 _ (by rfl)) (by rfl) (by rfl) (by rfl) hA G.lim (codeRec_of G.X (by kernel_rfl)) (BindsTo.of_eq rfl) (by decide) (locs rfl) rfl rfl rfl rfl rfl ?_
  clear hA
  rintro A env h₀ t₀ hA N - H -
  dsimp only at N
  refine Xs.retE (call_fn (fa := 174) H (EvX.glob (gn_split_number G) N (by kernel_rfl) (by kernel_rfl)) ⟨_, _, G.X 174 _ (by rfl), rfl⟩ (.cons (P := IsI (m - 1)) (by walk_at "ev") (.cons (P := IsI 2) (by walk_at "ev") .nil rfl) rfl) rfl ?_)
  refine argsA_ii fun u₁ u₂ h₂ t₂ H₂ => ?_
  refine split_number_ (m - 1) 2 (G.keeps H₂.base) hA (by omega) rfl (by omega) (by omega) (by omega) ?_
  rintro a h₃ t₃ j₀ j₁ u₀ u₁ u₂ r e₀ e₁ k ht
  exact q a h₃ t₃ j₀ j₁ u₀ u₁ _ e₀ e₁ (stays_trans H₂.base k) ht
end
end
section
noncomputable def or16 (l : List Int) (k : Nat) : Int := if l.getD k 0 = 0 then 16 else l.getD k 0
noncomputable def backSym (d : Nat) : Nat := 2 * sbits 2 (d - 1) 4 0 + (d - 1) / 2 ^ sbits 2 (d - 1) 4 0
noncomputable def backBits (d : Nat) : Nat := sbits 2 (d - 1) 4 0
noncomputable def mPrice (li di : List Int) (ℓ d : Nat) : Int := or16 li (254 + ℓ) + or16 di (backSym d) + backBits d
theorem backSym_lt {d : Nat} (h1 : 1 ≤ d) (h : d < 17) : backSym d < 9 := by
  unfold backSym
  have : ∀ k : Fin 16, 2 * sbits 2 k 4 0 + k / 2 ^ sbits 2 k 4 0 < 9 := by decide
  exact this ⟨d - 1, by omega⟩
structure Pr (g : Heap) (x : Addr) (li di : List Int) : Prop where
  ex : ∃ dx la ld vl vd, g.get? x = some (instObj 219 dx) ∧ (∃ o, g.get? dx = some o ∧ OAttr [("literals", .ref la), ("distances", .ref ld)] o) ∧ g.IsList la vl.toArray ∧ IntsAre vl li ∧ g.IsList ld vd.toArray ∧ IntsAre vd di
  ll : 262 ≤ li.length
  dl : 9 ≤ di.length
  lz : li.length ≤ 100000
  dz : di.length ≤ 100000
theorem Pr.keeps {g g' : Heap} {x : Addr} {li di : List Int} (p : Pr g x li di) (k : g.StaysIn g') : Pr g' x li di := by
  obtain ⟨⟨dx, la, ld, vl, vd, a, ⟨o, b, b'⟩, d, e, f, i⟩, h1, h2, h3, h4⟩ := p
  exact ⟨⟨dx, la, ld, vl, vd, k _ _ a, ⟨o, k _ _ b, b'⟩, stays_list k d, e, stays_list k f, i⟩, h1, h2, h3, h4⟩
section
variable {w : World} {σ : Shared} {A : Around} {E : Value → Heap → Nat → Prop} {h : Heap} {t n : Nat} {Q : Value → Heap → Nat → Prop}
set_option maxHeartbeats 4000000 in
theorem literal_ {x : Addr} {li di : List Int} {i₀ : Int} (k : Nat) {y₀ : Tok} (G : Gl w h) (hA : Room A (n + 1)) (p : Pr h x li di) (e₀ : i₀ = k) (hk : k < li.length)
    (q : ∀ h' t' u, h.StaysIn h' → Q (.int (or16 li k) u) h' t') :
    W (cx w σ) A (call (.ref 209) [.ref x, .int i₀ y₀]) Q E h t := by
  subst e₀
  obtain ⟨⟨dx, la, ld, vl, vd, ex, ed, hla, hil, hld, hid⟩, hll, hdl, hlz, hdz⟩ := p
  refine callF0 (binds := [("self", _), ("octet", _)]) (G.X 209 _ (by rfl)) (by rfl) (by rfl) (by rfl) hA G.lim (codeRec_of G.X (by kernel_rfl)) (BindsTo.of_eq rfl) (by decide) (locs rfl) rfl rfl rfl rfl rfl ?_
  clear hA
  rintro A env h₀ t₀ hA N - H -
  dsimp only at N
  refine Xs.ret H (P := IsI (or16 li k)) (EvI.or (EvI.gint k (EvX.attr (K := KK w) (attr := none) (by walk_at "ev") G.X (Inst.ofG ex ed) (by kernel_rfl) (by kernel_rfl) (by kernel_rfl) (by kernel_rfl) (by with_unfolding_all rfl) (by kernel_rfl) rfl) (by walk_at "ev") hla hil rfl hk hlz rfl) (EvX.glob (gn_UNUSED_PRICE G) N (by kernel_rfl) (by kernel_rfl)).int) ?_
  rintro v h' t' ⟨u, rfl⟩ H'
  exact q h' t' u H'.base
set_option maxHeartbeats 4000000 in
theorem match_ {x : Addr} {li di : List Int} {i₀ i₁ : Int} (ℓ d : Nat) {y₀ y₁ : Tok} (G : Gl w h) (hA : Room A (n + 3)) (p : Pr h x li di) (e₀ : i₀ = ℓ) (e₁ : i₁ = d) (h3 : 3 ≤ ℓ) (hℓ : ℓ < 8) (hd : 1 ≤ d) (hd2 : d < 17)
    (q : ∀ h' t' u, h.StaysIn h' → Q (.int (mPrice li di ℓ d) u) h' t') :
    W (cx w σ) A (call (.ref 216) [.ref x, .int i₀ y₀, .int i₁ y₁]) Q E h t := by
  subst e₀ e₁
  obtain ⟨⟨dx, la, ld, vl, vd, ex, ed, hla, hil, hld, hid⟩, hll, hdl, hlz, hdz⟩ := p
  refine callF0 (binds := [("self", _), ("length", _), ("distance", _)]) (G.X 216 _ (by rfl)) (by rfl) (by rfl) (by rfl) hA G.lim (codeRec_of G.X (by kernel_rfl)) (BindsTo.of_eq rfl) (by decide) (locs rfl) rfl rfl rfl rfl rfl ?_
  clear hA
  rintro A env h₀ t₀ hA N - H -
  dsimp only at N
  refine Xs.unpackC hA (call_fn (fa := 181) H (EvX.glob (gn_length_symbol G) N (by kernel_rfl) (by kernel_rfl)) ⟨_, _, G.X 181 _ (by rfl), rfl⟩ (.cons (P := IsI ℓ) (by walk_at "ev") .nil rfl) rfl ?_) rfl rfl rfl
  rintro vs h₂ t₂ H₂ ⟨_, _, rfl, ⟨u₁, rfl⟩, rfl⟩
  refine length_symbol_ ℓ (G.keeps H₂.base) hA rfl h3 (by omega) ?_
  rintro a h₃ t₃ j₀ j₁ u₀ u₁ r e₀ e₁ k ht
  refine ⟨a, _, rfl, ht, rfl, fun h₄ k₄ => ?_⟩
  have H₄ := (H₂.ext k).ext k₄
  refine InOrder.loc H₄ N (by kernel_rfl) fun h₅ t₅ H₅ => InOrder.loc H₅ N (by kernel_rfl) fun h₅ t₅ H₅ => InOrder.loc H₅ N (by kernel_rfl) fun h₅ t₅ H₅ => InOrder.nil ?_
  clear ht H₄ H₂ k k₄
  refine Xs.unpackC hA (call_fn (fa := 188) H₅ (EvX.glob (gn_distance_symbol G) N (by kernel_rfl) (by kernel_rfl)) ⟨_, _, G.X 188 _ (by rfl), rfl⟩ (.cons (P := IsI d) (by walk_at "ev") .nil rfl) rfl ?_) rfl rfl rfl
  rintro vs h₂ t₂ H₂ ⟨_, _, rfl, ⟨u₁, rfl⟩, rfl⟩
  refine distance_symbol_ d (G.keeps H₂.base) hA rfl hd hd2 ?_
  rintro a h₃ t₃ j₂ j₃ u₂ u₃ r e₂ e₃ k ht
  refine ⟨a, _, rfl, ht, rfl, fun h₄ k₄ => ?_⟩
  have H₄ := (H₂.ext k).ext k₄
  refine InOrder.loc H₄ N (by kernel_rfl) fun h₅ t₅ H₅ => InOrder.loc H₅ N (by kernel_rfl) fun h₅ t₅ H₅ => InOrder.loc H₅ N (by kernel_rfl) fun h₅ t₅ H₅ => InOrder.nil ?_
  have hb := backSym_lt hd hd2
  refine Xs.ret H₅ (P := IsI (or16 li (254 + ℓ) + j₁ + or16 di (backSym d) + j₃)) (EvI.add (EvI.add (EvI.add
    (EvI.or (EvI.gint (254 + ℓ) (EvX.attr (K := KK w) (attr := none) (by walk_at "ev") G.X (Inst.ofG ex ed) (by kernel_rfl) (by kernel_rfl) (by kernel_rfl) (by kernel_rfl) (by with_unfolding_all rfl) (by kernel_rfl) rfl) (i := j₀) (by walk_at "ev") hla hil e₀ (by omega) hlz rfl) (EvX.glob (gn_UNUSED_PRICE G) N (by kernel_rfl) (by kernel_rfl)).int)
    (by walk_at "ev"))
    (EvI.or (EvI.gint (backSym d) (EvX.attr (K := KK w) (attr := none) (by walk_at "ev") G.X (Inst.ofG ex ed) (by kernel_rfl) (by kernel_rfl) (by kernel_rfl) (by kernel_rfl) (by with_unfolding_all rfl) (by kernel_rfl) rfl) (i := j₂) (by walk_at "ev") hld hid e₂ (by omega) hdz rfl) (EvX.glob (gn_UNUSED_PRICE G) N (by kernel_rfl) (by kernel_rfl)).int))
    (by walk_at "ev")) ?_
  rintro v h' t' ⟨u, rfl⟩ H'
  have : or16 li (254 + ℓ) + j₁ + or16 di (backSym d) + j₃ = mPrice li di ℓ d := by
    rw [e₁, e₃, Int.add_zero]; rfl
  rw [this]
  exact q h' t' u H'.base
end
end
section
theorem ty_dict_get : typeOf (.builtin "dict.get") = pure (.type "method_descriptor") := by kernel_rfl
section
variable {c : Cx} {A : Around} {env : Env} {g : Heap} {ms : List Entry} {ns : List (Str × NameKind)} {E : Value → Heap → Nat → Prop} {h : Heap} {t : Nat} {rest : List Stmt} {l la : List (Str × Value)} {pos p : Pos} {x : Str}
theorem Led.call2 {h' : Heap} {a b : Addr} {P P' R R' : Obj → Prop} (H : Led g ms h) (i j : Nat) (ei : ms[i]? = some (a, P)) (ej : ms[j]? = some (b, R)) (x : Ext [a, b] h h') (pa : ∃ o, h'.get? a = some o ∧ P' o) (pb : ∃ o, h'.get? b = some o ∧ R' o) (hij : i ≠ j) :
    Led g ((ms.set i (a, P')).set j (b, R')) h' := by
  have ej' : (ms.set i (a, P'))[j]? = some (b, R) := by rw [List.getElem?_set, if_neg hij]; exact ej
  refine H.call x (fun q hq => ?_) ((map_fst_set _ _ _ _ _ ej').trans (map_fst_set _ _ _ _ _ ei)) fun p hp => ?_
  · simp only [List.mem_cons, List.not_mem_nil, or_false] at hq
    rcases hq with rfl | rfl
    · exact H.off i ei
    · exact H.off j ej
  · obtain ⟨k, hk⟩ := List.getElem?_of_mem hp
    rw [List.getElem?_set] at hk
    by_cases hjk : j = k
    · subst hjk
      rw [if_pos rfl] at hk
      split at hk
      · cases hk; exact .inr pb
      · cases hk
    · rw [if_neg hjk, List.getElem?_set] at hk
      by_cases hik : i = k
      · subst hik
        rw [if_pos rfl] at hk
        split at hk
        · cases hk; exact .inr pa
        · cases hk
      · rw [if_neg hik] at hk
        refine .inl ⟨List.mem_of_getElem? hk, fun hm => ?_⟩
        simp only [List.mem_cons, List.not_mem_nil, or_false] at hm
        rcases hm with e | e
        · exact nodup_ne H.nd ei hk hik e
        · exact nodup_ne H.nd ej hk hjk e
theorem Led.call1 {h' : Heap} {a : Addr} {P P' : Obj → Prop} (H : Led g ms h) (i : Nat) (ei : ms[i]? = some (a, P)) (x : Ext [a] h h') (pa : ∃ o, h'.get? a = some o ∧ P' o) :
    Led g (ms.set i (a, P')) h' := by
  refine H.call x (fun q hq => ?_) (map_fst_set _ _ _ _ _ ei) fun p hp => ?_
  · simp only [List.mem_cons, List.not_mem_nil, or_false] at hq
    subst hq
    exact H.off i ei
  · obtain ⟨k, hk⟩ := List.getElem?_of_mem hp
    rw [List.getElem?_set] at hk
    by_cases hik : i = k
    · subst hik
      rw [if_pos rfl] at hk
      split at hk
      · cases hk; exact .inr pa
      · cases hk
    · rw [if_neg hik] at hk
      refine .inl ⟨List.mem_of_getElem? hk, fun hm => ?_⟩
      simp only [List.mem_cons, List.not_mem_nil, or_false] at hm
      exact nodup_ne H.nd ei hk hik hm
theorem Xs.setSub {o i value : Expr} {ov : Value} {P R : Value → Prop} {Q : Flow → Heap → Nat → Prop} (H : Led g ms h) (hv : EvV c A env g ms value P) (ho : EvX c A env g ms o ov) (hi : EvV c A env g ms i R) (hc : notComp value = true)
    (k : ∀ v iv h' t', Led g ms h' → P v → R iv → W c A (setItem ov iv v) (fun _ h'' t'' => Xs c A env rest Q E h'' t'') E h' t') : Xs c A env (.Assign [.Subscript o i p] value pos :: rest) Q E h t :=
  Xs.cons (.of (wpAny_Assign_Subscript (cps (hv _ E h t H fun v h₁ t₁ H₁ pv => cps (ho _ E h₁ t₁ H₁ fun u h₂ t₂ H₂ e => cps (hi _ E h₂ t₂ H₂ fun iv h₃ t₃ H₃ ri => by
    subst e
    exact cps ((k v iv h₃ t₃ H₃ pv ri).mono (fun _ h t q => ⟨h, t, rfl, q⟩) fun _ _ _ e => e))))) (swaps_of hc ..)))
noncomputable def Mid (M : Heap → Nat → Prop) : Flow → Heap → Nat → Prop := fun f h t => match f with
  | .next => M h t
  | _ => False
theorem Xs.iteJ {test : Expr} {body orelse : List Stmt} {b : Bool} {Q : Flow → Heap → Nat → Prop} (M : Heap → Nat → Prop) (H : Led g ms h) (ht : Tst c A env g ms test b)
    (h1 : b = true → ∀ h' t', Led g ms h' → Xs c A env body (Mid M) E h' t')
    (h2 : b = false → ∀ h' t', Led g ms h' → Xs c A env orelse (Mid M) E h' t')
    (k : ∀ h' t', M h' t' → Xs c A env rest Q E h' t') : Xs c A env (.If test body orelse pos :: rest) Q E h t :=
  Xs.ite H ht (fun e h' t' H' => (h1 e h' t' H').mono (fun f h'' t'' q => by cases f with | next => exact k h'' t'' q | _ => exact (show False from q).elim) fun _ _ _ x => x)
    (fun e h' t' H' => (h2 e h' t' H').mono (fun f h'' t'' q => by cases f with | next => exact k h'' t'' q | _ => exact (show False from q).elim) fun _ _ _ x => x)
theorem Mid.nil {M : Heap → Nat → Prop} (m : M h t) : Xs c A env [] (Mid M) E h t := Xs.nil m
theorem dget_ {o : Expr} {apos : Pos} {d : Addr} {f : Int → Option Value} {n : Nat} {e₁ e₂ : Expr} {k : Int} {dv : Value → Prop} {Q : Value → Heap → Nat → Prop} {pl : Sem Bool} (j : Nat) (H : Led g ms h) (ho : EvX c A env g ms o (.ref d)) (hj : ms[j]? = some (d, OMap f n)) (lo : (d == sysModules) = false)
    (h₁ : EvI c A env g ms e₁ k) (h₂ : EvV c A env g ms e₂ dv) (s₁ : noStar e₁ = true) (s₂ : noStar e₂ = true)
    (q : ∀ u h' t', dv u → Led g ms h' → Q ((f k).getD u) h' t')
    (hee : eval (.Call (.Attribute o "get" apos) [e₁, e₂] [] pos) env = (do
      let ov ← eval o env
      standAt apos.atName
      let (f, first) ← holding [ov] (getMethod ov "get" pl)
      callWith pos f first (backTo pos (starEach [e₁, e₂] env)) [])) : W c A (eval (.Call (.Attribute o "get" apos) [e₁, e₂] [] pos) env) Q E h t :=
  call_meth (id := "dict.get") (pl := pl) H ho (fun K E h t H q => by
      have M := mapOf_of (prog := c.prog) (w := c.w) (H.at j hj)
      exact getMethod_builtin (s := c.S h t) M.typeIs PySem.F.plainAttrs_dict PySem.F.slot_dict_get ty_dict_get M.noDict q) (.cons h₁ (.cons h₂ .nil s₂) s₁) (by simp [s₁, s₂]) hee fun vs' h' t' H' r => by
    obtain ⟨_, _, rfl, ⟨u, rfl⟩, _, _, rfl, p, rfl⟩ := r
    exact dictGet_ j H' hj lo (q _ h' _ p H')
theorem dgetA_ {o : Expr} {apos : Pos} {d : Addr} {f : Int → Option Value} {n : Nat} {e₁ e₂ : Expr} {k : Int} {dv : Value → Prop} {Q : Value → Heap → Nat → Prop} {pl : Sem Bool} (H : Led g ms h) (ho : EvX c A env g ms o (.ref d)) (hj : ∃ o, g.get? d = some o ∧ OMap f n o) (lo : (d == sysModules) = false)
    (h₁ : EvI c A env g ms e₁ k) (h₂ : EvV c A env g ms e₂ dv) (s₁ : noStar e₁ = true) (s₂ : noStar e₂ = true)
    (q : ∀ u h' t', dv u → Led g ms h' → Q ((f k).getD u) h' t')
    (hee : eval (.Call (.Attribute o "get" apos) [e₁, e₂] [] pos) env = (do
      let ov ← eval o env
      standAt apos.atName
      let (f, first) ← holding [ov] (getMethod ov "get" pl)
      callWith pos f first (backTo pos (starEach [e₁, e₂] env)) [])) : W c A (eval (.Call (.Attribute o "get" apos) [e₁, e₂] [] pos) env) Q E h t := by
  have hj' : ∀ h, Led g ms h → ∃ o, h.get? d = some o ∧ OMap f n o := fun h H => let ⟨o, a, b⟩ := hj; ⟨o, H.base _ _ a, b⟩
  refine call_meth (id := "dict.get") (pl := pl) H ho (fun K E h t H q => by
      have M := mapOf_of (prog := c.prog) (w := c.w) (hj' h H)
      exact getMethod_builtin (s := c.S h t) M.typeIs PySem.F.plainAttrs_dict PySem.F.slot_dict_get ty_dict_get M.noDict q) (.cons h₁ (.cons h₂ .nil s₂) s₁) (by simp [s₁, s₂]) hee fun vs' h' t' H' r => ?_
  obtain ⟨_, _, rfl, ⟨u, rfl⟩, dflt, _, rfl, p, rfl⟩ := r
  have M := mapOf_of (prog := c.prog) (w := c.w) (hj' h' H')
  exact .of (call_meetsIn PySem.F.slot_dict_get (Heap.MapOf.typeIs (s := c.S h' t') M) PySem.F.entry_dict_get (PySem.F.args_dict_get_3 _ _ _) (meets_dict_get_default (intKind c.prog c.w) d (intKind_is _ _ k u) lo dflt) ⟨f, M, ⟨h', t' + 1, rfl, q _ h' _ p H'⟩⟩)
theorem dict_ {Q : Value → Heap → Nat → Prop} (H : Led g ms h) (q : ∀ a h' t', (∀ b o, h.get? b = some o → b < a) → Led g ((a, OMap (fun _ => none) 0) :: ms) h' → Q (.ref a) h' t') : W c A (eval (.Dict [] [] pos) env) Q E h t :=
  .of (wpAny_Dict_empty ⟨_, t, rfl, q _ _ t (fun _ _ e => Heap.lt_size e) (H.push { cls := .type "dict", data := .dict #[] } rfl ⟨⟨rfl, rfl, rfl⟩, #[], 0, rfl, fun _ h => (by simp at h), fun _ => rfl, Nat.le_refl _⟩)⟩)
end
end
section
noncomputable def keyAt (o : List UInt8) (i : Nat) : Int := (o.getD i 0).toNat + 256 * (o.getD (i + 1) 0).toNat + 65536 * (o.getD (i + 2) 0).toNat
noncomputable def lastS (o : List UInt8) (key : Int) : Nat → Option Nat
  | 0 => none
  | m + 1 => if m + 3 ≤ o.length ∧ keyAt o m = key then some m else lastS o key m
noncomputable def optI : Option Nat → Int
  | some j => j
  | none => -1
noncomputable def prevS (o : List UInt8) (k : Nat) : Int := if k + 3 ≤ o.length then optI (lastS o (keyAt o k) k) else -1
noncomputable def OHeads (o : List UInt8) (m : Nat) (ob : Obj) : Prop := ∃ f n, OMap f n ob ∧ n ≤ m ∧ ∀ key, (lastS o key m = none → f key = none) ∧ ∀ j, lastS o key m = some j → ∃ u, f key = some (.int j u)
noncomputable def OEarl (o : List UInt8) (m : Nat) (ob : Obj) : Prop := ∃ vs, OList vs ob ∧ IntsAre vs ((List.range m).map (prevS o))
theorem lastS_lt {o : List UInt8} {key : Int} : ∀ {m j : Nat}, lastS o key m = some j → j < m
  | 0, _, h => nomatch h
  | m + 1, j, h => by
    unfold lastS at h
    split at h
    · cases h; omega
    · have := lastS_lt h; omega
structure ChI (g : Heap) (x dx hd ea : Addr) (o : List UInt8) (yo : Tok) : Prop where
  ix : g.get? x = some (instObj 99 dx)
  ia : ∃ ob, g.get? dx = some ob ∧ OAttr [("octets", .bytes o.toArray yo), ("heads", .ref hd), ("earlier", .ref ea)] ob
theorem ChI.keeps {g g' : Heap} {x dx hd ea : Addr} {o : List UInt8} {yo : Tok} (C : ChI g x dx hd ea o yo) (k : g.StaysIn g') : ChI g' x dx hd ea o yo :=
  ⟨k _ _ C.ix, let ⟨ob, a, b⟩ := C.ia; ⟨ob, k _ _ a, b⟩⟩
theorem instObj_heads {C dx : Addr} {o : List UInt8} {m : Nat} (h : OHeads o m (instObj C dx)) : False := by
  obtain ⟨f, n, ⟨_, es, ep, e, _⟩, _⟩ := h
  cases e
theorem instObj_earl {C dx : Addr} {o : List UInt8} {m : Nat} (h : OEarl o m (instObj C dx)) : False := by
  obtain ⟨vs, ⟨n, e⟩, _⟩ := h
  cases e
section
variable {w : World} {σ : Shared} {A : Around} {E : Value → Heap → Nat → Prop} {h : Heap} {t n : Nat} {Q : Value → Heap → Nat → Prop}
set_option maxHeartbeats 4000000 in
theorem key_at_ {o : List UInt8} {i₁ : Int} (a : Nat) {y₀ y₁ : Tok} (G : Gl w h) (hA : Room A (n + 1)) (hz : o.length ≤ 1000) (e₁ : i₁ = a) (ha : a + 3 ≤ o.length)
    (q : ∀ h' t' u, h.StaysIn h' → Q (.int (keyAt o a) u) h' t') :
    W (cx w σ) A (call (.ref 68) [.bytes o.toArray y₀, .int i₁ y₁]) Q E h t := by
  subst e₁
  refine callF0 (binds := [("octets", _), ("at", _)]) (G.X 68 _ (by rfl)) (by rfl) (by rfl) (by rfl) hA G.lim (codeRec_of G.X (by kernel_rfl)) (BindsTo.of_eq rfl) (by decide) (locs rfl) rfl rfl rfl rfl rfl ?_
  clear hA
  rintro A env h₀ t₀ hA N - H -
  dsimp only at N
  refine Xs.ret H (P := IsI (keyAt o a)) (EvI.add (EvI.add (EvI.octet (n := a) (by walk_at "ev") (by walk_at "ev") rfl (by omega) hz rfl) (EvI.mulS (by walk_at "ev") (EvI.octet (n := a + 1) (by walk_at "ev") (by walk_at "ev") (by omega) (by omega) hz rfl) (by decide)))
    (EvI.mulS (by walk_at "ev") (EvI.octet (n := a + 2) (by walk_at "ev") (by walk_at "ev") (by omega) (by omega) hz rfl) (by decide))) ?_
  rintro v h' t' ⟨u, rfl⟩ H'
  exact q h' t' u H'.base
noncomputable abbrev chE (hd ea : Addr) (o : List UInt8) (m : Nat) : List Entry := [(hd, OHeads o m), (ea, OEarl o m)]
inductive PUJ (g : Heap) (L x hd ea : Addr) (y₁ : Tok) (o : List UInt8) (e : Nat) (k : Nat) (g' : Heap) (ms' : List Entry) : Prop
  | mk (h0 : g' = g) (i : Nat) (f : Int → Option Value) (nf : Nat) (vs : List Value) (h1 : k = e - i) (h2 : i ≤ e) (h3 : nf ≤ i) (h4 : ∀ key, (lastS o key i = none → f key = none) ∧ ∀ j, lastS o key i = some j → ∃ u, f key = some (.int j u)) (h5 : IntsAre vs ((List.range i).map (prevS o)))
    (h6 : ms' = [(L, OLoc [("self", .ref x), ("end", .int e y₁)]), (hd, OMap f nf), (ea, OList vs)]) : PUJ g L x hd ea y₁ o e k g' ms'
set_option maxHeartbeats 4000000 in
theorem put_ {g : Heap} {o : List UInt8} {x dx hd ea : Addr} {yo : Tok} {i₁ : Int} (m e : Nat) {y₁ : Tok} (G : Gl w g) (hA : Room A (n + 2)) (C : ChI g x dx hd ea o yo) (kg : g.StaysIn h) (o1 : g.get? hd = none) (o2 : g.get? ea = none)
    (hz : o.length ≤ 900) (e₁ : i₁ = e) (hme : m ≤ e) (he : e ≤ 900) (hs : (hd == sysModules) = false)
    (hh : ∃ ob, h.get? hd = some ob ∧ OHeads o m ob) (hE : ∃ ob, h.get? ea = some ob ∧ OEarl o m ob) (hn : hd ≠ ea)
    (q : ∀ h' t', Ext [hd, ea] h h' → (∃ ob, h'.get? hd = some ob ∧ OHeads o e ob) → (∃ ob, h'.get? ea = some ob ∧ OEarl o e ob) → Q .none h' t') :
    W (cx w σ) A (call (.ref 89) [.ref x, .int i₁ y₁]) Q E h t := by
  subst e₁
  have kh : g.StaysIn (hideAll h [hd, ea]) := fun b ob eb => hideAll_get _ (kg b ob eb) (by
    simp only [List.mem_cons, List.not_mem_nil, or_false]
    rintro (rfl | rfl)
    · rw [o1] at eb; cases eb
    · rw [o2] at eb; cases eb)
  have Gh := G.keeps kg
  refine callF (chE hd ea o m) (binds := [("self", _), ("end", _)]) (Gh.X 89 _ (by rfl)) (by rfl) (by rfl) (by rfl) hA Gh.lim (codeRec_of Gh.X (by kernel_rfl)) (BindsTo.of_eq rfl) (by decide) (locs rfl) rfl rfl rfl rfl rfl ?_ (by simp [hn]) ?_
  · rintro p hp
    simp only [List.mem_cons, List.not_mem_nil, or_false] at hp
    rcases hp with rfl | rfl
    · exact hh
    · exact hE
  clear hA Gh
  rintro A env h₀ t₀ hA N - H -
  dsimp only at N
  replace G := G.keeps kh
  replace C := C.keeps kh
  have fin : ∀ h' t', Led (hideAll h ((chE hd ea o m).map (·.1))) [(hd, OHeads o e), (ea, OEarl o e)] h' → Q .none h' t' := fun h' t' H' => q h' t' H'.done (H'.at 0 rfl) (H'.at 1 rfl)
  clear q hh hE kh kg
  change ∀ h' t', Led (hideAll h [hd, ea]) [(hd, OHeads o e), (ea, OEarl o e)] h' → Q .none h' t' at fin
  change Led (hideAll h [hd, ea]) [(env.locals, _), (hd, OHeads o m), (ea, OEarl o m)] h₀ at H
  generalize hideAll h [hd, ea] = g at G C H fin
  obtain ⟨ix, ia⟩ := C
  obtain ⟨ob1, a1, f, nf, b1, hnf, hf⟩ := H.at 1 rfl
  obtain ⟨ob2, a2, vs, b2, hvs⟩ := H.at 2 rfl
  have H' := (H.put (P' := OMap f nf) 1 rfl (Heap.SameBut.refl ..) ⟨ob1, a1, b1⟩).put (P' := OList vs) 2 rfl (Heap.SameBut.refl ..) ⟨ob2, a2, b2⟩
  refine Xs.while (PUJ g env.locals x hd ea y₁ o e) (e - m) ⟨rfl, m, f, nf, vs, rfl, hme, hnf, hf, hvs, rfl⟩ (H'.weaken 0 rfl (OLoc.sub (by walk_at "ls"))) ?_
  clear H H' a1 a2 b1 b2 hnf hf hvs hme
  rintro k g ms ⟨rfl, i, f, nf, vs, rfl, hi, hnf, hf, hvs, rfl⟩
  have hlen : vs.length = i := by rw [hvs.length]; simp
  refine ⟨decide ((vs.length : Int) < e), .ints (EvI.lenL 2 (by walk_at "ev") (by walk_at "ev") rfl (by omega) rfl) (by walk_at "ev") rfl rfl, ?_, ?_⟩
  · intro hb h₁ t₁ H₁
    rw [decide_eq_true_eq] at hb
    refine Xs.assign H₁ (EvI.lenL 2 (by walk_at "ev") (by walk_at "ev") rfl (by omega) rfl) N (by kernel_rfl) rfl ?_
    rintro v h₂ t₂ ⟨u₂, rfl⟩ H₂
    refine Xs.assign H₂ (P := IsI (-1)) (by walk_at "ev") N (by kernel_rfl) rfl ?_
    rintro v h₃ t₃ ⟨u₃, rfl⟩ H₃
    rw [hlen] at H₃
    refine Xs.iteJ (fun h' t' => ∃ f' nf' b u, nf' ≤ i + 1 ∧ (∀ key, (lastS o key (i + 1) = none → f' key = none) ∧ ∀ j, lastS o key (i + 1) = some j → ∃ u, f' key = some (.int j u)) ∧ b = prevS o i ∧
        Led g [(env.locals, OLoc [("before", .int b u), ("self", .ref x), ("end", .int e y₁)]), (hd, OMap f' nf'), (ea, OList vs)] h') H₃ (b := decide ((i : Int) + 3 ≤ o.length)) (.ints (by walk_at "ev") (EvI.lenY (by walk_at "ev") (by walk_at "ev") (by omega) rfl) rfl rfl) ?_ ?_ ?_
    · intro hb2 h₄ t₄ H₄
      rw [decide_eq_true_eq] at hb2
      refine Xs.assign H₄ (P := IsI (keyAt o i)) (EvV.fn (fa := 68) (EvX.glob (gn_key_at G) N (by kernel_rfl) (by kernel_rfl)) ⟨_, _, G.X 68 _ (by rfl), rfl⟩ (.cons (P := IsY o) (by walk_at "ev") (.cons (P := IsI i) (by walk_at "ev") .nil rfl) rfl) rfl ?_) N (by kernel_rfl) rfl ?_
      · rintro Q E h t
        refine argsB_yi fun u₁ u₂ H q => ?_
        exact key_at_ i (G.keeps H.base) hA (by omega) rfl (by omega) fun h' t' u k => q _ h' t' k (isI _ _)
      rintro v h₅ t₅ ⟨u₅, rfl⟩ H₅
      refine Xs.assignE (dget_ 1 H₅ (by walk_at "ev") rfl hs (k := keyAt o i) (by walk_at "ev") (dv := IsI (-1)) (by walk_at "ev") rfl rfl ?_ rfl) rfl
      rintro _ h₆ t₆ ⟨u₆, rfl⟩ H₆
      obtain ⟨u₇, e₇⟩ : ∃ u, (f (keyAt o i)).getD (.int (-1) u₆) = .int (prevS o i) u := by
        unfold prevS
        rw [if_pos (by omega)]
        cases hl : lastS o (keyAt o i) i with
        | none => rw [(hf _).1 hl]; exact ⟨_, rfl⟩
        | some j => obtain ⟨u, e⟩ := (hf _).2 j hl; rw [e]; exact ⟨_, rfl⟩
      rw [e₇]
      refine store_loc H₆ N (by kernel_rfl) fun h₇ H₇ => ?_
      refine Xs.setSub H₇ (P := fun v => v = .int i u₂) (by walk_at "ev") (ov := .ref hd) (by walk_at "ev") (R := IsI (keyAt o i)) (by walk_at "ev") rfl ?_
      rintro _ _ h₈ t₈ H₈ rfl ⟨u₈, rfl⟩
      refine dictSet_ 1 H₈ rfl (by omega) fun h₉ H₉ => Mid.nil ⟨_, _, _, _, ?_, ?_, rfl, H₉.weaken 0 rfl (OLoc.sub (by walk_at "ls"))⟩
      · omega
      · intro key
        unfold lastS
        by_cases hk : key = keyAt o i
        · subst hk
          rw [if_pos ⟨by omega, rfl⟩, if_pos rfl]
          exact ⟨fun e => (nomatch e), fun j e => by cases e; exact ⟨u₂, rfl⟩⟩
        · rw [if_neg (fun e => hk e.2.symm), if_neg hk]
          exact hf key
    · intro hb2 h₄ t₄ H₄
      rw [decide_eq_false_iff_not] at hb2
      refine Mid.nil ⟨f, nf, -1, u₃, by omega, fun key => ?_, ?_, H₄.weaken 0 rfl (OLoc.sub (by walk_at "ls"))⟩
      · unfold lastS
        rw [if_neg (fun e => by omega)]
        exact hf key
      · unfold prevS; rw [if_neg (by omega)]
    · rintro h' t' ⟨f', nf', b, u, hnf', hf', hb', H'⟩
      refine Xs.append 2 H' (by walk_at "ev") rfl (by omega) (P := IsI b) (by walk_at "ev") N ?_ rfl rfl
      rintro v h₂ t₂ ⟨u₂, rfl⟩ H₂
      refine Xs.nil ⟨e - (i + 1), g, _, by omega, ⟨rfl, i + 1, f', nf', (vs ++ [Value.int b u₂] : List Value), rfl, by omega, by omega, hf', ?_, rfl⟩, H₂.weaken 0 rfl (OLoc.sub (by walk_at "ls"))⟩
      rw [List.range_succ, List.map_append, hb']
      exact hvs.append (.cons _ _ .nil)
  · intro hb h₁ t₁ H₁
    rw [decide_eq_false_iff_not] at hb
    have : i = e := by omega
    subst this
    refine Xs.nil (fin h₁ t₁ ((H₁.tail.weaken 0 rfl fun ob hob => ⟨f, nf, hob, hnf, hf⟩).weaken 1 rfl fun ob hob => ⟨vs, hob, hvs⟩))
end
end
section
noncomputable def walkS (o : List UInt8) (key : Int) (a mb : Nat) : Nat → Nat → List Nat
  | 0, _ => []
  | m + 1, k => if m + 3 ≤ o.length ∧ keyAt o m = key then (if k = 0 ∨ mb < a - m then [] else m :: walkS o key a mb m (k - 1)) else walkS o key a mb m k
noncomputable def placesS (o : List UInt8) (a mb k : Nat) : List Nat := if a + 3 ≤ o.length then walkS o (keyAt o a) a mb a k else []
theorem walkS_none {o : List UInt8} {key : Int} {a mb : Nat} : ∀ {m k : Nat}, lastS o key m = none → walkS o key a mb m k = []
  | 0, _, _ => rfl
  | m + 1, k, h => by
    unfold lastS at h
    split at h
    · cases h
    · rename_i hn
      unfold walkS
      rw [if_neg hn]
      exact walkS_none h
theorem walkS_some {o : List UInt8} {key : Int} {a mb j : Nat} : ∀ {m k : Nat}, lastS o key m = some j → keyAt o j = key ∧ j + 3 ≤ o.length ∧ walkS o key a mb m k = if k = 0 ∨ mb < a - j then [] else j :: walkS o key a mb j (k - 1)
  | 0, _, h => nomatch h
  | m + 1, k, h => by
    unfold lastS at h
    split at h
    · rename_i hn
      cases h
      refine ⟨hn.2, hn.1, ?_⟩
      conv => lhs; unfold walkS
      rw [if_pos hn]
    · rename_i hn
      obtain ⟨a1, a2, a3⟩ := walkS_some (a := a) (mb := mb) (k := k) h
      refine ⟨a1, a2, ?_⟩
      rw [← a3]
      conv => lhs; unfold walkS
      rw [if_neg hn]
theorem walkS_len (o : List UInt8) (key : Int) (a mb : Nat) : ∀ (m k : Nat), (walkS o key a mb m k).length ≤ m
  | 0, _ => Nat.le_refl _
  | m + 1, k => by
    unfold walkS
    split
    · split
      · simp
      · have := walkS_len o key a mb m (k - 1); simp; omega
    · have := walkS_len o key a mb m k; omega
section
variable {w : World} {σ : Shared} {A : Around} {E : Value → Heap → Nat → Prop} {h : Heap} {t n : Nat} {Q : Value → Heap → Nat → Prop}
inductive PLJ (h : Heap) (L r x : Addr) (y₁ y₂ y₃ : Tok) (o : List UInt8) (a mb k : Nat) (mm : Nat) (g' : Heap) (ms' : List Entry) : Prop
  | mk (h0 : g' = h) (i : Nat) (vs : List Value) (l : List Nat) (u : Tok) (hi : Int) (h1 : mm = i) (h2 : i ≤ a) (h3 : hi = optI (lastS o (keyAt o a) i)) (h4 : IntsAre vs (l.map Int.ofNat)) (h5 : l.length + i ≤ a) (h6 : l.length ≤ k) (h7 : l ++ walkS o (keyAt o a) a mb i (k - l.length) = walkS o (keyAt o a) a mb a k)
    (h8 : ms' = [(L, OLoc [("here", .int hi u), ("found", .ref r), ("self", .ref x), ("at", .int a y₁), ("most_back", .int mb y₂), ("tries", .int k y₃)]), (r, OList vs)]) : PLJ h L r x y₁ y₂ y₃ o a mb k mm g' ms'
set_option maxHeartbeats 4000000 in
theorem places_ {o : List UInt8} {x dx hd ea : Addr} {yo : Tok} {i₁ i₂ i₃ : Int} (a mb k : Nat) {y₁ y₂ y₃ : Tok} (G : Gl w h) (hA : Room A (n + 2)) (C : ChI h x dx hd ea o yo)
    (hz : o.length ≤ 900) (e₁ : i₁ = a) (e₂ : i₂ = mb) (e₃ : i₃ = k) (ha : a ≤ 900) (hs : (hd == sysModules) = false)
    (hh : ∃ ob, h.get? hd = some ob ∧ OHeads o a ob) (hE : ∃ ob, h.get? ea = some ob ∧ OEarl o a ob)
    (q : ∀ r h' t' vs, h.StaysIn h' → h.get? r = none → h'.IsList r vs.toArray → IntsAre vs ((placesS o a mb k).map Int.ofNat) → Q (.ref r) h' t') :
    W (cx w σ) A (call (.ref 96) [.ref x, .int i₁ y₁, .int i₂ y₂, .int i₃ y₃]) Q E h t := by
  subst e₁ e₂ e₃
  refine callF0 (binds := [("self", _), ("at", _), ("most_back", _), ("tries", _)]) (G.X 96 _ (by rfl)) (by rfl) (by rfl) (by rfl) hA G.lim (codeRec_of G.X (by kernel_rfl)) (BindsTo.of_eq rfl) (by decide) (locs rfl) rfl rfl rfl rfl rfl ?_
  clear hA
  rintro A env h₀ t₀ hA N - H -
  dsimp only at N
  obtain ⟨ix, ia⟩ := C
  obtain ⟨ob1, a1, f, nf, b1, hnf, hf⟩ := hh
  obtain ⟨ob2, a2, ve, b2, hve⟩ := hE
  have hve' : h.IsList ea ve.toArray := isList_of ⟨ob2, a2, b2⟩
  refine Xs.assignNil H N (by kernel_rfl) fun r h₁ t₁ H₁ => ?_
  refine Xs.ite H₁ (b := decide ((o.length : Int) < a + 3)) (.ints (by walk_at "ev") (EvI.lenY (by walk_at "ev") (by walk_at "ev") (by omega) rfl) rfl rfl) ?_ ?_
  · intro hb h₂ t₂ H₂
    rw [decide_eq_true_eq] at hb
    refine Xs.ret H₂ (P := fun v => v = .ref r) (by walk_at "ev") ?_
    rintro _ h₃ t₃ rfl H₃
    refine q r h₃ t₃ [] H₃.base (H₃.off 1 rfl) (isList_of (H₃.at 1 rfl)) ?_
    unfold placesS
    rw [if_neg (by omega)]
    exact .nil
  intro hb h₂ t₂ H₂
  rw [decide_eq_false_iff_not] at hb
  have hp : placesS o a mb k = walkS o (keyAt o a) a mb a k := by unfold placesS; rw [if_pos (by omega)]
  rw [hp] at q
  refine Xs.nilT ?_
  refine Xs.assignE (dgetA_ H₂ (by walk_at "ev") ⟨ob1, a1, b1⟩ hs (k := keyAt o a) (EvV.fn (fa := 68) (EvX.glob (gn_key_at G) N (by kernel_rfl) (by kernel_rfl)) ⟨_, _, G.X 68 _ (by rfl), rfl⟩ (.cons (P := IsY o) (by walk_at "ev") (.cons (P := IsI a) (by walk_at "ev") .nil rfl) rfl) rfl ?_) (dv := IsI (-1)) (by walk_at "ev") rfl rfl ?_ rfl) rfl
  · rintro Q E h t
    refine argsB_yi fun u₁ u₂ H q => ?_
    exact key_at_ a (G.keeps H.base) hA (by omega) rfl (by omega) fun h' t' u k => q _ h' t' k (isI _ _)
  rintro _ h₃ t₃ ⟨u₃, rfl⟩ H₃
  obtain ⟨u₄, e₄⟩ : ∃ u, (f (keyAt o a)).getD (.int (-1) u₃) = .int (optI (lastS o (keyAt o a) a)) u := by
    cases hl : lastS o (keyAt o a) a with
    | none => rw [(hf _).1 hl]; exact ⟨_, rfl⟩
    | some j => obtain ⟨u, e⟩ := (hf _).2 j hl; rw [e]; exact ⟨_, rfl⟩
  rw [e₄]
  refine store_loc H₃ N (by kernel_rfl) fun h₄ H₄ => ?_
  refine Xs.while (PLJ h env.locals r x y₁ y₂ y₃ o a mb k) a ⟨rfl, a, [], [], u₄, _, rfl, Nat.le_refl _, rfl, .nil, by simp, Nat.zero_le _, rfl, rfl⟩ (H₄.weaken 0 rfl (OLoc.sub (by walk_at "ls"))) ?_
  clear H H₁ H₂ H₃ H₄ e₄
  rintro i g ms ⟨rfl, _, vs, l, u, hi, rfl, hia, ehi, hvs, hla, hlk, hw, rfl⟩
  have hlen : vs.length = l.length := by rw [hvs.length]; simp
  refine ⟨decide ((0 : Int) ≤ hi) && (decide ((a : Int) - hi ≤ mb) && decide ((vs.length : Int) < k)), .all (.and (.ints (by walk_at "ev") (by walk_at "ev") rfl rfl) fun _ => .and (.ints (by walk_at "ev") (by walk_at "ev") rfl rfl) fun _ => .and1 (.ints (EvI.lenL 1 (by walk_at "ev") (by walk_at "ev") rfl (by omega) rfl) (by walk_at "ev") rfl rfl)), ?_, ?_⟩
  · intro hb h₅ t₅ H₅
    simp only [Bool.and_eq_true, decide_eq_true_eq] at hb
    cases hl : lastS o (keyAt o a) i with
    | none => rw [hl] at ehi; simp only [optI] at ehi; omega
    | some j =>
      rw [hl] at ehi
      change hi = (j : Int) at ehi
      subst ehi
      obtain ⟨w1, w2, w3⟩ := walkS_some (a := a) (mb := mb) (k := k - l.length) hl
      have hj := lastS_lt hl
      refine Xs.append 1 H₅ (by walk_at "ev") rfl (by omega) (P := IsI j) (by walk_at "ev") N ?_ rfl rfl
      rintro v h₆ t₆ ⟨u₆, rfl⟩ H₆
      refine Xs.assign H₆ (P := IsI (((List.range a).map (prevS o)).getD j 0)) (EvI.gint j (by walk_at "ev") (by walk_at "ev") hve' hve rfl (by simp; omega) (by simp; omega) rfl) N (by kernel_rfl) rfl ?_
      rintro v h₇ t₇ ⟨u₇, rfl⟩ H₇
      have e7 : ((List.range a).map (prevS o)).getD j 0 = optI (lastS o (keyAt o a) j) := by
        rw [getD_of_get (x := prevS o j)]
        · unfold prevS; rw [if_pos w2, w1]
        · rw [List.getElem?_map, List.getElem?_range (by omega)]; rfl
      refine Xs.nil ⟨j, g, _, hj, ⟨rfl, j, (vs ++ [Value.int j u₆] : List Value), l ++ [j], u₇, _, rfl, by omega, e7, ?_, ?_, ?_, ?_, rfl⟩, H₇.weaken 0 rfl (OLoc.sub (by walk_at "ls"))⟩
      · rw [List.map_append]; exact hvs.append (.cons _ _ .nil)
      · rw [List.length_append, List.length_singleton]; omega
      · rw [List.length_append, List.length_singleton]; omega
      · rw [← hw, w3, if_neg (by omega), List.append_assoc, List.length_append, List.length_singleton, ← Nat.sub_sub]
        rfl
  · intro hb h₅ t₅ H₅
    refine Xs.ret H₅ (P := fun v => v = .ref r) (by walk_at "ev") ?_
    rintro _ h₆ t₆ rfl H₆
    have : walkS o (keyAt o a) a mb i (k - l.length) = [] := by
      cases hl : lastS o (keyAt o a) i with
      | none => exact walkS_none hl
      | some j =>
        rw [hl] at ehi
        change hi = (j : Int) at ehi
        obtain ⟨w1, w2, w3⟩ := walkS_some (a := a) (mb := mb) (k := k - l.length) hl
        rw [w3, if_pos]
        have hj := lastS_lt hl
        rw [← Bool.not_eq_true, Bool.and_eq_true, Bool.and_eq_true, decide_eq_true_eq, decide_eq_true_eq, decide_eq_true_eq] at hb
        omega
    rw [this, List.append_nil] at hw
    exact q r h₆ t₆ vs H₆.base (H₆.off 1 rfl) (isList_of (H₆.at 1 rfl)) (hw ▸ hvs)
end
end
section
section
variable {c : Cx} {A : Around} {env : Env} {g : Heap} {ms : List Entry} {ns : List (Str × NameKind)} {E : Value → Heap → Nat → Prop} {h : Heap} {t : Nat} {rest : List Stmt} {l la : List (Str × Value)} {pos p : Pos} {x : Str}
theorem Xs.setAttr {o value : Expr} {name : Str} {Q : Flow → Heap → Nat → Prop} (he : W c A (eval value env) (fun v h₁ t₁ => W c A (eval o env) (fun ov h₂ t₂ => W c A (PySem.setAttr ov name v) (fun _ h₃ t₃ => Xs c A env rest Q E h₃ t₃) E h₂ t₂) E h₁ t₁) E h t) (hc : notComp value = true) :
    Xs c A env (.Assign [.Attribute o name p] value pos :: rest) Q E h t :=
  Xs.cons (.of (plainObj_wpAny_Assign_Attribute (cps (he.mono (fun v h₁ t₁ q => cps (q.mono (fun ov h₂ t₂ q => cps (q.mono (fun _ h₃ t₃ q => ⟨h₃, t₃, rfl, q⟩) fun _ _ _ e => e)) fun _ _ _ e => e)) fun _ _ _ e => e)) (swaps_of hc ..)))
theorem EvV.w {e : Expr} {P : Value → Prop} {Q : Value → Heap → Nat → Prop} (he : EvV c A env g ms e P) (H : Led g ms h) (k : ∀ v h' t', P v → Led g ms h' → Q v h' t') : W c A (eval e env) Q E h t := he Q E h t H fun v h' t' H' p => k v h' t' p H'
theorem ite_ {test body orelse : Expr} {b : Bool} {Q : Value → Heap → Nat → Prop} (H : Led g ms h) (ht : Tst c A env g ms test b) (h1 : b = true → ∀ h' t', Led g ms h' → W c A (eval body env) Q E h' t') (h2 : b = false → ∀ h' t', Led g ms h' → W c A (eval orelse env) Q E h' t') :
    W c A (eval (.IfExp test body orelse pos) env) Q E h t := by
  refine .of (wpAny_IfExp (cps (ht _ E h t H fun h' t' H' => ?_)))
  cases b with
  | true => rw [if_pos rfl]; exact (h1 rfl h' t' H').to
  | false => rw [if_neg (by decide)]; exact (h2 rfl h' t' H').to
theorem assign_loc {v : Value} {Q : Unit → Heap → Nat → Prop} (H : Led g ((env.locals, OLoc l) :: ms) h) (N : EnvN env ns) (hx : ns.lookup x = some .local)
    (k : ∀ h' t', Led g ((env.locals, OLoc ((x, v) :: l)) :: ms) h' → Q () h' t') : W c A (PySem.assign (.Name x p) env v) Q E h t :=
  .of (assign_Name (cps (store_loc H N hx fun h' H' => ⟨h', _, rfl, k h' _ H'⟩)))
theorem IterOk.mono {target : Expr} {n n' : Nat} {P P' : Nat → Value → Prop} {it : Value} (k : IterOk c A target g ms n P it h) (hn : n = n') (hP : ∀ i v, P i v → P' i v) : IterOk c A target g ms n' P' it h := by
  subst hn
  obtain ⟨I, fp, St, e, T, st, a, b⟩ := k
  exact ⟨I, fp, St, e, ⟨⟨T.walks.sub, T.walks.frame, fun i s Q E hi st q => T.walks.item i s Q E hi st fun v h' tk p => q v h' tk (hP i v p), T.walks.done, T.walks.self⟩, T.alive, T.go⟩, st, a, b⟩
theorem EvI.tupL {value slice : Expr} {vs : List Value} {b : Addr} {i m : Int} {n : Nat} {u : Tok} (j : Nat) (hv : EvX c A env g ms value (.ref b)) (hs : EvI c A env g ms slice i) (hj : ms[j]? = some (b, OTup vs)) (hn : i = n) (hx : vs[n]? = some (.int m u)) (hz : vs.length ≤ 100000) (hp : notSlice slice = true) :
    EvI c A env g ms (.Subscript value slice pos) m := EvX.int (EvX.tupAt hv hs (fun _ H => isTup_of (H.at j hj)) hn hx hz hp)
theorem EvI.tupG {value slice : Expr} {vs : List Value} {b : Addr} {i m : Int} {n : Nat} {u : Tok} (hv : EvX c A env g ms value (.ref b)) (hs : EvI c A env g ms slice i) (hj : IsTup g b vs.toArray) (hn : i = n) (hx : vs[n]? = some (.int m u)) (hz : vs.length ≤ 100000) (hp : notSlice slice = true) :
    EvI c A env g ms (.Subscript value slice pos) m := EvX.int (EvX.gtup hv hs hj hn hx hz hp)
theorem pair_ {e₁ e₂ : Expr} {k : Nat} {P R : Value → Prop} {Q : Value → Heap → Nat → Prop} (H : Led g ms h) (h₁ : EvV c A env g ms e₁ P) (h₂ : EvV c A env g ms e₂ R) (s₁ : noStar e₁ = true) (s₂ : noStar e₂ = true)
    (q : ∀ v₁ v₂ a h' t', P v₁ → R v₂ → Led g ((a, OTup [v₁, v₂]) :: ms) h' → Q (.ref a) h' t') : W c A (eval (.Tuple [e₁, e₂] k pos) env) Q E h t :=
  tup_ H (.cons h₁ (.cons h₂ .nil s₂) s₁) (fun vs r => by obtain ⟨_, _, rfl, _, _, _, rfl, _, rfl⟩ := r; exact Nat.le_of_ble_eq_true rfl) fun vs a h' t' r H' => by
    obtain ⟨v₁, _, rfl, p₁, v₂, _, rfl, p₂, rfl⟩ := r
    exact q v₁ v₂ a h' t' p₁ p₂ H'
theorem Led.fresh {h' : Heap} {W : List Addr} {a : Addr} {P : Obj → Prop} (H : Led (hideAll h W) ms h') (i : Nat) (ei : ms[i]? = some (a, P)) (hw : a ∉ W) : h.get? a = none := by
  cases e : h.get? a with
  | none => rfl
  | some o =>
    have := hideAll_get W e hw
    rw [H.off i ei] at this
    cases this
theorem Led.notin {a : Addr} (H : Led g ms h) (e : h.get? a = none) : a ∉ ms.map (·.1) := fun hm => by
  obtain ⟨o, e'⟩ := H.alive hm
  rw [e] at e'; cases e'
theorem Led.offg {a : Addr} (H : Led g ms h) (e : h.get? a = none) : g.get? a = none := by
  cases e' : g.get? a with
  | none => rfl
  | some o => rw [H.base _ _ e'] at e; cases e
theorem Led.take {h' : Heap} {a : Addr} {P : Obj → Prop} {ms' : List Entry} (H : Led g ms h) (H' : Led g ms' h') (hm : ms'.map (·.1) = ms.map (·.1)) (e : h.get? a = none) (ho : ∃ o, h'.get? a = some o ∧ P o) : Led g ((a, P) :: ms') h' :=
  H'.add (hm ▸ H.notin e) (H.offg e) ho
end
end
section
section
variable {w : World} {σ : Shared} {A : Around} {E : Value → Heap → Nat → Prop} {h : Heap} {t n : Nat} {Q : Value → Heap → Nat → Prop} {env : Env} {g : Heap} {ms : List Entry} {ns : List (Str × NameKind)} {pos p : Pos}
theorem OHeads.zero {o : List UInt8} (ob : Obj) (h : OMap (fun _ => none) 0 ob) : OHeads o 0 ob := ⟨_, 0, h, Nat.le_refl _, fun key => ⟨fun _ => rfl, fun j e => nomatch e⟩⟩
theorem OEarl.zero {o : List UInt8} (ob : Obj) (h : OList [] ob) : OEarl o 0 ob := ⟨[], h, .nil⟩
set_option maxHeartbeats 4000000 in
theorem chains_new {o : List UInt8} {yo : Tok} {e : Expr} (H : Led g ms h) (G : Gl w g) (hA : Room A (n + 2)) (N : EnvN env ns) (hx : ns.lookup ("Chains" : Str) = some .globalImplicit) (he : EvX (cx w σ) A env g ms e (.bytes o.toArray yo)) (hs : noStar e = true)
    (q : ∀ x dx hd ea h' t', (hd == sysModules) = false → Led g ((x, OIs (instObj 99 dx)) :: (dx, OAttr [("octets", .bytes o.toArray yo), ("heads", .ref hd), ("earlier", .ref ea)]) :: (hd, OHeads o 0) :: (ea, OEarl o 0) :: ms) h' → Q (.ref x) h' t') :
    W (cx w σ) A (eval (.Call (.Name "Chains" p) [e] [] pos) env) Q E h t := by
  refine call_cls (K := KK w) (C := 99) (fI := 82) H G.X (EvX.glob (gn_Chains G) N hx (by kernel_rfl)) (by kernel_rfl) (.cons he .nil hs) (by simp [hs]) (by kernel_rfl) (by kernel_rfl) (by kernel_rfl) ?_
  rintro vs x dx h₁ t₁ ⟨_, _, rfl, rfl, rfl⟩ H₁
  have G₁ := G.keeps H₁.base
  refine callFc [(x, OIs (instObj 99 dx)), (dx, OAttr [])] (binds := [("self", _), ("octets", _)]) (G₁.X 82 _ (by rfl)) (by rfl) (by rfl) (by rfl) hA.call G₁.lim (codeRec_of G₁.X (by kernel_rfl)) (BindsTo.of_eq rfl) (by decide) (locs rfl) rfl rfl rfl rfl rfl ?_ ?_ ?_
  · rintro p hp
    simp only [List.mem_cons, List.not_mem_nil, or_false] at hp
    rcases hp with rfl | rfl
    · exact H₁.at 0 rfl
    · exact H₁.at 1 rfl
  · have := H₁.nd
    simp only [List.map_cons, List.nodup_cons, List.mem_cons, not_or] at this ⊢
    simp [this.1.1]
  have GG : Gl w (hideAll h₁ [x, dx]) := G.keeps fun b ob eb => hideAll_get _ (H₁.base b ob eb) (by
    simp only [List.mem_cons, List.not_mem_nil, or_false]
    rintro (rfl | rfl)
    · rw [H₁.off 0 rfl] at eb; cases eb
    · rw [H₁.off 1 rfl] at eb; cases eb)
  have fin : ∀ L ll hd ea h' t', (hd == sysModules) = false → Led (hideAll h₁ [x, dx]) [(L, OLoc ll), (ea, OList []), (hd, OMap (fun _ => none) 0), (x, OIs (instObj 99 dx)), (dx, OAttr [("octets", .bytes o.toArray yo), ("heads", .ref hd), ("earlier", .ref ea)])] h' → Q (.ref x) h' t' := by
    intro L ll hd ea h' t' hs H'
    have nd := H'.nd
    simp only [List.map_cons, List.nodup_cons, List.mem_cons, List.map_nil, List.not_mem_nil, or_false, not_or] at nd
    obtain ⟨_, ⟨n1, n2, n3⟩, ⟨n4, n5⟩, _⟩ := nd
    have f1 := H'.fresh (W := [x, dx]) 1 rfl (by simp [n2, n3])
    have f2 := H'.fresh (W := [x, dx]) 2 rfl (by simp [n4, n5])
    have K1 := H₁.call2 0 1 rfl rfl H'.done (H'.at 3 rfl) (H'.at 4 rfl) (by decide)
    have K2 := H₁.take K1 rfl f2 (H'.at 2 rfl)
    have K3 := K2.add (P := OEarl o 0) (a := ea) (by
      intro hm
      rw [List.map_cons, List.mem_cons] at hm
      rcases hm with e | hm
      · exact n1 e
      · exact H₁.notin f1 hm) (H₁.offg f1) (let ⟨ob, a, b⟩ := H'.at 1 rfl; ⟨ob, a, .zero ob b⟩)
    refine q x dx hd ea h' t' hs ?_
    have nn := K3.nd
    refine (K3.weaken (P' := OHeads o 0) 1 rfl OHeads.zero).sub (fun p hp => ?_) ?_
    · simp only [List.mem_cons, List.set, List.mem_cons] at hp ⊢
      rcases hp with e | e | e | e | e <;> simp [e]
    · simp only [List.map_cons, List.nodup_cons, List.mem_cons, List.set, not_or] at nn ⊢
      obtain ⟨⟨a1, a2, a3, a4⟩, ⟨b1, b2, b3⟩, ⟨c1, c2⟩, d1, d2⟩ := nn
      exact ⟨⟨c1, fun e => b1 e.symm, fun e => a2 e.symm, c2⟩, ⟨fun e => b2 e.symm, fun e => a3 e.symm, d1⟩, ⟨fun e => a1 e.symm, b3⟩, a4, d2⟩
  clear hA hx N he
  rintro A env h₀ t₀ hA N - H -
  dsimp only at N
  change Led (hideAll h₁ [x, dx]) [(env.locals, _), (x, OIs (instObj 99 dx)), (dx, OAttr [])] h₀ at H
  clear G₁ H₁ q
  generalize hideAll h₁ [x, dx] = g at GG H fin
  have isat : ∀ {h : Heap} {a : Addr} {o' : Obj}, (∃ ob, h.get? a = some ob ∧ OIs o' ob) → h.get? a = some o' := fun ⟨ob, a, b⟩ => by rw [a]; exact congrArg some b
  refine Xs.setAttr (EvV.w (P := fun v => v = .bytes o.toArray yo) (by walk_at "ev") H ?_) rfl
  rintro _ h₂ t₂ rfl H₂
  refine EvV.w (P := fun v => v = .ref x) (by walk_at "ev") H₂ ?_
  rintro _ h₃ t₃ rfl H₃
  refine setAttr_ (K := KK w) (C := 99) (j := 2) H₃ GG.X (isat (H₃.at 1 rfl)) rfl (by kernel_rfl) (by kernel_rfl) (by kernel_rfl) (by kernel_rfl) (by with_unfolding_all rfl) (Nat.le_of_ble_eq_true rfl) fun h₄ H₄ => ?_
  refine Xs.setAttr (dict_ H₄ fun hd h₅ t₅ hb H₅ => ?_) rfl
  have hs : (hd == sysModules) = false := by
    obtain ⟨mg, ⟨ob, _, _, eo, _⟩, _⟩ := gn_LEAST GG
    have := hb _ _ (H₄.base _ _ eo)
    rw [beq_eq_false_iff_ne]
    intro e
    subst e
    exact absurd this (by decide)
  refine EvV.w (P := fun v => v = .ref x) (by walk_at "ev") H₅.swap ?_
  rintro _ h₆ t₆ rfl H₆
  refine setAttr_ (K := KK w) (C := 99) (j := 3) H₆ GG.X (isat (H₆.at 2 rfl)) rfl (by kernel_rfl) (by kernel_rfl) (by kernel_rfl) (by kernel_rfl) (by with_unfolding_all rfl) (Nat.le_of_ble_eq_true rfl) fun h₇ H₇ => ?_
  refine Xs.setAttr (list_ H₇ .nil (fun _ r => by subst r; exact Nat.zero_le _) fun vs ea h₈ t₈ r H₈ => ?_) rfl
  subst r
  refine EvV.w (P := fun v => v = .ref x) (by walk_at "ev") H₈.swap ?_
  rintro _ h₉ t₉ rfl H₉
  refine setAttr_ (K := KK w) (C := 99) (j := 4) H₉ GG.X (isat (H₉.at 3 rfl)) rfl (by kernel_rfl) (by kernel_rfl) (by kernel_rfl) (by kernel_rfl) (by with_unfolding_all rfl) (Nat.le_of_ble_eq_true rfl) fun h₁₀ H₁₀ => ?_
  exact Xs.nil ⟨rfl, fin _ _ hd ea h₁₀ _ hs H₁₀⟩
end
end
section
noncomputable def bestS (o : List UInt8) (a ml : Nat) (l : List Nat) : Nat × Nat := l.foldl (fun b p => if b.1 < comm o p a ml then (comm o p a ml, a - p) else b) (0, 0)
theorem bestS_snoc (o : List UInt8) (a ml : Nat) (l : List Nat) (p : Nat) : bestS o a ml (l ++ [p]) = if (bestS o a ml l).1 < comm o p a ml then (comm o p a ml, a - p) else bestS o a ml l := by
  unfold bestS; rw [List.foldl_append]; rfl
noncomputable def matchS (o : List UInt8) (a mb ml k : Nat) : Nat × Nat := let b := bestS o a ml (placesS o a mb k); if 3 ≤ b.1 then b else (0, 0)
theorem walkS_lt {o : List UInt8} {key : Int} {a mb : Nat} : ∀ {m k p : Nat}, p ∈ walkS o key a mb m k → p < m
  | 0, _, _, h => nomatch h
  | m + 1, k, p, h => by
    unfold walkS at h
    split at h
    · split at h
      · cases h
      · rcases List.mem_cons.mp h with rfl | h
        · omega
        · have := walkS_lt h; omega
    · have := walkS_lt h; omega
theorem placesS_lt {o : List UInt8} {a mb k p : Nat} (h : p ∈ placesS o a mb k) : p < a ∧ a + 3 ≤ o.length := by
  unfold placesS at h
  split at h
  · exact ⟨walkS_lt h, by omega⟩
  · cases h
theorem placesS_len (o : List UInt8) (a mb k : Nat) : (placesS o a mb k).length ≤ a := by
  unfold placesS
  split
  · exact walkS_len ..
  · simp
theorem isat {h : Heap} {a : Addr} {o' : Obj} : (∃ ob, h.get? a = some ob ∧ OIs o' ob) → h.get? a = some o' := fun ⟨ob, a, b⟩ => by rw [a]; exact congrArg some b
theorem FnAt.k {w : World} {g : Heap} {fa : Addr} {o : Obj} {fd : FuncData} (h : g.get? fa = some o) (hd : o.data = .func fd) : FnAt g fa := ⟨o, fd, h, hd⟩
section
variable {w : World} {σ : Shared} {A : Around} {E : Value → Heap → Nat → Prop} {h : Heap} {t n : Nat} {Q : Value → Heap → Nat → Prop}
inductive MAJ (L x hd ea : Addr) (y₁ y₃ : Tok) (o : List UInt8) (a ml : Nat) (ps : List Nat) (i : Nat) (ms : List Entry) : Prop
  | mk (b : Addr) (u₁ u₂ : Tok) (h1 : ms = [(L, OLoc [("best", .ref b), ("chains", .ref x), ("at", .int a y₁), ("most_length", .int ml y₃)]), (b, OTup [.int (bestS o a ml (ps.take i)).1 u₁, .int (bestS o a ml (ps.take i)).2 u₂]), (hd, OHeads o a), (ea, OEarl o a)]) : MAJ L x hd ea y₁ y₃ o a ml ps i ms
set_option maxHeartbeats 4000000 in
theorem match_at_ {g : Heap} {o : List UInt8} {x dx hd ea : Addr} {yo : Tok} {i₁ i₂ i₃ i₄ : Int} (m a mb ml k : Nat) {y₁ y₂ y₃ y₄ : Tok} (G : Gl w g) (hA : Room A (n + 4)) (C : ChI g x dx hd ea o yo) (kg : g.StaysIn h) (o1 : g.get? hd = none) (o2 : g.get? ea = none)
    (hz : o.length ≤ 900) (e₁ : i₁ = a) (e₂ : i₂ = mb) (e₃ : i₃ = ml) (e₄ : i₄ = k) (hma : m ≤ a) (ha : a ≤ 900) (hs : (hd == sysModules) = false)
    (hh : ∃ ob, h.get? hd = some ob ∧ OHeads o m ob) (hE : ∃ ob, h.get? ea = some ob ∧ OEarl o m ob) (hn : hd ≠ ea)
    (q : ∀ r h' t' u u', Ext [hd, ea] h h' → (∃ ob, h'.get? hd = some ob ∧ OHeads o a ob) → (∃ ob, h'.get? ea = some ob ∧ OEarl o a ob) → h.get? r = none → (∃ ob, h'.get? r = some ob ∧ OTup [.int (matchS o a mb ml k).1 u, .int (matchS o a mb ml k).2 u'] ob) → Q (.ref r) h' t') :
    W (cx w σ) A (call (.ref 117) [.ref x, .int i₁ y₁, .int i₂ y₂, .int i₃ y₃, .int i₄ y₄]) Q E h t := by
  subst e₁ e₂ e₃ e₄
  have kh : g.StaysIn (hideAll h [hd, ea]) := fun b ob eb => hideAll_get _ (kg b ob eb) (by
    simp only [List.mem_cons, List.not_mem_nil, or_false]
    rintro (rfl | rfl)
    · rw [o1] at eb; cases eb
    · rw [o2] at eb; cases eb)
  have Gh := G.keeps kg
  refine callF (chE hd ea o m) (binds := [("chains", _), ("at", _), ("most_back", _), ("most_length", _), ("tries", _)]) (Gh.X 117 _ (by rfl)) (by rfl) (by rfl) (by rfl) hA Gh.lim (codeRec_of Gh.X (by kernel_rfl)) (BindsTo.of_eq rfl) (by decide) (locs rfl) rfl rfl rfl rfl rfl ?_ (by simp [hn]) ?_
  · rintro p hp
    simp only [List.mem_cons, List.not_mem_nil, or_false] at hp
    rcases hp with rfl | rfl
    · exact hh
    · exact hE
  clear hA Gh
  rintro A env h₀ t₀ hA N - H -
  dsimp only at N
  replace G := G.keeps kh
  replace C := C.keeps kh
  have fin : ∀ r h' t' u u' b, b = matchS o a mb ml k → h.get? r = none → Led (hideAll h ((chE hd ea o m).map (·.1))) [(hd, OHeads o a), (ea, OEarl o a)] h' → (∃ ob, h'.get? r = some ob ∧ OTup [.int b.1 u, .int b.2 u'] ob) → Q (.ref r) h' t' :=
    fun r h' t' u u' b eb hr H' ht => q r h' t' u u' H'.done (H'.at 0 rfl) (H'.at 1 rfl) hr (eb ▸ ht)
  clear q hh hE kh kg
  change ∀ r h' t' u u' b, b = matchS o a mb ml k → h.get? r = none → Led (hideAll h [hd, ea]) [(hd, OHeads o a), (ea, OEarl o a)] h' → (∃ ob, h'.get? r = some ob ∧ OTup [.int b.1 u, .int b.2 u'] ob) → Q (.ref r) h' t' at fin
  change Led (hideAll h [hd, ea]) [(env.locals, _), (hd, OHeads o m), (ea, OEarl o m)] h₀ at H
  refine Xs.assignE (pair_ H (P := IsI 0) (R := IsI 0) (by walk_at "ev") (by walk_at "ev") rfl rfl ?_) rfl
  rintro _ _ b₀ h₁ t₁ ⟨u₁, rfl⟩ ⟨u₂, rfl⟩ H₁
  refine store_loc H₁.swap N (by kernel_rfl) fun h₂ H₂ => ?_
  refine Xs.expr (call_own (K := KK w) (C := 99) (f := 89) H₂ (by walk_at "ev") G.X (Inst.ofG C.ix C.ia) (by kernel_rfl) (by kernel_rfl) (by kernel_rfl) (by with_unfolding_all rfl) ⟨_, _, G.X 89 _ (by rfl), rfl⟩ (.cons (P := IsI a) (by walk_at "ev") .nil rfl) rfl rfl ?_) N rfl
  rintro vs h₃ t₃ H₃ ⟨_, _, rfl, ⟨u₃, rfl⟩, rfl⟩
  refine put_ m a G hA C H₃.base (H₃.off 2 rfl) (H₃.off 3 rfl) hz rfl hma ha hs (H₃.at 2 rfl) (H₃.at 3 rfl) hn fun h₄ t₄ x4 p1 p2 => ⟨fun a e => (nomatch e), ?_⟩
  have H₄ := H₃.call2 2 3 rfl rfl x4 p1 p2 (by decide)
  dsimp only [List.set] at H₄
  clear H H₁ H₂ H₃ x4 p1 p2
  refine Xs.for (g := hideAll h [hd, ea]) (n := (placesS o a mb k).length) (P := fun i v => ∃ p, (placesS o a mb k)[i]? = some p ∧ IsI p v) (MAJ env.locals x hd ea y₁ y₃ o a ml (placesS o a mb k)) ?he ?turn ?fin (fun _ => rfl)
  case he =>
    refine call_own (K := KK w) (C := 99) (f := 96) H₄ (by walk_at "ev") G.X (Inst.ofG C.ix C.ia) (by kernel_rfl) (by kernel_rfl) (by kernel_rfl) (by with_unfolding_all rfl) ⟨_, _, G.X 96 _ (by rfl), rfl⟩ (.cons (P := IsI a) (by walk_at "ev") (.cons (P := IsI mb) (by walk_at "ev") (.cons (P := IsI k) (by walk_at "ev") .nil rfl) rfl) rfl) rfl rfl ?_
    refine argsA_iii fun v₁ v₂ v₃ h₅ t₅ H₅ => ?_
    refine places_ a mb k (G.keeps H₅.base) hA (C.keeps H₅.base) hz rfl rfl rfl ha hs (H₅.at 2 rfl) (H₅.at 3 rfl) fun r h₆ t₆ vs k₆ hr hl hi => ?_
    refine iter_list hA.quiet (H₅.ext k₆) hl (H₅.notin hr) fun it h₇ t₇ H₇ ok => ⟨_, ⟨b₀, u₁, u₂, rfl⟩, H₇.weaken 0 rfl (OLoc.sub (by walk_at "ls")), ok.mono ?_ fun i v e => ?_⟩
    · rw [hi.length]; simp
    · obtain ⟨m, u, rfl, e'⟩ := hi.at i v e
      rw [List.getElem?_map] at e'
      cases hp : (placesS o a mb k)[i]? with
      | none => rw [hp] at e'; cases e'
      | some p => rw [hp] at e'; cases e'; exact ⟨p, rfl, isI _ _⟩
  case turn =>
    rintro i g' ms v h₅ t₅ hi kg' ⟨b, w₁, w₂, rfl⟩ ⟨p, hp, ⟨u, rfl⟩⟩ H₅
    have pm := List.mem_of_getElem? hp
    have pl := placesS_lt pm
    have G' := G.keeps kg'
    obtain ⟨ix, ia⟩ := C.keeps kg'
    refine assign_loc H₅ N (by kernel_rfl) fun h₆ t₆ H₆ => ?_
    refine Xs.assign H₆ (P := IsI (comm o p a ml)) (EvV.fn (fa := 110) (EvX.glob (gn_common_length G') N (by kernel_rfl) (by kernel_rfl)) ⟨_, _, G'.X 110 _ (by rfl), rfl⟩ (.cons (P := IsY o) (by walk_at "ev") (.cons (P := IsI p) (by walk_at "ev") (.cons (P := IsI a) (by walk_at "ev") (.cons (P := IsI ml) (by walk_at "ev") .nil rfl) rfl) rfl) rfl) rfl ?_) N (by kernel_rfl) rfl ?_
    · rintro Q E h t
      refine argsB_yiii fun v₁ v₂ v₃ v₄ H q => ?_
      exact common_length_ (G'.keeps H.base) hA (by omega) pl.1 (by omega) fun h' t' u k => q _ h' t' k (isI _ _)
    rintro v h₇ t₇ ⟨u₇, rfl⟩ H₇
    have snoc := bestS_snoc o a ml ((placesS o a mb k).take i) p
    have tk : (placesS o a mb k).take (i + 1) = (placesS o a mb k).take i ++ [p] := by rw [List.take_add_one, hp]; rfl
    rw [← tk] at snoc
    refine Xs.iteJ (fun h' t' => ∃ b u₁ u₂, Led g' [(env.locals, OLoc [("best", .ref b), ("chains", .ref x), ("at", .int a y₁), ("most_length", .int ml y₃)]), (b, OTup [.int (bestS o a ml ((placesS o a mb k).take (i + 1))).1 u₁, .int (bestS o a ml ((placesS o a mb k).take (i + 1))).2 u₂]), (hd, OHeads o a), (ea, OEarl o a)] h') H₇
      (b := decide (((bestS o a ml ((placesS o a mb k).take i)).1 : Int) < comm o p a ml)) (.ints (by walk_at "ev") (EvI.tupL (i := 0) (n := 0) 1 (by walk_at "ev") (by walk_at "ev") rfl rfl rfl (Nat.le_of_ble_eq_true rfl) rfl) rfl rfl) ?_ ?_ ?_
    · intro hb h₈ t₈ H₈
      rw [decide_eq_true_eq] at hb
      rw [if_pos (by omega)] at snoc
      refine Xs.assignE (pair_ H₈ (P := IsI (comm o p a ml)) (R := IsI ((a - p : Nat) : Int)) (by walk_at "ev") (EvV.eq (n := (a : Int) - p) (by walk_at "ev") (by omega)) rfl rfl ?_) rfl
      rintro _ _ b' h₉ t₉ ⟨u₈, rfl⟩ ⟨u₉, rfl⟩ H₉
      refine store_loc H₉.swap N (by kernel_rfl) fun h' H' => Mid.nil ⟨b', u₈, u₉, ?_⟩
      rw [snoc]
      refine ((H'.weaken 0 rfl (OLoc.sub (l' := [("best", .ref b'), ("chains", .ref x), ("at", .int a y₁), ("most_length", .int ml y₃)]) (by walk_at "ls"))).sub (fun p hp => ?_) ?_)
      · simp only [List.set, List.mem_cons] at hp ⊢
        rcases hp with e | e | e | e | e <;> simp [e]
      · have := H'.nd
        simp only [List.map_cons, List.nodup_cons, List.mem_cons, not_or] at this ⊢
        exact ⟨⟨this.1.1, this.1.2.2⟩, this.2.1.2, this.2.2.2⟩
    · intro hb h₈ t₈ H₈
      rw [decide_eq_false_iff_not] at hb
      rw [if_neg (by omega)] at snoc
      refine Mid.nil ⟨b, w₁, w₂, ?_⟩
      rw [snoc]
      exact H₈.weaken 0 rfl (OLoc.sub (by walk_at "ls"))
    · rintro h' t' ⟨b, u₁, u₂, H'⟩
      exact Xs.nil ⟨_, ⟨b, u₁, u₂, rfl⟩, H'⟩
  case fin =>
    rintro _ h₅ t₅ ⟨b, w₁, w₂, rfl⟩ H₅
    rw [List.take_length] at H₅
    refine Xs.retE (ite_ H₅ (b := decide ((3 : Int) ≤ (bestS o a ml (placesS o a mb k)).1)) (.ints (EvI.tupL (i := 0) (n := 0) 1 (by walk_at "ev") (by walk_at "ev") rfl rfl rfl (Nat.le_of_ble_eq_true rfl) rfl) (by walk_at "ev") rfl rfl) ?_ ?_)
    · intro hb h₆ t₆ H₆
      rw [decide_eq_true_eq] at hb
      refine EvV.w (P := fun v => v = .ref b) (by walk_at "ev") H₆ ?_
      rintro _ h₇ t₇ rfl H₇
      have nd := H₇.nd
      simp only [List.map_cons, List.nodup_cons, List.mem_cons, List.map_nil, List.not_mem_nil, or_false, not_or] at nd
      refine fin b h₇ t₇ w₁ w₂ (bestS o a ml (placesS o a mb k)) ?_ (H₇.fresh (W := [hd, ea]) 1 rfl (by simp [nd.2.1.1, nd.2.1.2])) H₇.tail.tail (H₇.at 1 rfl)
      unfold matchS
      rw [if_pos (by omega)]
    · intro hb h₆ t₆ H₆
      rw [decide_eq_false_iff_not] at hb
      refine pair_ H₆ (P := IsI 0) (R := IsI 0) (by walk_at "ev") (by walk_at "ev") rfl rfl ?_
      rintro _ _ b' h₇ t₇ ⟨u₈, rfl⟩ ⟨u₉, rfl⟩ H₇
      have nd := H₇.nd
      simp only [List.map_cons, List.nodup_cons, List.mem_cons, List.map_nil, List.not_mem_nil, or_false, not_or] at nd
      refine fin b' h₇ t₇ u₈ u₉ (0, 0) ?_ (H₇.fresh (W := [hd, ea]) 0 rfl (by simp [nd.1.2.2.1, nd.1.2.2.2])) H₇.tail.tail.tail (H₇.at 0 rfl)
      unfold matchS
      rw [if_neg (by omega)]
end
end
section
section
variable {c : Cx} {A : Around} {env : Env} {g : Heap} {ms : List Entry} {ns : List (Str × NameKind)} {E : Value → Heap → Nat → Prop} {h : Heap} {t : Nat} {rest : List Stmt} {l la : List (Str × Value)} {pos p : Pos} {x : Str}
theorem Led.perm {ms' : List Entry} (H : Led g ms h) (p : ms.Perm ms') : Led g ms' h :=
  H.sub (fun q hq => p.mem_iff.mpr hq) ((p.map _).nodup_iff.mp H.nd)
noncomputable def ins (x : Entry) : Nat → List Entry → List Entry
  | 0, l => x :: l
  | _ + 1, [] => [x]
  | k + 1, a :: l => a :: ins x k l
theorem perm_ins (x : Entry) : ∀ (k : Nat) (l : List Entry), (x :: l).Perm (ins x k l)
  | 0, _ => .refl _
  | _ + 1, [] => .refl _
  | k + 1, a :: l => (List.Perm.swap a x l).trans ((perm_ins x k l).cons a)
theorem Led.mv {p : Entry} (k : Nat) (H : Led g (p :: ms) h) : Led g (ins p k ms) h := H.perm (perm_ins p k ms)
theorem perm_up : ∀ (l : List Entry) (k : Nat) (x : Entry), l[k]? = some x → (x :: l.eraseIdx k).Perm l
  | [], _, _, e => nomatch e
  | a :: r, 0, x, e => by cases e; exact .refl _
  | a :: r, k + 1, x, e => (List.Perm.swap a x _).trans ((perm_up r k x e).cons a)
theorem Led.up {p : Entry} (k : Nat) (H : Led g ms h) (e : ms[k]? = some p) : Led g (p :: ms.eraseIdx k) h := H.perm (perm_up ms k p e).symm
theorem Led.cut (k : Nat) (H : Led g ms h) : Led g (ms.eraseIdx k) h := H.subl (List.eraseIdx_sublist ..)
theorem Led.join {h' : Heap} {W : List Addr} {ms' new : List Entry} (H : Led g ms h) (H' : Led g ms' h') (hm : ms'.map (·.1) = ms.map (·.1)) (Hn : Led (hideAll h W) new h') (hw : ∀ p ∈ new, p.1 ∉ W) : Led g (ms' ++ new) h' := by
  have fr : ∀ p ∈ new, h.get? p.1 = none := fun p hp => by
    cases e : h.get? p.1 with
    | none => rfl
    | some o =>
      have := hideAll_get W e (hw p hp)
      rw [(Hn.own p hp).1] at this; cases this
  refine ⟨H'.base, fun p hp => ?_, ?_⟩
  · rcases List.mem_append.mp hp with hp | hp
    · exact H'.own p hp
    · exact ⟨H.offg (fr p hp), (Hn.own p hp).2⟩
  · rw [List.map_append, List.nodup_append]
    refine ⟨H'.nd, Hn.nd, fun a ha b hb e => ?_⟩
    obtain ⟨p, hp, rfl⟩ := List.mem_map.mp hb
    rw [hm, e] at ha
    exact H.notin (fr p hp) ha
theorem Led.merge0 {h' : Heap} {new : List Entry} (H : Led g ms h) (Hn : Led h new h') : Led g (ms ++ new) h' :=
  H.join (W := []) (H.ext Hn.base) rfl (by exact Hn) (by simp)
theorem Led.merge2 {h' : Heap} {a b : Addr} {P P' R R' : Obj → Prop} {new : List Entry} (H : Led g ms h) (i j : Nat) (ei : ms[i]? = some (a, P)) (ej : ms[j]? = some (b, R)) (Hn : Led (hideAll h [a, b]) ((a, P') :: (b, R') :: new) h') (hij : i ≠ j) :
    Led g ((ms.set i (a, P')).set j (b, R') ++ new) h' := by
  have ej' : (ms.set i (a, P'))[j]? = some (b, R) := by rw [List.getElem?_set, if_neg hij]; exact ej
  have nd := Hn.nd
  rw [List.map_cons, List.map_cons, List.nodup_cons, List.nodup_cons, List.mem_cons, not_or] at nd
  refine H.join (H.call2 i j ei ej Hn.done (Hn.at 0 rfl) (Hn.at 1 rfl) hij) ((map_fst_set _ _ _ _ _ ej').trans (map_fst_set _ _ _ _ _ ei)) Hn.tail.tail fun p hp hm => ?_
  simp only [List.mem_cons, List.not_mem_nil, or_false] at hm
  rcases hm with e | e
  · exact nd.1.2 (List.mem_map.mpr ⟨p, hp, e⟩)
  · exact nd.2.1 (List.mem_map.mpr ⟨p, hp, e⟩)
theorem Led.merge1 {h' : Heap} {a : Addr} {P P' : Obj → Prop} {new : List Entry} (H : Led g ms h) (i : Nat) (ei : ms[i]? = some (a, P)) (Hn : Led (hideAll h [a]) ((a, P') :: new) h') : Led g (ms.set i (a, P') ++ new) h' := by
  have nd := Hn.nd
  rw [List.map_cons, List.nodup_cons] at nd
  refine H.join (H.call1 i ei Hn.done (Hn.at 0 rfl)) (map_fst_set _ _ _ _ _ ei) Hn.tail fun p hp hm => ?_
  simp only [List.mem_cons, List.not_mem_nil, or_false] at hm
  exact nd.1 (List.mem_map.mpr ⟨p, hp, hm⟩)
theorem Led.split {drop : List Entry} (keep : List Entry) (H : Led g (keep ++ drop) h) : ∃ g', g.StaysIn g' ∧ Led g' keep h ∧ (∀ q ∈ drop, ∃ o, g'.get? q.1 = some o ∧ q.2 o) ∧ ∀ b o, h.get? b = some o → b ∉ keep.map (·.1) → g'.get? b = some o := by
  have nd := H.nd
  rw [List.map_append, List.nodup_append] at nd
  obtain ⟨g', a, b, k⟩ := H.freeze keep (fun q hq => List.mem_append_left _ hq) nd.1
  refine ⟨g', a, b, fun q hq => ?_, k⟩
  obtain ⟨o, h1, h2⟩ := (H.own q (List.mem_append_right _ hq)).2
  exact ⟨o, k _ _ h1 (fun hm => nd.2.2 _ hm _ (List.mem_map_of_mem hq) rfl), h2⟩
theorem Xs.appendE {o e : Expr} {apos cpos : Pos} {a : Addr} {vs : List Value} {Q : Flow → Heap → Nat → Prop} {pl : Sem Bool} (j : Nat) (H : Led g ms h) (ho : EvX c A env g ms o (.ref a)) (hj : ms[j]? = some (a, OList vs)) (N : EnvN env ns)
    (he : ∀ h₁ t₁, Led g ms h₁ → W c A (eval e env) (fun v h' t' => ∃ g' ms' j' vs', Led g' ms' h' ∧ ms'[j']? = some (a, OList vs') ∧ vs'.length ≤ 100000 ∧ ∀ h'' t'', Led g' (ms'.set j' (a, OList (vs' ++ [v]))) h'' → Xs c A env rest Q E h'' t'') E h₁ t₁)
    (hs : noStar e = true)
    (hee : eval (.Call (.Attribute o "append" apos) [e] [] cpos) env = (do
      let ov ← eval o env
      standAt apos.atName
      let (f, first) ← holding [ov] (getMethod ov "append" pl)
      callWith cpos f first (backTo cpos (starEach [e] env)) [])) : Xs c A env (.Expr (.Call (.Attribute o "append" apos) [e] [] cpos) pos :: rest) Q E h t := by
  refine Xs.expr (.of (MethodCall_ (pl := pl) (cps (ho _ E h t H fun v h₁ t₁ H₁ q => ?_)) hee)) N rfl
  subst q
  obtain ⟨ob, ho, n, rfl⟩ := H₁.at j hj
  refine getMethod_list_append (s := c.S h₁ t₁) ho rfl rfl ?_
  have hss : ([e] : List Expr).all noStar = true := by simp [hs]
  refine callWith_builtin (anyStar hss) ?_
  rw [starEach_cons hs, backTo_cons]
  refine evalArgs_plain (spliced_cons (cps ((he h₁ t₁ H₁).mono (fun v h₂ t₂ q => ?_) fun _ _ _ e => e)))
  refine spliced_nil ?_
  obtain ⟨g', ms', j', vs', H₂, hj', hz, k⟩ := q
  obtain ⟨ob', ho', n', rfl⟩ := H₂.at j' hj'
  refine append_at (s := c.S h₂ t₂) (hsz := by rw [List.size_toArray, sizeLine_eq]; omega) ho' fun h' hs ho' => ⟨h', t₂, rfl, fun a e => (nomatch e), k h' t₂ (H₂.put j' hj' hs ⟨_, ho', n' + 1, ?_⟩)⟩
  simp
inductive Part
  | lit (b : Nat)
  | mat (ℓ d : Nat)
noncomputable def PIn (ts : List Entry) (v : Value) : Part → Prop
  | .lit b => ∃ u, v = .int b u
  | .mat ℓ d => ∃ r u u', v = .ref r ∧ (r, OTup [.int ℓ u, .int d u']) ∈ ts
inductive Parts (ts : List Entry) : List Value → List Part → Prop
  | nil : Parts ts [] []
  | cons {v vs p ps} : PIn ts v p → Parts ts vs ps → Parts ts (v :: vs) (p :: ps)
theorem PIn.mono {ts ts' : List Entry} {v : Value} {p : Part} (h : PIn ts v p) (k : ∀ e ∈ ts, e ∈ ts') : PIn ts' v p := by
  cases p with
  | lit b => exact h
  | mat ℓ d => obtain ⟨r, u, u', e, m⟩ := h; exact ⟨r, u, u', e, k _ m⟩
theorem Parts.mono {ts ts' : List Entry} {vs : List Value} {ps : List Part} (h : Parts ts vs ps) (k : ∀ e ∈ ts, e ∈ ts') : Parts ts' vs ps := by
  induction h with
  | nil => exact .nil
  | cons a _ ih => exact .cons (a.mono k) ih
theorem Parts.snoc {ts : List Entry} {vs : List Value} {ps : List Part} {v : Value} {p : Part} (h : Parts ts vs ps) (k : PIn ts v p) : Parts ts (vs ++ [v]) (ps ++ [p]) := by
  induction h with
  | nil => exact .cons k .nil
  | cons a _ ih => exact .cons a ih
theorem Parts.length {ts : List Entry} {vs : List Value} {ps : List Part} (h : Parts ts vs ps) : vs.length = ps.length := by
  induction h with
  | nil => rfl
  | cons a _ ih => exact congrArg Nat.succ ih
noncomputable def PAt (h : Heap) (v : Value) : Part → Prop
  | .lit b => ∃ u, v = .int b u
  | .mat ℓ d => ∃ r u u', v = .ref r ∧ IsTup h r [.int ℓ u, .int d u'].toArray
noncomputable def PsAt (h : Heap) (vs : List Value) (ps : List Part) : Prop := vs.length = ps.length ∧ ∀ (i : Nat) (p : Part), ps[i]? = some p → ∃ v, vs[i]? = some v ∧ PAt h v p
noncomputable def Alive (h : Heap) (ts : List Entry) : Prop := ∀ q ∈ ts, ∃ o, h.get? q.1 = some o ∧ q.2 o
theorem PIn.atA {ts : List Entry} {v : Value} {p : Part} (k : PIn ts v p) (H : Alive h ts) : PAt h v p := by
  cases p with
  | lit b => exact k
  | mat ℓ d => obtain ⟨r, u, u', e, m⟩ := k; exact ⟨r, u, u', e, isTup_of (H _ m)⟩
theorem Parts.atA {ts : List Entry} {vs : List Value} {ps : List Part} (k : Parts ts vs ps) (H : Alive h ts) : PsAt h vs ps := by
  refine ⟨k.length, ?_⟩
  induction k with
  | nil => intro i p e; simp at e
  | cons a _ ih =>
    intro i q e
    cases i with
    | zero => cases e; exact ⟨_, rfl, a.atA H⟩
    | succ i => exact ih i q e
theorem PIn.at {ts : List Entry} {v : Value} {p : Part} (k : PIn ts v p) (H : Led g ms h) (hs : ∀ e ∈ ts, e ∈ ms) : PAt h v p := by
  cases p with
  | lit b => exact k
  | mat ℓ d => obtain ⟨r, u, u', e, m⟩ := k; exact ⟨r, u, u', e, isTup_of (H.mem (hs _ m))⟩
theorem Parts.at {ts : List Entry} {vs : List Value} {ps : List Part} (k : Parts ts vs ps) (H : Led g ms h) (hs : ∀ e ∈ ts, e ∈ ms) : PsAt h vs ps := by
  refine ⟨k.length, ?_⟩
  induction k with
  | nil => intro i p e; simp at e
  | cons a _ ih =>
    intro i q e
    cases i with
    | zero => cases e; exact ⟨_, rfl, a.at H hs⟩
    | succ i => exact ih i q e
theorem PAt.keeps {h h' : Heap} {v : Value} {p : Part} (k : PAt h v p) (s : h.StaysIn h') : PAt h' v p := by
  cases p with
  | lit b => exact k
  | mat ℓ d => obtain ⟨r, u, u', e, m⟩ := k; exact ⟨r, u, u', e, IsTup.keeps m s⟩
theorem PsAt.keeps {h h' : Heap} {vs : List Value} {ps : List Part} (k : PsAt h vs ps) (s : h.StaysIn h') : PsAt h' vs ps :=
  ⟨k.1, fun i p e => let ⟨v, a, b⟩ := k.2 i p e; ⟨v, a, b.keeps s⟩⟩
end
end
section
noncomputable def wayStep (o : List UInt8) (a ml : Nat) (st : Nat × List Part) (p : Nat) : Nat × List Part :=
  (max st.1 (comm o p a ml), st.2 ++ (List.range (comm o p a ml - st.1)).map fun i => Part.mat (st.1 + 1 + i) (a - p))
noncomputable def wayFold (o : List UInt8) (a ml : Nat) (l : List Nat) : Nat × List Part := l.foldl (wayStep o a ml) (2, [])
noncomputable def waysS (o : List UInt8) (a mb ml k : Nat) : List Part := (wayFold o a ml (placesS o a mb k)).2
theorem wayFold_snoc (o : List UInt8) (a ml : Nat) (l : List Nat) (p : Nat) : wayFold o a ml (l ++ [p]) = wayStep o a ml (wayFold o a ml l) p := by
  unfold wayFold; rw [List.foldl_append]; rfl
section
variable {w : World} {σ : Shared} {A : Around} {E : Value → Heap → Nat → Prop} {h : Heap} {t n : Nat} {Q : Value → Heap → Nat → Prop}
inductive MLJ (L r x hd ea : Addr) (y₁ y₃ : Tok) (o : List UInt8) (a ml : Nat) (ps : List Nat) (i : Nat) (ms : List Entry) : Prop
  | mk (u : Tok) (vs : List Value) (ts : List Entry) (h1 : (wayFold o a ml (ps.take i)).2.length + 2 = (wayFold o a ml (ps.take i)).1) (h2 : (wayFold o a ml (ps.take i)).1 ≤ ml + 2) (h3 : Parts ts vs (wayFold o a ml (ps.take i)).2)
    (h4 : ms = (L, OLoc [("known", .int (wayFold o a ml (ps.take i)).1 u), ("found", .ref r), ("chains", .ref x), ("at", .int a y₁), ("most_length", .int ml y₃)]) :: (r, OList vs) :: (hd, OHeads o a) :: (ea, OEarl o a) :: ts) : MLJ L r x hd ea y₁ y₃ o a ml ps i ms
inductive MWJ (g' : Heap) (L r x hd ea : Addr) (y₁ y₃ u₇ up : Tok) (o : List UInt8) (a ml p cc kn : Nat) (ps : List Part) (mm : Nat) (g'' : Heap) (ms' : List Entry) : Prop
  | mk (h0 : g'' = g') (j : Nat) (u : Tok) (vs : List Value) (ts : List Entry) (h1 : mm = cc - (kn + j)) (h2 : j = 0 ∨ kn + j ≤ cc) (h3 : Parts ts vs (ps ++ (List.range j).map fun i => Part.mat (kn + 1 + i) (a - p)))
    (h4 : ms' = (L, OLoc [("known", .int ((kn + j : Nat) : Int) u), ("length", .int cc u₇), ("back", .int p up), ("found", .ref r), ("chains", .ref x), ("at", .int a y₁), ("most_length", .int ml y₃)]) :: (r, OList vs) :: (hd, OHeads o a) :: (ea, OEarl o a) :: ts) : MWJ g' L r x hd ea y₁ y₃ u₇ up o a ml p cc kn ps mm g'' ms'
set_option maxHeartbeats 4000000 in
theorem matches_by_length_ {g : Heap} {o : List UInt8} {x dx hd ea : Addr} {yo : Tok} {i₁ i₂ i₃ i₄ : Int} (m a mb ml k : Nat) {y₁ y₂ y₃ y₄ : Tok} (G : Gl w g) (hA : Room A (n + 4)) (C : ChI g x dx hd ea o yo) (kg : g.StaysIn h) (o1 : g.get? hd = none) (o2 : g.get? ea = none)
    (hz : o.length ≤ 900) (e₁ : i₁ = a) (e₂ : i₂ = mb) (e₃ : i₃ = ml) (e₄ : i₄ = k) (hma : m ≤ a) (ha : a ≤ 900) (hml : ml ≤ 900) (hs : (hd == sysModules) = false)
    (hh : ∃ ob, h.get? hd = some ob ∧ OHeads o m ob) (hE : ∃ ob, h.get? ea = some ob ∧ OEarl o m ob) (hn : hd ≠ ea)
    (q : ∀ r h' t' vs ts, Led (hideAll h [hd, ea]) ((hd, OHeads o a) :: (ea, OEarl o a) :: (r, OList vs) :: ts) h' → Parts ts vs (waysS o a mb ml k) → Q (.ref r) h' t') :
    W (cx w σ) A (call (.ref 140) [.ref x, .int i₁ y₁, .int i₂ y₂, .int i₃ y₃, .int i₄ y₄]) Q E h t := by
  subst e₁ e₂ e₃ e₄
  have kh : g.StaysIn (hideAll h [hd, ea]) := fun b ob eb => hideAll_get _ (kg b ob eb) (by
    simp only [List.mem_cons, List.not_mem_nil, or_false]
    rintro (rfl | rfl)
    · rw [o1] at eb; cases eb
    · rw [o2] at eb; cases eb)
  have Gh := G.keeps kg
  refine callF (chE hd ea o m) (binds := [("chains", _), ("at", _), ("most_back", _), ("most_length", _), ("tries", _)]) (Gh.X 140 _ (by rfl)) (by rfl) (by rfl) (by rfl) hA Gh.lim (codeRec_of Gh.X (by kernel_rfl)) (BindsTo.of_eq rfl) (by decide) (locs rfl) rfl rfl rfl rfl rfl ?_ (by simp [hn]) ?_
  · rintro p hp
    simp only [List.mem_cons, List.not_mem_nil, or_false] at hp
    rcases hp with rfl | rfl
    · exact hh
    · exact hE
  clear hA Gh
  rintro A env h₀ t₀ hA N - H -
  dsimp only at N
  replace G := G.keeps kh
  replace C := C.keeps kh
  clear hh hE kh kg
  change Led (hideAll h [hd, ea]) [(env.locals, _), (hd, OHeads o m), (ea, OEarl o m)] h₀ at H
  generalize hideAll h [hd, ea] = g at G C H q
  refine Xs.assignNil H N (by kernel_rfl) fun r h₁ t₁ H₁ => ?_
  refine Xs.assign H₁ (P := IsI 2) (EvV.eq (n := 3 - 1) (by walk_at "ev") rfl) N (by kernel_rfl) rfl ?_
  rintro v h₂ t₂ ⟨u₂, rfl⟩ H₂
  refine Xs.expr (call_own (K := KK w) (C := 99) (f := 89) H₂ (by walk_at "ev") G.X (Inst.ofG C.ix C.ia) (by kernel_rfl) (by kernel_rfl) (by kernel_rfl) (by with_unfolding_all rfl) ⟨_, _, G.X 89 _ (by rfl), rfl⟩ (.cons (P := IsI a) (by walk_at "ev") .nil rfl) rfl rfl ?_) N rfl
  rintro vs h₃ t₃ H₃ ⟨_, _, rfl, ⟨u₃, rfl⟩, rfl⟩
  refine put_ m a G hA C H₃.base (H₃.off 2 rfl) (H₃.off 3 rfl) hz rfl hma ha hs (H₃.at 2 rfl) (H₃.at 3 rfl) hn fun h₄ t₄ x4 p1 p2 => ⟨fun a e => (nomatch e), ?_⟩
  have H₄ := H₃.call2 2 3 rfl rfl x4 p1 p2 (by decide)
  dsimp only [List.set] at H₄
  clear H H₁ H₂ H₃ x4 p1 p2
  refine Xs.for (g := g) (n := (placesS o a mb k).length) (P := fun i v => ∃ p, (placesS o a mb k)[i]? = some p ∧ IsI p v) (MLJ env.locals r x hd ea y₁ y₃ o a ml (placesS o a mb k)) ?he ?turn ?fin (fun _ => rfl)
  case he =>
    refine call_own (K := KK w) (C := 99) (f := 96) H₄ (by walk_at "ev") G.X (Inst.ofG C.ix C.ia) (by kernel_rfl) (by kernel_rfl) (by kernel_rfl) (by with_unfolding_all rfl) ⟨_, _, G.X 96 _ (by rfl), rfl⟩ (.cons (P := IsI a) (by walk_at "ev") (.cons (P := IsI mb) (by walk_at "ev") (.cons (P := IsI k) (by walk_at "ev") .nil rfl) rfl) rfl) rfl rfl ?_
    refine argsA_iii fun v₁ v₂ v₃ h₅ t₅ H₅ => ?_
    refine places_ a mb k (G.keeps H₅.base) hA (C.keeps H₅.base) hz rfl rfl rfl ha hs (H₅.at 2 rfl) (H₅.at 3 rfl) fun r h₆ t₆ vs k₆ hr hl hi => ?_
    refine iter_list hA.quiet (H₅.ext k₆) hl (H₅.notin hr) fun it h₇ t₇ H₇ ok => ⟨_, ⟨u₂, [], [], rfl, by simp [wayFold], .nil, rfl⟩, H₇.weaken 0 rfl (OLoc.sub (by walk_at "ls")), ok.mono ?_ fun i v e => ?_⟩
    · rw [hi.length]; simp
    · obtain ⟨m, u, rfl, e'⟩ := hi.at i v e
      rw [List.getElem?_map] at e'
      cases hp : (placesS o a mb k)[i]? with
      | none => rw [hp] at e'; cases e'
      | some p => rw [hp] at e'; cases e'; exact ⟨p, rfl, isI _ _⟩
  case turn =>
    rintro i g' ms v h₅ t₅ hi kg' ⟨u, vs, ts, hl1, hl2, hps, rfl⟩ ⟨p, hp, ⟨up, rfl⟩⟩ H₅
    have pm := List.mem_of_getElem? hp
    have pl := placesS_lt pm
    have G' := G.keeps kg'
    obtain ⟨ix, ia⟩ := C.keeps kg'
    refine assign_loc H₅ N (by kernel_rfl) fun h₆ t₆ H₆ => ?_
    refine Xs.assign H₆ (P := IsI (comm o p a ml)) (EvV.fn (fa := 110) (EvX.glob (gn_common_length G') N (by kernel_rfl) (by kernel_rfl)) ⟨_, _, G'.X 110 _ (by rfl), rfl⟩ (.cons (P := IsY o) (by walk_at "ev") (.cons (P := IsI p) (by walk_at "ev") (.cons (P := IsI a) (by walk_at "ev") (.cons (P := IsI ml) (by walk_at "ev") .nil rfl) rfl) rfl) rfl) rfl ?_) N (by kernel_rfl) rfl ?_
    · rintro Q E h t
      refine argsB_yiii fun v₁ v₂ v₃ v₄ H q => ?_
      exact common_length_ (G'.keeps H.base) hA (by omega) pl.1 (by omega) fun h' t' u k => q _ h' t' k (isI _ _)
    rintro v h₇ t₇ ⟨u₇, rfl⟩ H₇
    have snoc := wayFold_snoc o a ml ((placesS o a mb k).take i) p
    have tk : (placesS o a mb k).take (i + 1) = (placesS o a mb k).take i ++ [p] := by rw [List.take_add_one, hp]; rfl
    rw [← tk] at snoc
    have cl := comm_le o ml p a
    generalize hc : comm o p a ml = cc at H₇ cl
    generalize hst : wayFold o a ml ((placesS o a mb k).take i) = st at *
    obtain ⟨kn, ps⟩ := st
    dsimp only at *
    refine Xs.while (MWJ g' env.locals r x hd ea y₁ y₃ u₇ up o a ml p cc kn ps) (cc - kn) ⟨rfl, 0, u, vs, ts, rfl, .inl rfl, (by simpa using hps), rfl⟩ (H₇.weaken 0 rfl (OLoc.sub (by walk_at "ls"))) ?_
    clear H₅ H₆ H₇ H₄ hps u vs ts
    rintro mm g'' ms ⟨rfl, j, u, vs, ts, rfl, hj, hps, rfl⟩
    have hlen := hps.length
    rw [List.length_append, List.length_map, List.length_range] at hlen
    refine ⟨decide (((kn + j : Nat) : Int) < cc), .ints (by walk_at "ev") (by walk_at "ev") rfl rfl, ?_, ?_⟩
    · intro hb h₈ t₈ H₈
      rw [decide_eq_true_eq] at hb
      refine Xs.augAdd H₈ (by with_unfolding_all rfl) (by walk_at "ev") N (by kernel_rfl) ?_
      intro h₉ t₉ u₉ H₉
      refine Xs.appendE 1 H₉ (by walk_at "ev") rfl N (fun h₁ t₁ H₁ => ?_) rfl rfl
      refine pair_ H₁ (P := IsI ((kn + 1 + j : Nat) : Int)) (R := IsI ((a - p : Nat) : Int)) (EvV.eq (n := ((kn + j : Nat) : Int) + 1) (by walk_at "ev") (by omega)) (EvV.eq (n := (a : Int) - p) (by walk_at "ev") (by omega)) rfl rfl ?_
      rintro _ _ b h₂ t₂ ⟨w₁, rfl⟩ ⟨w₂, rfl⟩ H₂
      refine ⟨g'', _, 1, vs, H₂.mv 4, rfl, by omega, fun h₃ t₃ H₃ => ?_⟩
      refine Xs.nil ⟨cc - (kn + (j + 1)), g'', _, by omega, ⟨rfl, j + 1, u₉, (vs ++ [Value.ref b] : List Value), (b, OTup [.int ((kn + 1 + j : Nat) : Int) w₁, .int ((a - p : Nat) : Int) w₂]) :: ts, rfl, by omega, ?_, rfl⟩, H₃.weaken 0 rfl (OLoc.sub (by walk_at "ls"))⟩
      rw [List.range_succ, List.map_append, ← List.append_assoc]
      exact (hps.mono fun e he => List.mem_cons_of_mem _ he).snoc ⟨b, w₁, w₂, rfl, List.mem_cons_self ..⟩
    · intro hb h₈ t₈ H₈
      rw [decide_eq_false_iff_not] at hb
      have e1 : wayFold o a ml ((placesS o a mb k).take (i + 1)) = (kn + j, ps ++ (List.range j).map fun i => Part.mat (kn + 1 + i) (a - p)) := by
        rw [snoc]
        unfold wayStep
        dsimp only
        rw [hc]
        have e2 : cc - kn = j := by omega
        rw [e2]
        congr 1
        omega
      refine Xs.nil ⟨_, ⟨u, vs, ts, ?_, ?_, ?_, rfl⟩, ?_⟩
      · rw [e1]; simp; omega
      · rw [e1]; dsimp only; omega
      · rw [e1]; exact hps
      · rw [e1]; exact H₈.weaken 0 rfl (OLoc.sub (by walk_at "ls"))
  case fin =>
    rintro _ h₅ t₅ ⟨u, vs, ts, hl1, hl2, hps, rfl⟩ H₅
    rw [List.take_length] at *
    refine Xs.ret H₅ (P := fun v => v = .ref r) (by walk_at "ev") ?_
    rintro _ h₆ t₆ rfl H₆
    exact q r h₆ t₆ vs ts (H₆.tail.mv 2) hps
end
end
section
theorem comm_room (o : List UInt8) : ∀ (k b a : Nat), comm o b a k ≤ o.length - a
  | 0, _, _ => Nat.zero_le _
  | k + 1, b, a => by
    unfold comm
    split
    · have := comm_room o k (b + 1) (a + 1); omega
    · omega
theorem bestS_room (o : List UInt8) (a ml : Nat) (l : List Nat) : (bestS o a ml l).1 ≤ o.length - a := by
  unfold bestS
  suffices h : ∀ (l : List Nat) (b : Nat × Nat), b.1 ≤ o.length - a → (l.foldl (fun b p => if b.1 < comm o p a ml then (comm o p a ml, a - p) else b) b).1 ≤ o.length - a by exact h l _ (Nat.zero_le _)
  intro l
  induction l with
  | nil => exact fun b h => h
  | cons p l ih =>
    intro b h
    rw [List.foldl_cons]
    apply ih
    split
    · exact comm_room ..
    · exact h
theorem matchS_room (o : List UInt8) (a mb ml k : Nat) : (matchS o a mb ml k).1 ≤ o.length - a := by
  unfold matchS
  dsimp only
  split
  · exact bestS_room ..
  · exact Nat.zero_le _
noncomputable def greedyS (o : List UInt8) (mb ml k : Nat) : Nat → Nat → List Part
  | 0, _ => []
  | f + 1, a => if a < o.length then (if 0 < (matchS o a mb ml k).1 then .mat (matchS o a mb ml k).1 (matchS o a mb ml k).2 :: greedyS o mb ml k f (a + (matchS o a mb ml k).1) else .lit (o.getD a 0).toNat :: greedyS o mb ml k f (a + 1)) else []
noncomputable def lazyS (o : List UInt8) (mb ml k : Nat) : Nat → Nat → List Part
  | 0, _ => []
  | f + 1, a => if a < o.length then (if 0 < (matchS o a mb ml k).1 ∧ (matchS o (a + 1) mb ml k).1 ≤ (matchS o a mb ml k).1 then .mat (matchS o a mb ml k).1 (matchS o a mb ml k).2 :: lazyS o mb ml k f (a + (matchS o a mb ml k).1) else .lit (o.getD a 0).toNat :: lazyS o mb ml k f (a + 1)) else []
theorem greedyS_succ (o : List UInt8) (mb ml k f a : Nat) : greedyS o mb ml k (f + 1) a = if a < o.length then (if 0 < (matchS o a mb ml k).1 then .mat (matchS o a mb ml k).1 (matchS o a mb ml k).2 :: greedyS o mb ml k f (a + (matchS o a mb ml k).1) else .lit (o.getD a 0).toNat :: greedyS o mb ml k f (a + 1)) else [] := rfl
theorem lazyS_succ (o : List UInt8) (mb ml k f a : Nat) : lazyS o mb ml k (f + 1) a = if a < o.length then (if 0 < (matchS o a mb ml k).1 ∧ (matchS o (a + 1) mb ml k).1 ≤ (matchS o a mb ml k).1 then .mat (matchS o a mb ml k).1 (matchS o a mb ml k).2 :: lazyS o mb ml k f (a + (matchS o a mb ml k).1) else .lit (o.getD a 0).toNat :: lazyS o mb ml k f (a + 1)) else [] := rfl
theorem greedyS_end (o : List UInt8) (mb ml k f a : Nat) (h : o.length ≤ a) : greedyS o mb ml k f a = [] := by
  cases f with
  | zero => rfl
  | succ f => unfold greedyS; rw [if_neg (by omega)]
theorem lazyS_end (o : List UInt8) (mb ml k f a : Nat) (h : o.length ≤ a) : lazyS o mb ml k f a = [] := by
  cases f with
  | zero => rfl
  | succ f => unfold lazyS; rw [if_neg (by omega)]
section
variable {w : World} {σ : Shared} {A : Around} {E : Value → Heap → Nat → Prop} {h : Heap} {t n : Nat} {Q : Value → Heap → Nat → Prop}
inductive FMJ (g : Heap) (L pr x hd ea : Addr) (yo y₂ y₃ y₄ : Tok) (o : List UInt8) (mb ml k : Nat) (mm : Nat) (g' : Heap) (ms' : List Entry) : Prop
  | mk (h0 : g' = g) (f a m : Nat) (vs : List Value) (ts : List Entry) (ps : List Part) (u : Tok) (h1 : mm = o.length - a) (h2 : a ≤ o.length) (h3 : m ≤ a) (h4 : o.length - a ≤ f) (h5 : ps.length ≤ a) (h6 : ps ++ greedyS o mb ml k f a = greedyS o mb ml k o.length 0) (h7 : Parts ts vs ps)
    (h8 : ms' = (L, OLoc [("at", .int a u), ("parts", .ref pr), ("chains", .ref x), ("octets", .bytes o.toArray yo), ("most_back", .int mb y₂), ("most_length", .int ml y₃), ("tries", .int k y₄)]) :: (pr, OList vs) :: (hd, OHeads o m) :: (ea, OEarl o m) :: ts) : FMJ g L pr x hd ea yo y₂ y₃ y₄ o mb ml k mm g' ms'
set_option maxHeartbeats 4000000 in
theorem find_matches_ {o : List UInt8} {yo : Tok} {i₂ i₃ i₄ : Int} (mb ml k : Nat) {y₂ y₃ y₄ : Tok} (G : Gl w h) (hA : Room A (n + 5))
    (hz : o.length ≤ 800) (e₂ : i₂ = mb) (e₃ : i₃ = ml) (e₄ : i₄ = k)
    (q : ∀ r h' t' vs ts, Led h ((r, OList vs) :: ts) h' → Parts ts vs (greedyS o mb ml k o.length 0) → Q (.ref r) h' t') :
    W (cx w σ) A (call (.ref 125) [.bytes o.toArray yo, .int i₂ y₂, .int i₃ y₃, .int i₄ y₄]) Q E h t := by
  subst e₂ e₃ e₄
  refine callF0 (binds := [("octets", _), ("most_back", _), ("most_length", _), ("tries", _)]) (G.X 125 _ (by rfl)) (by rfl) (by rfl) (by rfl) hA G.lim (codeRec_of G.X (by kernel_rfl)) (by exact BindsTo.of_defaults rfl (G.X _ _ (by rfl)) rfl rfl rfl) (by decide) (locs rfl) rfl rfl rfl rfl rfl ?_
  clear hA
  rintro A env h₀ t₀ hA N - H -
  dsimp only at N
  refine Xs.assignE (chains_new H G hA N (by kernel_rfl) (yo := yo) (o := o) (by walk_at "ev") rfl fun x dx hd ea h₁ t₁ hs H₁ => ?_) rfl
  refine store_loc (H₁.up 4 rfl) N (by kernel_rfl) fun h₂ H₂ => ?_
  dsimp only [List.eraseIdx] at H₂
  obtain ⟨g, hg, H₃, fz, -⟩ := Led.split [(env.locals, _), (hd, _), (ea, _)] (((H₂.up 4 rfl).up 4 rfl).up 2 rfl)
  have C : ChI g x dx hd ea o yo := ⟨isat (fz (x, OIs (instObj 99 dx)) (by simp)), fz (dx, OAttr [("octets", .bytes o.toArray yo), ("heads", .ref hd), ("earlier", .ref ea)]) (by simp)⟩
  replace G := G.keeps hg
  have q' : ∀ r h' t' vs ts, Led g ((r, OList vs) :: ts) h' → Parts ts vs (greedyS o mb ml k o.length 0) → Q (.ref r) h' t' := fun r h' t' vs ts H P => q r h' t' vs ts (H.stays hg) P
  have hn : hd ≠ ea := by
    have nd := H₃.nd
    simp only [List.map_cons, List.nodup_cons, List.mem_cons, List.map_nil, List.not_mem_nil, or_false, not_or] at nd
    exact nd.2.1
  clear H H₁ H₂ fz hg q
  refine Xs.assignNil H₃ N (by kernel_rfl) fun pr h₄ t₄ H₄ => ?_
  refine Xs.assign H₄ (P := IsI 0) (by walk_at "ev") N (by kernel_rfl) rfl ?_
  rintro v h₅ t₅ ⟨u₅, rfl⟩ H₅
  refine Xs.while (FMJ g env.locals pr x hd ea yo y₂ y₃ y₄ o mb ml k) o.length
    ⟨rfl, o.length, 0, 0, [], [], [], u₅, rfl, Nat.zero_le _, Nat.le_refl _, by omega, Nat.zero_le _, rfl, .nil, rfl⟩ (H₅.weaken 0 rfl (OLoc.sub (by walk_at "ls"))) ?_
  clear H₃ H₄ H₅
  rintro mm g ms ⟨rfl, f, a, m, vs, ts, ps, u, rfl, ha, hm, hf, hpa, hps, hP, rfl⟩
  have hlen := hP.length
  refine ⟨decide ((a : Int) < o.length), .ints (by walk_at "ev") (EvI.lenY (by walk_at "ev") (by walk_at "ev") (by omega) rfl) rfl rfl, ?_, ?_⟩
  · intro hb h₁ t₁ H₁
    rw [decide_eq_true_eq] at hb
    have room := matchS_room o a mb ml k
    obtain ⟨f, rfl⟩ : ∃ f', f = f' + 1 := ⟨f - 1, by omega⟩
    rw [greedyS_succ, if_pos (by omega)] at hps
    refine Xs.assignE (call_fn (fa := 117) H₁ (EvX.glob (gn_match_at G) N (by kernel_rfl) (by kernel_rfl)) ⟨_, _, G.X 117 _ (by rfl), rfl⟩ (.cons (P := fun v => v = .ref x) (by walk_at "ev") (.cons (P := IsI a) (by walk_at "ev") (.cons (P := IsI mb) (by walk_at "ev") (.cons (P := IsI ml) (by walk_at "ev") (.cons (P := IsI k) (by walk_at "ev") .nil rfl) rfl) rfl) rfl) rfl) rfl ?_) rfl
    refine argsA_xiiii fun v₁ v₂ v₃ v₄ h₂ t₂ H₂ => ?_
    refine match_at_ m a mb ml k G hA C H₂.base (H₂.off 2 rfl) (H₂.off 3 rfl) (by omega) rfl rfl rfl rfl hm (by omega) hs (H₂.at 2 rfl) (H₂.at 3 rfl) hn fun r h₃ t₃ w₁ w₂ xt p1 p2 fr ht => ?_
    have H₃ := H₂.take (H₂.call2 2 3 rfl rfl xt p1 p2 (by decide)) rfl fr ht
    dsimp only [List.set] at H₃
    refine store_loc (H₃.mv 1) N (by kernel_rfl) fun h₄ H₄ => ?_
    dsimp only [ins] at H₄
    refine Xs.ite H₄ (b := decide ((0 : Int) < (matchS o a mb ml k).1)) (.ints (EvI.tupL (i := 0) (n := 0) 1 (by walk_at "ev") (by walk_at "ev") rfl rfl rfl (Nat.le_of_ble_eq_true rfl) rfl) (by walk_at "ev") rfl rfl) ?_ ?_
    · intro hb2 h₅ t₅ H₅
      rw [decide_eq_true_eq] at hb2
      rw [if_pos (by omega)] at hps
      refine Xs.append 2 H₅ (by walk_at "ev") rfl (by omega) (P := fun v => v = .ref r) (by walk_at "ev") N ?_ rfl rfl
      rintro _ h₆ t₆ rfl H₆
      dsimp only [List.set] at H₆
      refine Xs.augAdd H₆ (by with_unfolding_all rfl) (EvI.tupL (i := 0) (n := 0) 1 (by walk_at "ev") (by walk_at "ev") rfl rfl rfl (Nat.le_of_ble_eq_true rfl) rfl) N (by kernel_rfl) ?_
      intro h₇ t₇ u₇ H₇
      refine Xs.nilT (Xs.nil ⟨o.length - (a + (matchS o a mb ml k).1), g, _, by omega, ⟨rfl, f, a + (matchS o a mb ml k).1, a, (vs ++ [Value.ref r] : List Value), (r, OTup [.int (matchS o a mb ml k).1 w₁, .int (matchS o a mb ml k).2 w₂]) :: ts, ps ++ [.mat (matchS o a mb ml k).1 (matchS o a mb ml k).2], u₇, rfl, by omega, by omega, by omega, ?_, ?_, ?_, rfl⟩, ((H₇.up 1 rfl).mv 4).weaken 0 rfl (OLoc.sub (by walk_at "ls"))⟩)
      · simp; omega
      · rw [List.append_assoc]; exact hps
      · exact (hP.mono fun e he => List.mem_cons_of_mem _ he).snoc ⟨r, w₁, w₂, rfl, List.mem_cons_self ..⟩
    · intro hb2 h₅ t₅ H₅
      rw [decide_eq_false_iff_not] at hb2
      rw [if_neg (by omega)] at hps
      refine Xs.append 2 H₅ (by walk_at "ev") rfl (by omega) (P := IsI ((o.getD a 0).toNat)) (EvI.octet (n := a) (by walk_at "ev") (by walk_at "ev") rfl (by omega) (by omega) rfl) N ?_ rfl rfl
      rintro _ h₆ t₆ ⟨u₆, rfl⟩ H₆
      dsimp only [List.set] at H₆
      refine Xs.augAdd H₆ (by with_unfolding_all rfl) (by walk_at "ev") N (by kernel_rfl) ?_
      intro h₇ t₇ u₇ H₇
      refine Xs.nilT (Xs.nil ⟨o.length - (a + 1), g, _, by omega, ⟨rfl, f, a + 1, a, (vs ++ [Value.int (o.getD a 0).toNat u₆] : List Value), ts, ps ++ [.lit (o.getD a 0).toNat], u₇, rfl, by omega, by omega, by omega, ?_, ?_, ?_, rfl⟩, (H₇.cut 1).weaken 0 rfl (OLoc.sub (by walk_at "ls"))⟩)
      · simp; omega
      · rw [List.append_assoc]; exact hps
      · exact hP.snoc ⟨u₆, rfl⟩
  · intro hb h₁ t₁ H₁
    rw [decide_eq_false_iff_not] at hb
    rw [greedyS_end _ _ _ _ _ _ (by omega), List.append_nil] at hps
    refine Xs.ret H₁ (P := fun v => v = .ref pr) (by walk_at "ev") ?_
    rintro _ h₂ t₂ rfl H₂
    exact q' pr h₂ t₂ vs ts ((H₂.cut 3).cut 2).tail (hps ▸ hP)
end
end
section
section
variable {w : World} {σ : Shared} {A : Around} {E : Value → Heap → Nat → Prop} {h : Heap} {t n : Nat} {Q : Value → Heap → Nat → Prop}
inductive LMsJ (g : Heap) (L pr x hd ea : Addr) (yo y₂ y₃ y₄ : Tok) (o : List UInt8) (mb ml k : Nat) (mm : Nat) (g' : Heap) (ms' : List Entry) : Prop
  | mk (h0 : g' = g) (f a : Nat) (r : Addr) (w₁ w₂ : Tok) (vs : List Value) (ts : List Entry) (ps : List Part) (u : Tok) (h1 : mm = o.length - a) (h2 : a ≤ o.length) (h4 : o.length - a ≤ f) (h5 : ps.length ≤ a) (h6 : ps ++ lazyS o mb ml k f a = lazyS o mb ml k o.length 0) (h7 : Parts ts vs ps)
    (h8 : ms' = (L, OLoc [("match", .ref r), ("at", .int a u), ("parts", .ref pr), ("chains", .ref x), ("octets", .bytes o.toArray yo), ("most_back", .int mb y₂), ("most_length", .int ml y₃), ("tries", .int k y₄)]) :: (r, OTup [.int (matchS o a mb ml k).1 w₁, .int (matchS o a mb ml k).2 w₂]) :: (pr, OList vs) :: (hd, OHeads o a) :: (ea, OEarl o a) :: ts) : LMsJ g L pr x hd ea yo y₂ y₃ y₄ o mb ml k mm g' ms'
set_option maxHeartbeats 4000000 in
theorem lazy_matches_ {o : List UInt8} {yo : Tok} {i₂ i₃ i₄ : Int} (mb ml k : Nat) {y₂ y₃ y₄ : Tok} (G : Gl w h) (hA : Room A (n + 5))
    (hz : o.length ≤ 800) (e₂ : i₂ = mb) (e₃ : i₃ = ml) (e₄ : i₄ = k)
    (q : ∀ r h' t' vs ts, Led h ((r, OList vs) :: ts) h' → Parts ts vs (lazyS o mb ml k o.length 0) → Q (.ref r) h' t') :
    W (cx w σ) A (call (.ref 133) [.bytes o.toArray yo, .int i₂ y₂, .int i₃ y₃, .int i₄ y₄]) Q E h t := by
  subst e₂ e₃ e₄
  refine callF0 (binds := [("octets", _), ("most_back", _), ("most_length", _), ("tries", _)]) (G.X 133 _ (by rfl)) (by rfl) (by rfl) (by rfl) hA G.lim (codeRec_of G.X (by kernel_rfl)) (by exact BindsTo.of_defaults rfl (G.X _ _ (by rfl)) rfl rfl rfl) (by decide) (locs rfl) rfl rfl rfl rfl rfl ?_
  clear hA
  rintro A env h₀ t₀ hA N - H -
  dsimp only at N
  refine Xs.assignE (chains_new H G hA N (by kernel_rfl) (yo := yo) (o := o) (by walk_at "ev") rfl fun x dx hd ea h₁ t₁ hs H₁ => ?_) rfl
  refine store_loc (H₁.up 4 rfl) N (by kernel_rfl) fun h₂ H₂ => ?_
  dsimp only [List.eraseIdx] at H₂
  obtain ⟨g, hg, H₃, fz, -⟩ := Led.split [(env.locals, _), (hd, _), (ea, _)] (((H₂.up 4 rfl).up 4 rfl).up 2 rfl)
  have C : ChI g x dx hd ea o yo := ⟨isat (fz (x, OIs (instObj 99 dx)) (by simp)), fz (dx, OAttr [("octets", .bytes o.toArray yo), ("heads", .ref hd), ("earlier", .ref ea)]) (by simp)⟩
  replace G := G.keeps hg
  have q' : ∀ r h' t' vs ts, Led g ((r, OList vs) :: ts) h' → Parts ts vs (lazyS o mb ml k o.length 0) → Q (.ref r) h' t' := fun r h' t' vs ts H P => q r h' t' vs ts (H.stays hg) P
  have hn : hd ≠ ea := by
    have nd := H₃.nd
    simp only [List.map_cons, List.nodup_cons, List.mem_cons, List.map_nil, List.not_mem_nil, or_false, not_or] at nd
    exact nd.2.1
  clear H H₁ H₂ fz hg q
  refine Xs.assignNil H₃ N (by kernel_rfl) fun pr h₄ t₄ H₄ => ?_
  refine Xs.assign H₄ (P := IsI 0) (by walk_at "ev") N (by kernel_rfl) rfl ?_
  rintro v h₅ t₅ ⟨u₅, rfl⟩ H₅
  refine Xs.assignE (call_fn (fa := 117) H₅ (EvX.glob (gn_match_at G) N (by kernel_rfl) (by kernel_rfl)) ⟨_, _, G.X 117 _ (by rfl), rfl⟩ (.cons (P := fun v => v = .ref x) (by walk_at "ev") (.cons (P := IsI 0) (by walk_at "ev") (.cons (P := IsI mb) (by walk_at "ev") (.cons (P := IsI ml) (by walk_at "ev") (.cons (P := IsI k) (by walk_at "ev") .nil rfl) rfl) rfl) rfl) rfl) rfl ?_) rfl
  refine argsA_xiiii fun v₁ v₂ v₃ v₄ h₂ t₂ H₂ => ?_
  refine match_at_ 0 0 mb ml k G hA C H₂.base (H₂.off 2 rfl) (H₂.off 3 rfl) (by omega) rfl rfl rfl rfl (Nat.le_refl _) (by omega) hs (H₂.at 2 rfl) (H₂.at 3 rfl) hn fun r h₃ t₃ w₁ w₂ xt p1 p2 fr ht => ?_
  have H₆ := H₂.take (H₂.call2 2 3 rfl rfl xt p1 p2 (by decide)) rfl fr ht
  dsimp only [List.set] at H₆
  refine store_loc (H₆.mv 1) N (by kernel_rfl) fun h₄ H₇ => ?_
  dsimp only [ins] at H₇
  refine Xs.while (LMsJ g env.locals pr x hd ea yo y₂ y₃ y₄ o mb ml k) o.length
    ⟨rfl, o.length, 0, r, w₁, w₂, [], [], [], u₅, rfl, Nat.zero_le _, by omega, Nat.zero_le _, rfl, .nil, rfl⟩ (H₇.weaken 0 rfl (OLoc.sub (by walk_at "ls"))) ?_
  clear H₃ H₄ H₅ H₂ H₆ H₇ xt p1 p2 fr ht
  rintro mm g ms ⟨rfl, f, a, r, w₁, w₂, vs, ts, ps, u, rfl, ha, hf, hpa, hps, hP, rfl⟩
  have hlen := hP.length
  refine ⟨decide ((a : Int) < o.length), .ints (by walk_at "ev") (EvI.lenY (by walk_at "ev") (by walk_at "ev") (by omega) rfl) rfl rfl, ?_, ?_⟩
  · intro hb h₁ t₁ H₁
    rw [decide_eq_true_eq] at hb
    have room := matchS_room o a mb ml k
    obtain ⟨f, rfl⟩ : ∃ f', f = f' + 1 := ⟨f - 1, by omega⟩
    rw [lazyS_succ, if_pos (by omega)] at hps
    refine Xs.assignE (call_fn (fa := 117) H₁ (EvX.glob (gn_match_at G) N (by kernel_rfl) (by kernel_rfl)) ⟨_, _, G.X 117 _ (by rfl), rfl⟩ (.cons (P := fun v => v = .ref x) (by walk_at "ev") (.cons (P := IsI (a + 1)) (by walk_at "ev") (.cons (P := IsI mb) (by walk_at "ev") (.cons (P := IsI ml) (by walk_at "ev") (.cons (P := IsI k) (by walk_at "ev") .nil rfl) rfl) rfl) rfl) rfl) rfl ?_) rfl
    refine argsA_xiiii fun v₁ v₂ v₃ v₄ h₂ t₂ H₂ => ?_
    refine match_at_ a (a + 1) mb ml k G hA C H₂.base (H₂.off 3 rfl) (H₂.off 4 rfl) (by omega) (by omega) rfl rfl rfl (by omega) (by omega) hs (H₂.at 3 rfl) (H₂.at 4 rfl) hn fun r₂ h₃ t₃ z₁ z₂ xt p1 p2 fr ht => ?_
    have H₃ := H₂.take (H₂.call2 3 4 rfl rfl xt p1 p2 (by decide)) rfl fr ht
    dsimp only [List.set] at H₃
    refine store_loc (H₃.mv 1) N (by kernel_rfl) fun h₄ H₄ => ?_
    dsimp only [ins] at H₄
    refine Xs.ite H₄ (b := decide ((0 : Int) < (matchS o a mb ml k).1) && decide (((matchS o (a + 1) mb ml k).1 : Int) ≤ (matchS o a mb ml k).1))
      (.all (.and (.ints (EvI.tupL (i := 0) (n := 0) 2 (by walk_at "ev") (by walk_at "ev") rfl rfl rfl (Nat.le_of_ble_eq_true rfl) rfl) (by walk_at "ev") rfl rfl) fun _ => .and1 (.ints (EvI.tupL (i := 0) (n := 0) 2 (by walk_at "ev") (by walk_at "ev") rfl rfl rfl (Nat.le_of_ble_eq_true rfl) rfl) (EvI.tupL (i := 0) (n := 0) 1 (by walk_at "ev") (by walk_at "ev") rfl rfl rfl (Nat.le_of_ble_eq_true rfl) rfl) rfl rfl))) ?_ ?_
    · intro hb2 h₅ t₅ H₅
      rw [Bool.and_eq_true, decide_eq_true_eq, decide_eq_true_eq] at hb2
      rw [if_pos (by omega)] at hps
      have m3 : 3 ≤ (matchS o a mb ml k).1 := by
        have := hb2.1
        unfold matchS at this ⊢
        dsimp only at this ⊢
        split
        · assumption
        · rename_i hx; rw [if_neg hx] at this; simp at this
      refine Xs.append 3 H₅ (by walk_at "ev") rfl (by omega) (P := fun v => v = .ref r) (by walk_at "ev") N ?_ rfl rfl
      rintro _ h₆ t₆ rfl H₆
      dsimp only [List.set] at H₆
      refine Xs.augAdd H₆ (by with_unfolding_all rfl) (EvI.tupL (i := 0) (n := 0) 2 (by walk_at "ev") (by walk_at "ev") rfl rfl rfl (Nat.le_of_ble_eq_true rfl) rfl) N (by kernel_rfl) ?_
      intro h₇ t₇ u₇ H₇
      refine Xs.assignE (call_fn (fa := 117) H₇ (EvX.glob (gn_match_at G) N (by kernel_rfl) (by kernel_rfl)) ⟨_, _, G.X 117 _ (by rfl), rfl⟩ (.cons (P := fun v => v = .ref x) (by walk_at "ev") (.cons (P := IsI (a + (matchS o a mb ml k).1)) (by walk_at "ev") (.cons (P := IsI mb) (by walk_at "ev") (.cons (P := IsI ml) (by walk_at "ev") (.cons (P := IsI k) (by walk_at "ev") .nil rfl) rfl) rfl) rfl) rfl) rfl ?_) rfl
      refine argsA_xiiii fun v₁ v₂ v₃ v₄ h₈ t₈ H₈ => ?_
      refine match_at_ (a + 1) (a + (matchS o a mb ml k).1) mb ml k G hA C H₈.base (H₈.off 4 rfl) (H₈.off 5 rfl) (by omega) (by omega) rfl rfl rfl (by omega) (by omega) hs (H₈.at 4 rfl) (H₈.at 5 rfl) hn fun r₃ h₉ t₉ x₁ x₂ xt' p1' p2' fr' ht' => ?_
      have H₉ := H₈.take (H₈.call2 4 5 rfl rfl xt' p1' p2' (by decide)) rfl fr' ht'
      dsimp only [List.set] at H₉
      refine store_loc (H₉.mv 1) N (by kernel_rfl) fun h' H' => ?_
      dsimp only [ins] at H'
      refine Xs.nilT (Xs.nil ⟨o.length - (a + (matchS o a mb ml k).1), g, _, by omega, ⟨rfl, f, a + (matchS o a mb ml k).1, r₃, x₁, x₂, (vs ++ [Value.ref r] : List Value), (r, OTup [.int (matchS o a mb ml k).1 w₁, .int (matchS o a mb ml k).2 w₂]) :: ts, ps ++ [.mat (matchS o a mb ml k).1 (matchS o a mb ml k).2], u₇, rfl, by omega, by omega, ?_, ?_, ?_, rfl⟩, (((H'.cut 2).up 2 rfl).mv 5).weaken 0 rfl (OLoc.sub (by walk_at "ls"))⟩)
      · simp; omega
      · rw [List.append_assoc]; exact hps
      · exact (hP.mono fun e he => List.mem_cons_of_mem _ he).snoc ⟨r, w₁, w₂, rfl, List.mem_cons_self ..⟩
    · intro hb2 h₅ t₅ H₅
      rw [← Bool.not_eq_true, Bool.and_eq_true, decide_eq_true_eq, decide_eq_true_eq] at hb2
      rw [if_neg (by omega)] at hps
      refine Xs.append 3 H₅ (by walk_at "ev") rfl (by omega) (P := IsI ((o.getD a 0).toNat)) (EvI.octet (n := a) (by walk_at "ev") (by walk_at "ev") rfl (by omega) (by omega) rfl) N ?_ rfl rfl
      rintro _ h₆ t₆ ⟨u₆, rfl⟩ H₆
      dsimp only [List.set] at H₆
      refine Xs.augAdd H₆ (by with_unfolding_all rfl) (by walk_at "ev") N (by kernel_rfl) ?_
      intro h₇ t₇ u₇ H₇
      refine Xs.assign H₇ (P := fun v => v = .ref r₂) (by walk_at "ev") N (by kernel_rfl) rfl ?_
      rintro _ h₈ t₈ rfl H₈
      refine Xs.nilT (Xs.nil ⟨o.length - (a + 1), g, _, by omega, ⟨rfl, f, a + 1, r₂, z₁, z₂, (vs ++ [Value.int (o.getD a 0).toNat u₆] : List Value), ts, ps ++ [.lit (o.getD a 0).toNat], u₇, rfl, by omega, by omega, ?_, ?_, ?_, rfl⟩, (H₈.cut 2).weaken 0 rfl (OLoc.sub (by walk_at "ls"))⟩)
      · simp; omega
      · rw [List.append_assoc]; exact hps
      · exact hP.snoc ⟨u₆, rfl⟩
  · intro hb h₁ t₁ H₁
    rw [decide_eq_false_iff_not] at hb
    rw [lazyS_end _ _ _ _ _ _ (by omega), List.append_nil] at hps
    refine Xs.ret H₁ (P := fun v => v = .ref pr) (by walk_at "ev") ?_
    rintro _ h₂ t₂ rfl H₂
    exact q' pr h₂ t₂ vs ts (((H₂.cut 4).cut 3).tail.tail) (hps ▸ hP)
end
end
section
noncomputable def isMat : Part → Bool
  | .lit _ => false
  | .mat _ _ => true
section
variable {c : Cx} {A : Around} {env : Env} {g : Heap} {ms : List Entry} {ns : List (Str × NameKind)} {E : Value → Heap → Nat → Prop} {h : Heap} {t : Nat} {rest : List Stmt} {l la : List (Str × Value)} {pos p : Pos} {x : Str}
theorem EvB.isTup {id id2 : Str} {p2 : Pos} {e : Expr} {v : Value} {q : Part} (hf : EvX c A env g ms (.Name id p) (.builtin "isinstance")) (he : EvX c A env g ms e v) (ht : EvX c A env g ms (.Name id2 p2) (.type "tuple")) (hp : PAt g v q) (hs : noStar e = true) :
    EvB c A env g ms (.Call (.Name id p) [e, .Name id2 p2] [] pos) (isMat q) :=
  .blt hf (.xs he (.xs ht .nil rfl) hs) (by rw [List.all_cons, hs]; rfl) fun Q E h t vs H r k => by
    subst r
    cases q with
    | lit b =>
      obtain ⟨u, rfl⟩ := hp
      exact .of (IsiPair.int_tuple (s := c.S h t) ⟨h, t + 1, rfl, k _ h _ H rfl⟩)
    | mat ℓ d =>
      obtain ⟨r, u, u', rfl, ⟨o, ho, hc, _⟩⟩ := hp
      exact .of (IsiPair.tuple_tuple (s := c.S h t) (H.base _ _ ho) hc ⟨h, t, rfl, k _ h _ H rfl⟩)
theorem EvV.own {K : Frag} {C y dx f : Addr} {name : Str} {o : Expr} {apos : Pos} {e : Expr} {es : List Expr} {R : List Value → Prop} {P : Value → Prop} {pl : Sem Bool}
    (ho : EvX c A env g ms o (.ref y)) (X : K.In g) (hx : Inst g ms C y dx la) (hg : plainGet K C name = true) (hf : findIn K (.ref C) name = some (some (.ref f))) (ht : isFn K (.ref f) = true) (hl : la.lookup name = none) (fo : FnAt g f)
    (ha : EvAs c A env g ms pos (e :: es) R) (hs : (e :: es).all noStar = true)
    (he : eval (.Call (.Attribute o name apos) (e :: es) [] pos) env = (do
      let ov ← eval o env
      standAt apos.atName
      let (f, first) ← holding [ov] (getMethod ov name pl)
      callWith pos f first (backTo pos (starEach (e :: es) env)) []))
    (k : ∀ (Q : Value → Heap → Nat → Prop) (E : Value → Heap → Nat → Prop) (h : Heap) (t : Nat) vs, Led g ms h → R vs → (∀ v h' t', h.StaysIn h' → P v → Q v h' t') → W c A (call (.ref f) (.ref y :: vs)) Q E h t) :
    EvV c A env g ms (.Call (.Attribute o name apos) (e :: es) [] pos) P := fun Q E h t H q =>
  call_own H ho X hx hg hf ht hl fo ha hs he fun vs h' t' H' r => k Q E h' t' vs H' r fun v h'' t'' s p => q v h'' t'' (H'.ext s) p
end
end
section
noncomputable def partLen : Part → Nat
  | .lit _ => 1
  | .mat ℓ _ => ℓ
noncomputable def partP (li di : List Int) : Part → Int
  | .lit b => or16 li b
  | .mat ℓ d => mPrice li di ℓ d
noncomputable def costS (li di : List Int) (ps : List Part) : Int := (ps.map (partP li di)).foldl (· + ·) 0
noncomputable def partOk (li : List Int) : Part → Prop
  | .lit b => b < li.length
  | .mat ℓ d => 3 ≤ ℓ ∧ ℓ < 8 ∧ 1 ≤ d ∧ d < 17
theorem costS_snoc (li di : List Int) (ps : List Part) (p : Part) : costS li di (ps ++ [p]) = costS li di ps + partP li di p := by
  unfold costS; rw [List.map_append, List.foldl_append]; rfl
section
variable {w : World} {σ : Shared} {A : Around} {E : Value → Heap → Nat → Prop} {h : Heap} {t n : Nat} {Q : Value → Heap → Nat → Prop}
set_option maxHeartbeats 4000000 in
theorem length_of_ {v : Value} {p : Part} (G : Gl w h) (hA : Room A (n + 1)) (hp : PAt h v p)
    (q : ∀ h' t' u, h.StaysIn h' → Q (.int (partLen p) u) h' t') :
    W (cx w σ) A (call (.ref 160) [v]) Q E h t := by
  refine callF0 (binds := [("part", _)]) (G.X 160 _ (by rfl)) (by rfl) (by rfl) (by rfl) hA G.lim (codeRec_of G.X (by kernel_rfl)) (BindsTo.of_eq rfl) (by decide) (locs rfl) rfl rfl rfl rfl rfl ?_
  clear hA
  rintro A env h₀ t₀ hA N - H -
  dsimp only at N
  refine Xs.ite H (b := isMat p) (Tst.boolVal (EvB.isTup (EvX.blt (bn_isinstance G) N (by kernel_rfl) (by kernel_rfl)) (by walk_at "ev") (EvX.blt (bn_tuple G) N (by kernel_rfl) (by kernel_rfl)) hp rfl) rfl) ?_ ?_
  · intro hb h₁ t₁ H₁
    cases p with
    | lit b => cases hb
    | mat ℓ d =>
      obtain ⟨r, u, u', rfl, ht⟩ := hp
      refine Xs.ret H₁ (P := IsI ℓ) (EvI.tupG (i := 0) (n := 0) (by walk_at "ev") (by walk_at "ev") ht rfl rfl (Nat.le_of_ble_eq_true rfl) rfl) ?_
      rintro v h₂ t₂ ⟨u₂, rfl⟩ H₂
      exact q h₂ t₂ u₂ H₂.base
  · intro hb h₁ t₁ H₁
    cases p with
    | mat ℓ d => cases hb
    | lit b =>
      refine Xs.nilT (Xs.ret H₁ (P := IsI 1) (by walk_at "ev") ?_)
      rintro v h₂ t₂ ⟨u₂, rfl⟩ H₂
      exact q h₂ t₂ u₂ H₂.base
set_option maxHeartbeats 4000000 in
theorem cost_of_ {x pr : Addr} {vs : List Value} {ps : List Part} {li di : List Int} (G : Gl w h) (hA : Room A (n + 4)) (P : Pr h x li di) (hl : h.IsList pr vs.toArray) (hp : PsAt h vs ps) (hok : ∀ p ∈ ps, partOk li p) (hz : ps.length ≤ 1000)
    (q : ∀ h' t' u, h.StaysIn h' → Q (.int (costS li di ps) u) h' t') :
    W (cx w σ) A (call (.ref 153) [.ref pr, .ref x]) Q E h t := by
  refine callF0 (binds := [("parts", _), ("prices", _)]) (G.X 153 _ (by rfl)) (by rfl) (by rfl) (by rfl) hA G.lim (codeRec_of G.X (by kernel_rfl)) (BindsTo.of_eq rfl) (by decide) (locs rfl) rfl rfl rfl rfl rfl ?_
  clear hA
  rintro A env h₀ t₀ hA N - H -
  dsimp only at N
  refine Xs.assign H (P := IsI 0) (by walk_at "ev") N (by kernel_rfl) rfl ?_
  rintro v h₁ t₁ ⟨u₁, rfl⟩ H₁
  have hn := hp.1
  refine Xs.for (g := h) (n := ps.length) (P := fun i v => ∃ p, ps[i]? = some p ∧ PAt h v p) (fun i ms => ∃ u, ms = [(env.locals, OLoc [("total", .int (costS li di (ps.take i)) u), ("parts", .ref pr), ("prices", .ref x)])]) ?he ?turn ?fin (fun _ => rfl)
  case he =>
    refine EvV.w (P := fun v => v = .ref pr) (by walk_at "ev") H₁ ?_
    rintro _ h₂ t₂ rfl H₂
    have al : ∃ o, h.get? pr = some o := let ⟨o, e, _⟩ := hl; ⟨o, e⟩
    refine iter_list hA.quiet H₂ (stays_list H₂.base hl) (fun hm => ?_) fun it h₃ t₃ H₃ ok => ⟨_, ⟨u₁, rfl⟩, H₃.weaken 0 rfl (OLoc.sub (by walk_at "ls")), ok.mono hn fun i v e => ?_⟩
    · obtain ⟨o, e⟩ := al
      have := H₂.offm hm
      rw [e] at this; cases this
    · have hi : i < ps.length := by rw [← hn]; exact (List.getElem?_eq_some_iff.mp e).1
      obtain ⟨v', e', pa⟩ := hp.2 i _ (List.getElem?_eq_getElem hi)
      rw [e] at e'; cases e'
      exact ⟨_, List.getElem?_eq_getElem hi, pa⟩
  case turn =>
    rintro i g' ms v h₂ t₂ hi kg ⟨u, rfl⟩ ⟨p, hpi, pa⟩ H₂
    have G' := G.keeps kg
    have P' := P.keeps kg
    have pa' := pa.keeps kg
    have pok := hok p (List.mem_of_getElem? hpi)
    have snoc : costS li di (ps.take (i + 1)) = costS li di (ps.take i) + partP li di p := by
      rw [List.take_add_one, hpi]; exact costS_snoc ..
    refine assign_loc H₂ N (by kernel_rfl) fun h₃ t₃ H₃ => ?_
    obtain ⟨⟨dx, la, ld, vl, vd, ex, ed, _⟩, _⟩ := id P'
    refine Xs.ite H₃ (b := isMat p) (Tst.boolVal (EvB.isTup (EvX.blt (bn_isinstance G') N (by kernel_rfl) (by kernel_rfl)) (by walk_at "ev") (EvX.blt (bn_tuple G') N (by kernel_rfl) (by kernel_rfl)) pa' rfl) rfl) ?_ ?_
    · intro hb h₄ t₄ H₄
      cases p with
      | lit b => cases hb
      | mat ℓ d =>
        obtain ⟨r, u₂, u₃, rfl, ht⟩ := pa'
        refine Xs.augAdd H₄ (b := mPrice li di ℓ d) (by with_unfolding_all rfl) (EvV.own (K := KK w) (C := 219) (f := 216) (by walk_at "ev") G'.X (Inst.ofG ex ed) (by kernel_rfl) (by kernel_rfl) (by kernel_rfl) (by with_unfolding_all rfl) ⟨_, _, G'.X 216 _ (by rfl), rfl⟩
          (.cons (P := IsI ℓ) (EvI.tupG (i := 0) (n := 0) (by walk_at "ev") (by walk_at "ev") ht rfl rfl (Nat.le_of_ble_eq_true rfl) rfl) (.cons (P := IsI d) (EvI.tupG (i := 1) (n := 1) (by walk_at "ev") (by walk_at "ev") ht rfl rfl (Nat.le_of_ble_eq_true rfl) rfl) .nil rfl) rfl) rfl rfl ?_) N (by kernel_rfl) ?_
        · rintro Q E h t
          refine argsB_ii fun v₁ v₂ H q => ?_
          exact match_ ℓ d (G'.keeps H.base) hA (P'.keeps H.base) rfl rfl pok.1 pok.2.1 pok.2.2.1 pok.2.2.2 fun h' t' u k => q _ h' t' k (isI _ _)
        · intro h₅ t₅ u₅ H₅
          refine Xs.nilT (Xs.nil ⟨_, ⟨u₅, rfl⟩, ?_⟩)
          rw [snoc]
          exact H₅.weaken 0 rfl (OLoc.sub (by walk_at "ls"))
    · intro hb h₄ t₄ H₄
      cases p with
      | mat ℓ d => cases hb
      | lit b =>
        obtain ⟨u₂, rfl⟩ := pa'
        refine Xs.augAdd H₄ (b := or16 li b) (by with_unfolding_all rfl) (EvV.own (K := KK w) (C := 219) (f := 209) (by walk_at "ev") G'.X (Inst.ofG ex ed) (by kernel_rfl) (by kernel_rfl) (by kernel_rfl) (by with_unfolding_all rfl) ⟨_, _, G'.X 209 _ (by rfl), rfl⟩
          (.cons (P := IsI b) (by walk_at "ev") .nil rfl) rfl rfl ?_) N (by kernel_rfl) ?_
        · rintro Q E h t vs H ⟨_, _, rfl, ⟨v₁, rfl⟩, rfl⟩ q
          exact literal_ b (G'.keeps H.base) hA (P'.keeps H.base) rfl pok fun h' t' u k => q _ h' t' k (isI _ _)
        · intro h₅ t₅ u₅ H₅
          refine Xs.nilT (Xs.nil ⟨_, ⟨u₅, rfl⟩, ?_⟩)
          rw [snoc]
          exact H₅.weaken 0 rfl (OLoc.sub (by walk_at "ls"))
  case fin =>
    rintro _ h₂ t₂ ⟨u, rfl⟩ H₂
    rw [List.take_length] at H₂
    refine Xs.ret H₂ (P := IsI (costS li di ps)) (by walk_at "ev") ?_
    rintro v h₃ t₃ ⟨u₃, rfl⟩ H₃
    exact q h₃ t₃ u₃ H₃.base
end
end
section
section
variable {c : Cx} {A : Around} {env : Env} {g : Heap} {ms : List Entry} {ns : List (Str × NameKind)} {E : Value → Heap → Nat → Prop} {h : Heap} {t : Nat} {rest : List Stmt} {l la : List (Str × Value)} {pos p : Pos} {x : Str}
theorem callC2 {fa : Addr} {o : Obj} {fd : FuncData} {body : List Stmt} {vals : List Value} {binds : List (Str × Value)} {Q : Value → Heap → Nat → Prop} {n : Nat} (ms : List Entry) (cs : Addr → List (Str × Addr)) (ll : List (Str × Value)) (es : Addr → List Entry)
    (ho : h.get? fa = some o) (hd : o.data = .func fd) (hb : fd.body = .stmts body) (hns : fd.scope.names = ns) (hr : Room A (n + 1)) (hl : h.NoLimit) (hc : h.CodeRec fd.code fd.qualname) (hbind : BindsTo (c.S h t) fd ⟨vals, []⟩ binds)
    (hclo : fd.closure = []) (hcs : ∀ L, cellsFrom (L + 1) ns [] = cs L) (hkind : (binds.all fun y => ns.lookup y.1 == some .local || ns.lookup y.1 == some .cell) = true)
    (hll : ∀ y v, ll.lookup y = some v → bindL (fun x => ns.lookup x) binds (fun _ => none) y = some v)
    (hes : ∀ L, (cs L).map (fun p => ((p.2, OCell (bindC (fun x => ns.lookup x) binds (fun _ => none) p.1)) : Entry)) = es L) (hnd : ∀ L, ((cs L).map (·.1)).Nodup)
    (hk : fd.scope.kind = .function) (hco : fd.scope.isCoroutine = false) (hgen : fd.scope.isGenerator = false) (hg : fd.globals = mainGlobals) (hbu : fd.builtins = builtinsNs)
    (k : ∀ A' env h' t', Room A' n → EnvN env ns → env.cells = cs env.locals → Led h ((env.locals, OLoc ll) :: es env.locals) h' → Xs c A' env body (fun f h t => Q (flowVal f) h t) NoE h' t') :
    Mine.W c A (call (.ref fa) vals) Q E h t := by
  subst hns
  refine .of (wpAny_call (codeAny_call_function (s := c.S h t) hr.lim ho hd hco hgen hb hc (hbind _ _ _ _ ?_)))
  rw [hclo]
  refine wpAny_newFunctionEnv_cells hk (kindsX hkind _) fun env he s₁ x => ?_
  have he' : env = callEnvC fd h.objs.size fa := he
  subst he'
  refine ⟨hl.keeps x.toInCall.keep, codeAny_func ?_⟩
  obtain ⟨⟨⟨h₁, t₁, rfl⟩, hn, keep, lo⟩, cell, apart, above⟩ := x
  have eL : (callEnvC fd h.objs.size fa).locals = h.objs.size := rfl
  have eC : (callEnvC fd h.objs.size fa).cells = cs h.objs.size := hcs _
  have hko : (fun x => fd.scope.names.lookup x) = (callEnvC fd h.objs.size fa).kindOf := by funext x; rfl
  have hnone : ∀ b, h.objs.size ≤ b → h.get? b = none := fun b hb => by
    cases q : h.get? b with
    | none => rfl
    | some o => exact absurd (Heap.lt_size q) (Nat.not_lt.mpr hb)
  have H : Led h (((callEnvC fd h.objs.size fa).locals, OLoc ll) :: es (callEnvC fd h.objs.size fa).locals) h₁ := by
    refine ⟨fun b o e => keep b o e, fun p hp => ?_, ?_⟩
    · rcases List.mem_cons.mp hp with rfl | hp
      · exact ⟨hnone _ (Nat.le_refl _), of_ns hn fun y v e => by rw [← hko]; exact hll y v e⟩
      · rw [← hes] at hp
        obtain ⟨q, hq, rfl⟩ := List.mem_map.mp hp
        rw [eL, ← eC] at hq
        have ab := above q.1 q.2 hq
        refine ⟨hnone _ (Nat.le_of_lt ab), ?_⟩
        have hlk : (callEnvC fd h.objs.size fa).cells.lookup q.1 = some q.2 := by
          rw [eC] at hq ⊢
          have := hnd h.objs.size
          revert hq this
          generalize cs h.objs.size = z
          intro hq hn
          induction z with
          | nil => cases hq
          | cons a r ih =>
            rw [List.map_cons, List.nodup_cons] at hn
            rw [List.lookup_cons]
            rcases List.mem_cons.mp hq with e | hq
            · rw [e]; simp
            · have : q.1 ≠ a.1 := fun e => hn.1 (e ▸ List.mem_map_of_mem hq)
              simp only [beq_eq_false_iff_ne.mpr this]
              exact ih hq hn.2
        obtain ⟨o, h1, h2⟩ := cell q.1 q.2 hlk
        rw [← hko] at h2
        exact ⟨o, h1, h2⟩
    · rw [← hes, List.map_cons, List.map_map, List.nodup_cons]
      rw [eC] at apart above
      refine ⟨fun hm => ?_, ?_⟩
      · obtain ⟨q, hq, e⟩ := List.mem_map.mp hm
        have ab := above q.1 q.2 hq
        have e' : q.2 = h.objs.size := e
        rw [e'] at ab
        exact absurd ab (Nat.lt_irrefl _)
      · rw [List.nodup_iff_pairwise_ne, List.pairwise_map]
        exact apart.imp fun h => h
  refine cpsN ((k (A.deeper (callEnvC fd h.objs.size fa)) (callEnvC fd h.objs.size fa) h₁ _ hr.deeper ⟨hk, hg, hbu, rfl⟩ eC H).mono (fun f h' t' q => ?_) fun _ _ _ x => x)
  cases f <;> exact ⟨h', t', rfl, q⟩
end
end
section
section
variable {c : Cx} {A : Around} {env : Env} {g : Heap} {ms : List Entry} {ns : List (Str × NameKind)} {E : Value → Heap → Nat → Prop} {h : Heap} {t : Nat} {rest : List Stmt} {l la : List (Str × Value)} {pos p p' : Pos} {x y id : Str}
theorem call_ty {T : String} {e : Expr} {es : List Expr} {R : List Value → Prop} {Q : Value → Heap → Nat → Prop} (H : Led g ms h) (hf : EvX c A env g ms (.Name id p) (.type T)) (ha : EvAs c A env g ms pos (e :: es) R) (hs : (e :: es).all noStar = true)
    (k : ∀ vs h' t', Led g ms h' → R vs → W c A (call (.type T) vs) Q E h' t') : W c A (eval (.Call (.Name id p) (e :: es) [] pos) env) Q E h t := by
  refine .of (wpAny_Call_Name_kw (cps (hf _ E h t H fun v h₁ t₁ H₁ q => ?_)))
  subst q
  have hs1 : noStar e = true := by rw [List.all_cons, Bool.and_eq_true] at hs; exact hs.1
  have ha' := ha
  unfold EvAs at ha'
  refine PyProof.Rows.callWith_type (anyStar hs) ?_
  rw [starEach_cons hs1, backTo_cons] at ha' ⊢
  exact evalArgs_plain (cps (ha' _ E h₁ t₁ H₁ fun vs h₂ t₂ H₂ r => (k vs h₂ t₂ H₂ r).to))
theorem range1_ {e : Expr} {i : Int} {m : Nat} {Q : Value → Heap → Nat → Prop} (hA : A.handled = none) (H : Led g ms h) (hf : EvX c A env g ms (.Name id p) (.type "range")) (he : EvI c A env g ms e i) (hi : i = m) (hm : m ≤ 100000) (hs : noStar e = true)
    (q : ∀ it h' t', Led g ms h' → IterOk c A (.Name y p') g ms m (fun j v => IsI j v) it h' → Q it h' t') : W c A (eval (.Call (.Name id p) [e] [] pos) env) (fun x h₁ t₁ => W c A (pyIter x) Q E h₁ t₁) E h t := by
  refine call_ty H hf (.cons he .nil hs) (by simp [hs]) ?_
  rintro vs h₁ t₁ H₁ ⟨_, _, rfl, ⟨u, rfl⟩, rfl⟩
  subst hi
  refine .of (call_range_1 (s := c.S h₁ t₁) ⟨_, t₁ + 1 + 1, rfl, iter_range (m := m) (a := 0) (b := m) (s := 1) hA (H₁.push_drop _) (Heap.get?_push_size _ rfl) (small_one (by decide) (by decide) (by omega) (by omega)) ?_ fun it h₂ t₂ H₂ ok => q it h₂ t₂ H₂ (ok.mono rfl fun j v hv => ?_)⟩)
  · rw [rangeSize_one]; split <;> omega
  · rw [Int.zero_add, Int.mul_one] at hv; exact hv
theorem range2_ {e₁ e₂ : Expr} {i j : Int} {a m : Nat} {Q : Value → Heap → Nat → Prop} (hA : A.handled = none) (H : Led g ms h) (hf : EvX c A env g ms (.Name id p) (.type "range")) (h₁ : EvI c A env g ms e₁ i) (h₂ : EvI c A env g ms e₂ j) (hi : i = a) (hj : j = (a + m : Nat)) (hm : a + m ≤ 100000) (s₁ : noStar e₁ = true) (s₂ : noStar e₂ = true)
    (q : ∀ it h' t', Led g ms h' → IterOk c A (.Name y p') g ms m (fun j v => IsI ((a + j : Nat) : Int) v) it h' → Q it h' t') : W c A (eval (.Call (.Name id p) [e₁, e₂] [] pos) env) (fun x h₁ t₁ => W c A (pyIter x) Q E h₁ t₁) E h t := by
  refine call_ty H hf (.cons h₁ (.cons h₂ .nil s₂) s₁) (by simp [s₁, s₂]) ?_
  rintro vs k₁ t₁ H₁ ⟨_, _, rfl, ⟨u, rfl⟩, _, _, rfl, ⟨u', rfl⟩, rfl⟩
  subst hi hj
  refine .of (call_range_2 (s := c.S k₁ t₁) ⟨_, t₁ + 1, rfl, iter_range (m := m) (a := a) (b := (a + m : Nat)) (s := 1) hA (H₁.push_drop _) (Heap.get?_push_size _ rfl) (small_one (by omega) (by omega) (by omega) (by omega)) ?_ fun it h₂ t₂ H₂ ok => q it h₂ t₂ H₂ (ok.mono rfl fun j v hv => ?_)⟩)
  · rw [rangeSize_one]; split <;> omega
  · rw [Int.mul_one] at hv; push_cast; exact hv
theorem rangeD_ {e₁ e₂ e₃ : Expr} {i j k : Int} {m : Nat} {Q : Value → Heap → Nat → Prop} (hA : A.handled = none) (H : Led g ms h) (hf : EvX c A env g ms (.Name id p) (.type "range")) (h₁ : EvI c A env g ms e₁ i) (h₂ : EvI c A env g ms e₂ j) (h₃ : EvI c A env g ms e₃ k) (hi : i = (m : Int) - 1) (hj : j = -1) (hk : k = -1) (hm : m ≤ 100000) (s₁ : noStar e₁ = true) (s₂ : noStar e₂ = true) (s₃ : noStar e₃ = true)
    (q : ∀ it h' t', Led g ms h' → IterOk c A (.Name y p') g ms m (fun j v => IsI ((m : Int) - 1 - j) v) it h' → Q it h' t') : W c A (eval (.Call (.Name id p) [e₁, e₂, e₃] [] pos) env) (fun x h₁ t₁ => W c A (pyIter x) Q E h₁ t₁) E h t := by
  refine call_ty H hf (.cons h₁ (.cons h₂ (.cons h₃ .nil s₃) s₂) s₁) (by simp [s₁, s₂, s₃]) ?_
  rintro vs k₁ t₁ H₁ ⟨_, _, rfl, ⟨u, rfl⟩, _, _, rfl, ⟨u', rfl⟩, _, _, rfl, ⟨u'', rfl⟩, rfl⟩
  subst hi hj hk
  refine .of (call_range_3 (s := c.S k₁ t₁) (by decide) ⟨_, t₁, rfl, iter_range (m := m) (a := (m : Int) - 1) (b := -1) (s := -1) hA (H₁.push_drop _) (Heap.get?_push_size _ rfl) (small_down (by omega) (by omega) (by omega) (by omega)) ?_ fun it h₂ t₂ H₂ ok => q it h₂ t₂ H₂ (ok.mono rfl fun j v hv => ?_)⟩ (.inl (PyProof.noPylong_small (by decide))))
  · rw [rangeSize_downNat]; omega
  · have : (m : Int) - 1 + (j : Int) * -1 = (m : Int) - 1 - j := by omega
    rw [this] at hv; exact hv
theorem foldl_rep {v : Value} : ∀ (n : Nat) (acc : Array Value), List.foldl (fun x1 x2 => x1 ++ x2) acc (List.replicate n #[v]) = acc ++ (List.replicate n v).toArray
  | 0, acc => by simp
  | n + 1, acc => by
    rw [List.replicate_succ, List.foldl_cons, foldl_rep n (acc ++ #[v])]
    apply Array.ext'
    simp [List.replicate_succ]
theorem mulI_ {a : Addr} {v : Value} {n : Int} {u : Tok} {Q : Value → Heap → Nat → Prop} (j : Nat) (H : Led g ms h) (hj : ms[j]? = some (a, OList [v])) (hn : n ≤ 100000) (h0 : 0 ≤ n)
    (q : ∀ b h' t', Led g ((b, OList (List.replicate n.toNat v)) :: ms) h' → Q (.ref b) h' t') : W c A (binaryOp .Mult (.ref a) (.int n u)) Q E h t := by
  obtain ⟨o, ho, k, rfl⟩ := H.at j hj
  refine .of (wpAny_binaryOp_repeat_ref (s := c.S h t) (T := "list") (U := "int") (by decide) ⟨_, ho, rfl⟩ (fun s' => typeIs_int s' n u) noFill_list_mul PySem.F.fills_int_mul PySem.F.slot_int_rmul repeat_list PySem.F.slot_int_index.lookup
    (call_meets PySem.F.slot_int_rmul (typeIs_int _ n u) PySem.F.entry_int_rmul (PySem.F.args_int_rmul_2 _ _) (int___rmul___int_list n u a _ k)
      ⟨ho, rfl, ⟨_, ho, rfl⟩, call_meets PySem.F.slot_list_mul ⟨_, ho, rfl⟩ PySem.F.entry_list_mul (PySem.F.args_list_mul_2 _ _)
        (AutoListH.list___mul___list_int_3 a _ k n u (by simp [Builtin.List.listFitsIndex]; omega) (by simp; omega) (by simp [Builtin.List.listTooLong, sizeLine]; omega))
        ⟨ho, _, t, rfl, q _ _ t (H.push _ rfl ⟨0, ?_⟩)⟩⟩))
  have e := foldl_rep (v := v) n.toNat #[]
  rw [if_neg (by simp)]
  show ({ cls := .type "list", data := .seq (List.foldl (fun x1 x2 => x1 ++ x2) #[] (List.replicate n.toNat #[v])) } : Obj) = _
  rw [e]; simp
theorem mulOne_ {a : Addr} {v : Value} {i : Int} {n : Nat} {u : Tok} {Q : Value → Heap → Nat → Prop} (j : Nat) (H : Led g ms h) (hj : ms[j]? = some (a, OList [v])) (hi : i = n) (hn : n ≤ 100000)
    (q : ∀ b h' t', Led g ((b, OList (List.replicate n v)) :: ms) h' → Q (.ref b) h' t') : W c A (binaryOp .Mult (.ref a) (.int i u)) Q E h t :=
  mulI_ j H hj (by omega) (by omega) fun b h' t' H' => q b h' t' (by rwa [show i.toNat = n by omega] at H')
theorem addLists_ {a b : Addr} {vs ws : List Value} {Q : Value → Heap → Nat → Prop} (H : Led g ms h) (ha : ∃ o, h.get? a = some o ∧ OList vs o) (hb : ∃ o, h.get? b = some o ∧ OList ws o) (hz : vs.length + ws.length ≤ 100000)
    (q : ∀ d h' t', Led g ((d, OList (vs ++ ws)) :: ms) h' → Q (.ref d) h' t') : W c A (binaryOp .Add (.ref a) (.ref b)) Q E h t := by
  obtain ⟨o, ho, k, rfl⟩ := ha
  obtain ⟨o', ho', k', rfl⟩ := hb
  refine .of (PySem.P.add_list (s := c.S h t) (hsz := by rw [List.size_toArray, List.size_toArray, sizeLine_eq]; omega) ho ho' ⟨_, t, rfl, q _ _ t (H.push _ rfl ⟨0, ?_⟩)⟩)
  simp
end
end
section
theorem IntsAre.set : ∀ {vs : List Value} {is : List Int}, IntsAre vs is → ∀ (k : Nat) (x : Int) (u : Tok), IntsAre (vs.set k (.int x u)) (is.set k x)
  | _, _, .nil, _, _, _ => .nil
  | _, _, .cons n t r, 0, x, u => .cons x u r
  | _, _, .cons n t r, k + 1, x, u => .cons n t (IntsAre.set r k x u)
section
variable {c : Cx} {A : Around} {env : Env} {g : Heap} {ms : List Entry} {ns : List (Str × NameKind)} {E : Value → Heap → Nat → Prop} {h : Heap} {t : Nat} {rest : List Stmt} {l la : List (Str × Value)} {pos p p' : Pos} {x y id : Str}
theorem Xs.setSubE {o i value : Expr} {ov : Value} {Q : Flow → Heap → Nat → Prop}
    (hv : W c A (eval value env) (fun v h₁ t₁ => ∃ g' ms' R, Led g' ms' h₁ ∧ EvX c A env g' ms' o ov ∧ EvV c A env g' ms' i R ∧ ∀ iv h' t', Led g' ms' h' → R iv → W c A (setItem ov iv v) (fun _ h'' t'' => Xs c A env rest Q E h'' t'') E h' t') E h t) (hc : notComp value = true) :
    Xs c A env (.Assign [.Subscript o i p] value pos :: rest) Q E h t := by
  refine Xs.cons (.of (wpAny_Assign_Subscript (cps (hv.mono (fun v h₁ t₁ q => ?_) fun _ _ _ e => e)) (swaps_of hc ..)))
  obtain ⟨g', ms', R, H₁, ho, hi, k⟩ := q
  refine cps (ho _ E h₁ t₁ H₁ fun u h₂ t₂ H₂ e => cps (hi _ E h₂ t₂ H₂ fun iv h₃ t₃ H₃ ri => ?_))
  subst e
  exact cps ((k iv h₃ t₃ H₃ ri).mono (fun _ h t q => ⟨h, t, rfl, q⟩) fun _ _ _ e => e)
theorem assign_pair {xx yy : Str} {k : Nat} {tpos p₁ p₂ : Pos} {a : Addr} {v₁ v₂ : Value} {Q : Unit → Heap → Nat → Prop} {n : Nat} (hA : Room A n) (H : Led g ((env.locals, OLoc l) :: ms) h) (ht : IsTup h a [v₁, v₂].toArray) (N : EnvN env ns) (hx : ns.lookup xx = some .local) (hy : ns.lookup yy = some .local)
    (q : ∀ h' t', Led g ((env.locals, OLoc ((yy, v₂) :: (xx, v₁) :: l)) :: ms) h' → Q () h' t') : W c A (PySem.assign (.Tuple [.Name xx p₁, .Name yy p₂] k tpos) env (.ref a)) Q E h t := by
  refine .of (assign_Tuple_tuple (s := c.S h t) hA.quiet ht rfl rfl fun h'' x => ?_)
  have st : h.StaysIn h'' := fun b o e => x b o (Nat.ne_of_lt (Heap.lt_size e)) e
  exact cps (InOrder.loc (H.ext st) N hx fun h₁ t₁ H₁ => InOrder.loc H₁ N hy fun h₂ t₂ H₂ => InOrder.nil ⟨h₂, t₂, rfl, q h₂ t₂ H₂⟩)
theorem swaps_comp {elt : Expr} {gens : List Comprehension} {scope : Scope} {py : Pos} {line : Nat} (N : EnvN env ns) (hy : ns.lookup y = some .local) (hl : (py.line == pos.line && !(scope.names.any fun (n, k) => n == y && (k == .local || k == .cell))) = true) :
    swapsWith (.ListComp elt gens scope pos) (some (.Name y py)) line env = pure true := by
  have e : swapsWith (.ListComp elt gens scope pos) (some (.Name y py)) line env = pure (env.blockKind == .function && env.kindOf y == some .local && py.line == pos.line && !(scope.names.any fun (n, k) => n == y && (k == .local || k == .cell))) := rfl
  have b : (env.blockKind == .function) = true := by unfold Env.blockKind; rw [N.kind]; rfl
  rw [e, b, N.of hy]
  rw [Bool.and_eq_true] at hl
  rw [hl.1, hl.2]
  rfl
theorem Tst.isNone {e : Expr} {kk : Nat} {v : Value} {b : Bool} (he : EvX c A env g ms e v) (hb : (v == Value.none) = b) : Tst c A env g ms (.Compare e [.Is] [.Constant .none kk p] pos) b :=
  .cmp he EvX.none (fun Q E h t x y H e₁ e₂ k => by
    subst e₁ e₂ hb
    exact .of (is_none_gen (s := c.S h t) ⟨h, t, rfl, k h t H⟩)) rfl
end
end
section
noncomputable def dpStep (li di : List Int) (t : List (Int × Option Part)) (st : Int × Option Part) : Part → Int × Option Part
  | .mat ℓ d => if mPrice li di ℓ d + (t.getD (ℓ - 1) (0, none)).1 < st.1 then (mPrice li di ℓ d + (t.getD (ℓ - 1) (0, none)).1, some (.mat ℓ d)) else st
  | .lit _ => st
noncomputable def dpS (o : List UInt8) (li di : List Int) (mb ml k : Nat) : Nat → List (Int × Option Part)
  | 0 => [(0, none)]
  | i + 1 => ((waysS o (o.length - (i + 1)) mb ml k).foldl (dpStep li di (dpS o li di mb ml k i)) (or16 li (o.getD (o.length - (i + 1)) 0).toNat + ((dpS o li di mb ml k i).getD 0 (0, none)).1, none)) :: dpS o li di mb ml k i
theorem dpS_len (o : List UInt8) (li di : List Int) (mb ml k : Nat) : ∀ i, (dpS o li di mb ml k i).length = i + 1
  | 0 => rfl
  | i + 1 => by unfold dpS; rw [List.length_cons, dpS_len o li di mb ml k i]
noncomputable def chosS (o : List UInt8) (li di : List Int) (mb ml k : Nat) (a : Nat) : Option Part := ((dpS o li di mb ml k o.length).getD a (0, none)).2
noncomputable def cutS (o : List UInt8) (ch : Nat → Option Part) : Nat → Nat → List Part
  | 0, _ => []
  | f + 1, a => if a < o.length then (match ch a with
    | some p => p :: cutS o ch f (a + partLen p)
    | none => .lit (o.getD a 0).toNat :: cutS o ch f (a + 1)) else []
noncomputable def Ways (ts : List Entry) (ys : List Value) (ws : List (List Part)) : Prop := ys.length = ws.length ∧ ∀ (i : Nat) (w : List Part), ws[i]? = some w → ∃ r vs, ys[i]? = some (.ref r) ∧ (r, OList vs) ∈ ts ∧ Parts ts vs w
theorem Ways.snoc {ts ts' : List Entry} {ys : List Value} {ws : List (List Part)} {r : Addr} {vs : List Value} {w : List Part} (W : Ways ts ys ws) (k : ∀ e ∈ ts, e ∈ ts') (hr : (r, OList vs) ∈ ts') (hp : Parts ts' vs w) : Ways ts' (ys ++ [.ref r]) (ws ++ [w]) := by
  refine ⟨by rw [List.length_append, List.length_append, W.1]; rfl, fun i w' e => ?_⟩
  rcases Nat.lt_or_ge i ws.length with h | h
  · rw [List.getElem?_append_left h] at e
    obtain ⟨r', vs', a, b, d⟩ := W.2 i w' e
    exact ⟨r', vs', by rw [List.getElem?_append_left (by rw [W.1]; exact h)]; exact a, k _ b, d.mono k⟩
  · rw [List.getElem?_append_right h] at e
    have hi : i - ws.length = 0 := by
      cases q : i - ws.length with
      | zero => rfl
      | succ j => rw [q] at e; simp at e
    rw [hi] at e
    cases e
    exact ⟨r, vs, by rw [List.getElem?_append_right (by rw [W.1]; exact h), W.1, hi]; rfl, hr, hp⟩
noncomputable def WaysAt (h : Heap) (ys : List Value) (ws : List (List Part)) : Prop := ys.length = ws.length ∧ ∀ (i : Nat) (w : List Part), ws[i]? = some w → ∃ r vs, ys[i]? = some (.ref r) ∧ h.IsList r vs.toArray ∧ PsAt h vs w
theorem Ways.at {g h : Heap} {ms ts : List Entry} {ys : List Value} {ws : List (List Part)} (W : Ways ts ys ws) (H : Led g ms h) (hs : ∀ e ∈ ts, e ∈ ms) : WaysAt h ys ws :=
  ⟨W.1, fun i w e => let ⟨r, vs, a, b, d⟩ := W.2 i w e; ⟨r, vs, a, isList_of (H.mem (hs _ b)), d.at H hs⟩⟩
theorem Ways.atA {h : Heap} {ts : List Entry} {ys : List Value} {ws : List (List Part)} (W : Ways ts ys ws) (H : Alive h ts) : WaysAt h ys ws :=
  ⟨W.1, fun i w e => let ⟨r, vs, a, b, d⟩ := W.2 i w e; ⟨r, vs, a, isList_of (H _ b), d.atA H⟩⟩
theorem WaysAt.keeps {h h' : Heap} {ys : List Value} {ws : List (List Part)} (W : WaysAt h ys ws) (k : h.StaysIn h') : WaysAt h' ys ws :=
  ⟨W.1, fun i w e => let ⟨r, vs, a, b, d⟩ := W.2 i w e; ⟨r, vs, a, stays_list k b, d.keeps k⟩⟩
noncomputable def ChIn (ts : List Entry) (v : Value) : Option Part → Prop
  | none => v = .none
  | some p => PIn ts v p
inductive Chs (ts : List Entry) : List Value → List (Option Part) → Prop
  | nil : Chs ts [] []
  | cons {v vs p ps} : ChIn ts v p → Chs ts vs ps → Chs ts (v :: vs) (p :: ps)
theorem Chs.mono {ts ts' : List Entry} {vs : List Value} {ps : List (Option Part)} (h : Chs ts vs ps) (k : ∀ e ∈ ts, e ∈ ts') : Chs ts' vs ps := by
  induction h with
  | nil => exact .nil
  | @cons v vs p ps a _ ih =>
    refine .cons ?_ ih
    cases p with
    | none => exact a
    | some p => exact PIn.mono a k
theorem Chs.length {ts : List Entry} {vs : List Value} {ps : List (Option Part)} (h : Chs ts vs ps) : vs.length = ps.length := by
  induction h with
  | nil => rfl
  | cons a _ ih => exact congrArg Nat.succ ih
theorem Chs.set {ts : List Entry} {vs : List Value} {ps : List (Option Part)} {v : Value} {p : Option Part} (h : Chs ts vs ps) (a : ChIn ts v p) : ∀ k, Chs ts (vs.set k v) (ps.set k p) := by
  induction h with
  | nil => exact fun _ => .nil
  | cons b r ih =>
    intro k
    cases k with
    | zero => exact .cons a r
    | succ k => exact .cons b (ih k)
theorem Chs.get {ts : List Entry} {vs : List Value} {ps : List (Option Part)} (h : Chs ts vs ps) : ∀ (i : Nat) (p : Option Part), ps[i]? = some p → ∃ v, vs[i]? = some v ∧ ChIn ts v p := by
  induction h with
  | nil => intro i p e; simp at e
  | cons a _ ih =>
    intro i p e
    cases i with
    | zero => cases e; exact ⟨_, rfl, a⟩
    | succ i => exact ih i p e
theorem Chs.nones (ts : List Entry) : ∀ n, Chs ts (List.replicate n .none) (List.replicate n none)
  | 0 => .nil
  | n + 1 => .cons rfl (Chs.nones ts n)
theorem IntsAre.zeros (u : Tok) : ∀ n, IntsAre (List.replicate n (.int 0 u)) (List.replicate n 0)
  | 0 => .nil
  | n + 1 => .cons 0 u (IntsAre.zeros u n)
theorem ll_of {ll : List (Str × Value)} {f : Str → Option Value} (h : ∀ p ∈ ll, f p.1 = some p.2) : ∀ y v, ll.lookup y = some v → f y = some v := fun y v e => h (y, v) (mem_of_lookup e)
theorem walkS_near {o : List UInt8} {key : Int} {a mb : Nat} : ∀ {m k p : Nat}, p ∈ walkS o key a mb m k → a - p ≤ mb
  | 0, _, _, h => nomatch h
  | m + 1, k, p, h => by
    unfold walkS at h
    split at h
    · split at h
      · cases h
      · rcases List.mem_cons.mp h with rfl | h
        · omega
        · exact walkS_near h
    · exact walkS_near h
theorem placesS_near {o : List UInt8} {a mb k p : Nat} (h : p ∈ placesS o a mb k) : a - p ≤ mb := by
  unfold placesS at h
  split at h
  · exact walkS_near h
  · cases h
noncomputable def wayOk (o : List UInt8) (a mb ml : Nat) (p : Part) : Prop := ∃ ℓ d, p = .mat ℓ d ∧ 3 ≤ ℓ ∧ ℓ ≤ ml ∧ a + ℓ ≤ o.length ∧ 1 ≤ d ∧ d ≤ mb ∧ d ≤ a
theorem waysS_ok {o : List UInt8} {a mb ml k : Nat} {p : Part} (h : p ∈ waysS o a mb ml k) : wayOk o a mb ml p := by
  unfold waysS wayFold at h
  have key : ∀ (l : List Nat) (st : Nat × List Part), (∀ q ∈ l, q < a ∧ a - q ≤ mb) → 2 ≤ st.1 → (∀ p ∈ st.2, wayOk o a mb ml p) → ∀ p ∈ (l.foldl (wayStep o a ml) st).2, wayOk o a mb ml p := by
    intro l
    induction l with
    | nil => exact fun st _ _ h => h
    | cons q l ih =>
      intro st hl h2 hs
      rw [List.foldl_cons]
      have hq := hl q (List.mem_cons_self ..)
      refine ih _ (fun q hq => hl q (List.mem_cons_of_mem _ hq)) (by show 2 ≤ max _ _; omega) fun p hp => ?_
      rcases List.mem_append.mp hp with hp | hp
      · exact hs p hp
      · obtain ⟨i, hi, rfl⟩ := List.mem_map.mp hp
        rw [List.mem_range] at hi
        have r1 := comm_le o ml q a
        have r2 := comm_room o ml q a
        exact ⟨_, _, rfl, by omega, by omega, by omega, by omega, by omega, by omega⟩
  exact key _ _ (fun q hq => ⟨(placesS_lt hq).1, placesS_near hq⟩) (Nat.le_refl _) (fun p hp => by simp at hp) p h
theorem set_rep {α : Type} (z y x : α) (r : List α) : ∀ m, (List.replicate m z ++ y :: r).set m x = List.replicate m z ++ x :: r
  | 0 => rfl
  | m + 1 => by rw [List.replicate_succ, List.cons_append, List.set_cons_succ, set_rep z y x r m]; rfl
theorem get_rep {α : Type} (z y : α) (r : List α) : ∀ m, (List.replicate m z ++ y :: r)[m]? = some y
  | 0 => rfl
  | m + 1 => by rw [List.replicate_succ, List.cons_append, List.getElem?_cons_succ, get_rep z y r m]
theorem get_rep' {α : Type} (z y : α) (r : List α) (j : Nat) : ∀ m, (List.replicate m z ++ y :: r)[m + 1 + j]? = r[j]?
  | 0 => by rw [Nat.zero_add, Nat.add_comm]; rfl
  | m + 1 => by rw [List.replicate_succ, List.cons_append, show m + 1 + 1 + j = (m + 1 + j) + 1 by omega, List.getElem?_cons_succ, get_rep' z y r j m]
section
variable {w : World} {σ : Shared} {A : Around} {E : Value → Heap → Nat → Prop} {h : Heap} {t n : Nat} {Q : Value → Heap → Nat → Prop}
theorem foldl_dp_ok {o : List UInt8} {a mb ml : Nat} (li di : List Int) (tt : List (Int × Option Part)) : ∀ (l : List Part) (st : Int × Option Part), (∀ p ∈ l, wayOk o a mb ml p) → (∀ p, st.2 = some p → wayOk o a mb ml p) → ∀ p, (l.foldl (dpStep li di tt) st).2 = some p → wayOk o a mb ml p
  | [], st, _, hs, p, e => hs p e
  | q :: l, st, hl, hs, p, e => by
    rw [List.foldl_cons] at e
    refine foldl_dp_ok li di tt l _ (fun p hp => hl p (List.mem_cons_of_mem _ hp)) (fun p e => ?_) p e
    have hq := hl q (List.mem_cons_self ..)
    obtain ⟨ℓ, d, rfl, _⟩ := id hq
    unfold dpStep at e
    dsimp only at e
    split at e
    · cases e; exact hq
    · exact hs p e
theorem dpS_ok {o : List UInt8} {li di : List Int} {mb ml k : Nat} : ∀ i j, i ≤ o.length → ∀ p, ((dpS o li di mb ml k i).getD j (0, none)).2 = some p → wayOk o (o.length - i + j) mb ml p
  | 0, j, _, p, e => by
    cases j with
    | zero => cases e
    | succ j => cases e
  | i + 1, 0, hi, p, e => by
    unfold dpS at e
    exact foldl_dp_ok li di _ _ _ (fun p hp => waysS_ok hp) (fun p e => by have e' : none = some p := e; cases e') p e
  | i + 1, j + 1, hi, p, e => by
    unfold dpS at e
    have := dpS_ok (li := li) (di := di) (k := k) i j (by omega) p e
    rw [show o.length - (i + 1) + (j + 1) = o.length - i + j by omega]
    exact this
theorem chosS_ok {o : List UInt8} {li di : List Int} {mb ml k a : Nat} {p : Part} (e : chosS o li di mb ml k a = some p) : wayOk o a mb ml p := by
  have := dpS_ok o.length a (Nat.le_refl _) p e
  rwa [Nat.sub_self, Nat.zero_add] at this
theorem cutS_succ (o : List UInt8) (ch : Nat → Option Part) (f a : Nat) : cutS o ch (f + 1) a = if a < o.length then (match ch a with
    | some p => p :: cutS o ch f (a + partLen p)
    | none => .lit (o.getD a 0).toNat :: cutS o ch f (a + 1)) else [] := rfl
theorem cutS_end (o : List UInt8) (ch : Nat → Option Part) (f a : Nat) (h : o.length ≤ a) : cutS o ch f a = [] := by
  cases f with
  | zero => rfl
  | succ f => rw [cutS_succ, if_neg (by omega)]
inductive CWJ (g : Heap) (L pr co ch : Addr) (yo : Tok) (o : List UInt8) (li di : List Int) (mb ml k : Nat) (vs cs : List Value) (ts : List Entry) (mm : Nat) (g' : Heap) (ms' : List Entry) : Prop
  | mk (h0 : g' = g) (f a : Nat) (vs₁ : List Value) (ps : List Part) (u : Tok) (h1 : mm = o.length - a) (h2 : a ≤ o.length) (h3 : o.length - a ≤ f) (h4 : ps.length ≤ a)
    (h5 : ps ++ cutS o (chosS o li di mb ml k) f a = cutS o (chosS o li di mb ml k) o.length 0) (h6 : Parts ts vs₁ ps)
    (h7 : ms' = (L, OLoc [("at", .int a u), ("parts", .ref pr), ("chosen", .ref ch), ("octets", .bytes o.toArray yo)]) :: (pr, OList vs₁) :: (co, OSeq vs) :: (ch, OSeq cs) :: ts) : CWJ g L pr co ch yo o li di mb ml k vs cs ts mm g' ms'
inductive CFJ (L ch co wa : Addr) (yo : Tok) (x : Addr) (o : List UInt8) (li di : List Int) (mb ml k i : Nat) (ms : List Entry) : Prop
  | mk (h0 : i ≤ o.length) (vs cs : List Value) (ts : List Entry) (h1 : IntsAre vs (List.replicate (o.length - i) 0 ++ (dpS o li di mb ml k i).map (·.1))) (h2 : Chs ts cs (List.replicate (o.length - i) none ++ ((dpS o li di mb ml k i).map (·.2)).take i))
    (h3 : ms = (L, OLoc [("chosen", .ref ch), ("costs", .ref co), ("ways", .ref wa), ("octets", .bytes o.toArray yo), ("prices", .ref x)]) :: (co, OSeq vs) :: (ch, OSeq cs) :: ts) : CFJ L ch co wa yo x o li di mb ml k i ms
inductive CIJ (L ch co wa : Addr) (yo : Tok) (x : Addr) (o : List UInt8) (u : Tok) (a : Nat) (D : List (Int × Option Part)) (i : Nat) (st : Nat → Int × Option Part) (j : Nat) (ms : List Entry) : Prop
  | mk (vs cs : List Value) (ts : List Entry) (h1 : IntsAre vs (List.replicate a 0 ++ (st j).1 :: D.map (·.1))) (h2 : Chs ts cs (List.replicate a none ++ (st j).2 :: (D.map (·.2)).take i))
    (h3 : ms = (L, OLoc [("at", .int a u), ("chosen", .ref ch), ("costs", .ref co), ("ways", .ref wa), ("octets", .bytes o.toArray yo), ("prices", .ref x)]) :: (co, OSeq vs) :: (ch, OSeq cs) :: ts) : CIJ L ch co wa yo x o u a D i st j ms
inductive CIM (g : Heap) (L ch co wa : Addr) (yo : Tok) (x : Addr) (o : List UInt8) (u : Tok) (a : Nat) (D : List (Int × Option Part)) (i : Nat) (st : Nat → Int × Option Part) (j : Nat) (h : Heap) (t : Nat) : Prop
  | mk (vs cs : List Value) (ts : List Entry) (h1 : IntsAre vs (List.replicate a 0 ++ (st j).1 :: D.map (·.1))) (h2 : Chs ts cs (List.replicate a none ++ (st j).2 :: (D.map (·.2)).take i))
    (h3 : Led g ((L, OLoc [("at", .int a u), ("chosen", .ref ch), ("costs", .ref co), ("ways", .ref wa), ("octets", .bytes o.toArray yo), ("prices", .ref x)]) :: (co, OSeq vs) :: (ch, OSeq cs) :: ts) h) : CIM g L ch co wa yo x o u a D i st j h t
set_option maxHeartbeats 8000000 in
theorem cheapest_parts_ {o : List UInt8} {yo : Tok} {x : Addr} {li di : List Int} {i₂ i₃ i₄ : Int} (mb ml k : Nat) {y₂ y₃ y₄ : Tok} (G : Gl w h) (hA : Room A (n + 6)) (P : Pr h x li di)
    (hz : o.length ≤ 800) (hml : ml < 8) (hmb : mb < 17) (e₂ : i₂ = mb) (e₃ : i₃ = ml) (e₄ : i₄ = k)
    (q : ∀ r h' t' vs ts, Led h ((r, OList vs) :: ts) h' → Parts ts vs (cutS o (chosS o li di mb ml k) o.length 0) → Q (.ref r) h' t') :
    W (cx w σ) A (call (.ref 146) [.bytes o.toArray yo, .ref x, .int i₂ y₂, .int i₃ y₃, .int i₄ y₄]) Q E h t := by
  subst e₂ e₃ e₄
  refine callC2 (ms := []) (cs := fun L => [("chains", L + 4), ("tries", L + 3), ("most_length", L + 2), ("most_back", L + 1)]) (ll := [("octets", .bytes o.toArray yo), ("prices", .ref x)])
    (es := fun L => [(L + 4, OCell none), (L + 3, OCell (some (.int k y₄))), (L + 2, OCell (some (.int ml y₃))), (L + 1, OCell (some (.int mb y₂)))])
    (binds := [("octets", _), ("prices", _), ("most_back", _), ("most_length", _), ("tries", _)]) (G.X 146 _ (by rfl)) (by rfl) (by rfl) (by rfl) hA G.lim (codeRec_of G.X (by kernel_rfl)) (by exact BindsTo.of_defaults rfl (G.X _ _ (by rfl)) rfl rfl rfl) (by rfl) (fun L => by rfl) (by rfl) ?_ (fun L => by rfl) (fun L => by show List.Nodup [("chains" : Str), "tries", "most_length", "most_back"]; decide) rfl rfl rfl rfl rfl ?_
  · exact ll_of (by rintro p hp; simp only [List.mem_cons, List.not_mem_nil, or_false] at hp; rcases hp with rfl | rfl <;> rfl)
  clear hA
  rintro A env h₀ t₀ hA N NC H
  dsimp only at N NC
  refine Xs.assignE (chains_new H G hA N (by kernel_rfl) (yo := yo) (o := o) (by walk_at "ev") rfl fun z dz hd ea h₁ t₁ hs H₁ => ?_) rfl
  refine store_cell 5 H₁ N (by kernel_rfl) (d := env.locals + 4) (by rw [NC]; rfl) rfl fun h₂ H₂ => ?_
  dsimp only [List.set] at H₂
  -- (z) (dz) (hd) (ea) (L) (c4) (c3) (c2) (c1)
  obtain ⟨g, hg, H₃, fz, -⟩ := Led.split [(env.locals, _), (hd, _), (ea, _)] (((H₂.up 3 rfl).up 3 rfl).up 4 rfl)
  have C : ChI g z dz hd ea o yo := ⟨isat (fz (z, OIs (instObj 99 dz)) (by simp)), fz (dz, OAttr [("octets", .bytes o.toArray yo), ("heads", .ref hd), ("earlier", .ref ea)]) (by simp)⟩
  have c4 : g.IsCell (env.locals + 4) (some (.ref z)) := fz (env.locals + 4, OCell (some (.ref z))) (by simp)
  have c3 : g.IsCell (env.locals + 3) (some (.int k y₄)) := fz (env.locals + 3, OCell (some (.int k y₄))) (by simp)
  have c2 : g.IsCell (env.locals + 2) (some (.int ml y₃)) := fz (env.locals + 2, OCell (some (.int ml y₃))) (by simp)
  have c1 : g.IsCell (env.locals + 1) (some (.int mb y₂)) := fz (env.locals + 1, OCell (some (.int mb y₂))) (by simp)
  replace G := G.keeps hg
  have P' := P.keeps hg
  have hn : hd ≠ ea := by
    have nd := H₃.nd
    simp only [List.map_cons, List.nodup_cons, List.mem_cons, List.map_nil, List.not_mem_nil, or_false, not_or] at nd
    exact nd.2.1
  have q' : ∀ r h' t' vs ts, Led g ((r, OList vs) :: ts) h' → Parts ts vs (cutS o (chosS o li di mb ml k) o.length 0) → Q (.ref r) h' t' := fun r h' t' vs ts H P => q r h' t' vs ts (H.stays hg) P
  clear H H₁ H₂ fz hg q P
  refine Xs.comp (g := g) (cl := [("tries", env.locals + 3), ("most_length", env.locals + 2), ("most_back", env.locals + 1), ("chains", env.locals + 4)]) (n := o.length) (P := fun i v => IsI i v)
    (fun i ys ms => ∃ m ts, m ≤ i ∧ Ways ts ys ((List.range i).map fun a => waysS o a mb ml k) ∧ ms = (env.locals, OLoc [("octets", .bytes o.toArray yo), ("prices", .ref x)]) :: (hd, OHeads o m) :: (ea, OEarl o m) :: ts) (by rw [NC]; rfl) (by decide) rfl (by decide) rfl N (by omega) ?he ?turn (by kernel_rfl) (swaps_comp N (by kernel_rfl) (by kernel_rfl)) ?fin (fun _ => rfl)
  case he =>
    refine range1_ (m := o.length) hA.quiet H₃ (EvX.blt (bn_range G) N (by kernel_rfl) (by kernel_rfl)) (EvI.lenY (by walk_at "ev") (by walk_at "ev") (by omega) rfl) rfl (by omega) rfl fun it h₄ t₄ H₄ ok => ⟨_, ⟨0, [], Nat.le_refl _, ⟨rfl, fun i w e => by simp at e⟩, rfl⟩, H₄, ok⟩
  case turn =>
    rintro i ys g' ms v h₄ t₄ Cd cenv ecenv Nc hi kg ⟨m, ts, hm, hW, rfl⟩ ⟨u, rfl⟩ H₄
    have hcc : cenv.cells = ([("tries", env.locals + 3), ("most_length", env.locals + 2), ("most_back", env.locals + 1), ("chains", env.locals + 4)] : List (Str × Addr)) := by rw [ecenv]; rfl
    have G' := G.keeps kg
    have C' := C.keeps kg
    have c1' := c1.keeps kg
    have c2' := c2.keeps kg
    have c3' := c3.keeps kg
    have c4' := c4.keeps kg
    refine tests_nil ⟨_, H₄, fun _ => ?_, fun e => nomatch e⟩
    refine call_fn (fa := 140) H₄ (EvX.glob (gn_matches_by_length G') Nc (by kernel_rfl) (by kernel_rfl)) ⟨_, _, G'.X 140 _ (by rfl), rfl⟩
      (.cons (P := fun v => v = .ref z) (EvX.gcell Nc (by kernel_rfl) (by rw [hcc]; rfl) c4' (by kernel_rfl)) (.cons (P := IsI i) (by walk_at "ev") (.cons (P := IsI mb) (EvX.gcell Nc (by kernel_rfl) (by rw [hcc]; rfl) c1' (by kernel_rfl)).int (.cons (P := IsI ml) (EvX.gcell Nc (by kernel_rfl) (by rw [hcc]; rfl) c2' (by kernel_rfl)).int (.cons (P := IsI k) (EvX.gcell Nc (by kernel_rfl) (by rw [hcc]; rfl) c3' (by kernel_rfl)).int .nil rfl) rfl) rfl) rfl) rfl) rfl ?_
    refine argsA_xiiii fun v₁ v₂ v₃ v₄ h₅ t₅ H₅ => ?_
    refine matches_by_length_ m i mb ml k G' hA C' H₅.base (H₅.off 2 rfl) (H₅.off 3 rfl) (by omega) rfl rfl rfl rfl hm (by omega) (by omega) hs (H₅.at 2 rfl) (H₅.at 3 rfl) hn fun r h₆ t₆ vs ts' Hn hP => ?_
    have H₆ := H₅.merge2 2 3 rfl rfl Hn (by decide)
    simp only [List.set, List.cons_append] at H₆
    refine ⟨_, H₆.weaken 0 rfl (OLoc.sub LocSub.nil), ⟨i, ts ++ (r, OList vs) :: ts', by omega, ?_, rfl⟩⟩
    rw [List.range_succ, List.map_append]
    exact hW.snoc (fun e he => List.mem_append_left _ he) (by simp) (hP.mono fun e he => by simp [he])
  case fin =>
    rintro ys ms ⟨m, ts, hm, hW, rfl⟩ hys
    refine ⟨_, _, rfl, fun wa h₄ t₄ H₄ => ?_⟩
    obtain ⟨g', hg', H₅, fz, kp⟩ := Led.split [(env.locals, _)] H₄
    have hwl : g'.IsList wa ys.toArray := isList_of (fz (wa, OList ys) (by simp))
    have hWA : WaysAt g' ys ((List.range o.length).map fun a => waysS o a mb ml k) := hW.atA fun q hq => fz q (by simp [hq])
    replace G := G.keeps hg'
    replace P' := P'.keeps hg'
    have q'' : ∀ r h' t' vs ts, Led g' ((r, OList vs) :: ts) h' → Parts ts vs (cutS o (chosS o li di mb ml k) o.length 0) → Q (.ref r) h' t' := fun r h' t' vs ts H P => q' r h' t' vs ts (H.stays hg') P
    clear q' fz kp C c1 c2 c3 c4 hn hW H₄ hg'
    generalize g' = g at *
    -- costs
    refine Xs.assignE (.of (wpAny_BinOp (cps (list_ H₅ (.cons (P := IsI 0) (by walk_at "ev") .nil rfl) (fun vs r => by obtain ⟨_, _, rfl, _, rfl⟩ := r; exact Nat.le_of_ble_eq_true rfl) fun vs la h₆ t₆ r H₆ => ?_)))) rfl
    obtain ⟨_, _, rfl, ⟨u0, rfl⟩, rfl⟩ := r
    refine cps (EvV.w (P := IsI (o.length + 1)) (EvI.add (EvI.lenY (by walk_at "ev") (by walk_at "ev") (by omega) rfl) (by walk_at "ev")) H₆.swap ?_)
    rintro _ h₇ t₇ ⟨u1, rfl⟩ H₇
    refine (mulOne_ 1 H₇ rfl (n := o.length + 1) (by omega) (by omega) fun co h₈ t₈ H₈ => ?_).to
    refine store_loc (H₈.mv 1) N (by kernel_rfl) fun h₉ H₉ => ?_
    replace H₉ := H₉.cut 2
    dsimp only [ins, List.eraseIdx] at H₉
    -- chosen
    refine Xs.assignE (.of (wpAny_BinOp (cps (list_ H₉ (.cons (P := fun v => v = .none) (by walk_at "ev") .nil rfl) (fun vs r => by obtain ⟨_, _, rfl, _, rfl⟩ := r; exact Nat.le_of_ble_eq_true rfl) fun vs lb k₆ s₆ r K₆ => ?_)))) rfl
    obtain ⟨_, _, rfl, rfl, rfl⟩ := r
    refine cps (EvV.w (P := IsI o.length) (EvI.lenY (by walk_at "ev") (by walk_at "ev") (by omega) rfl) K₆.swap ?_)
    rintro _ k₇ s₇ ⟨u2, rfl⟩ K₇
    refine (mulOne_ 1 K₇ rfl (n := o.length) (by omega) (by omega) fun ch k₈ s₈ K₈ => ?_).to
    refine store_loc (K₈.mv 1) N (by kernel_rfl) fun k₉ K₉ => ?_
    replace K₉ := K₉.cut 2
    dsimp only [ins, List.eraseIdx] at K₉
    replace K₉ := (K₉.up 2 rfl).mv 1
    dsimp only [ins, List.eraseIdx] at K₉
    clear H₅ H₆ H₇ H₈ H₉ K₆ K₇ K₈
    -- (L) (co) (ch)
    refine Xs.for (g := g) (n := o.length) (P := fun i v => IsI ((o.length : Int) - 1 - i) v) (CFJ env.locals ch co wa yo x o li di mb ml k) ?he2 ?turn2 ?fin2 (fun _ => rfl)
    case he2 =>
      have z1 : IntsAre (List.replicate (o.length + 1) (.int 0 u0)) (List.replicate (o.length - 0) (0 : Int) ++ (dpS o li di mb ml k 0).map (·.1)) := by
        have e : (List.replicate (o.length - 0) (0 : Int) ++ (dpS o li di mb ml k 0).map (·.1)) = List.replicate (o.length + 1) 0 := by rw [List.replicate_succ']; rfl
        rw [e]
        exact IntsAre.zeros _ _
      have z2 : Chs [] (List.replicate o.length .none) (List.replicate (o.length - 0) none ++ ((dpS o li di mb ml k 0).map (·.2)).take 0) := by
        rw [List.take_zero, List.append_nil]
        exact Chs.nones _ _
      exact rangeD_ (m := o.length) hA.quiet K₉ (EvX.blt (bn_range G) N (by kernel_rfl) (by kernel_rfl)) (EvI.sub (EvI.lenY (by walk_at "ev") (by walk_at "ev") (by omega) rfl) (by walk_at "ev")) (i := (o.length : Int) - 1) (j := -1) (k := -1) (by walk_at "ev") (by walk_at "ev") rfl rfl rfl (by omega) rfl rfl rfl
        fun it h₄ t₄ H₄ ok => ⟨_, ⟨Nat.zero_le _, _, _, [], z1, z2, rfl⟩, ((H₄.weaken 0 rfl (OLoc.sub (by walk_at "ls"))).weaken 1 rfl OList.seq).weaken 2 rfl OList.seq, ok⟩
    case turn2 =>
      rintro i g' ms v h₄ t₄ hi kg ⟨-, vs, cs, ts, hvs, hcs, rfl⟩ ⟨u, rfl⟩ H₄
      generalize hQ₁ : FPost _ _ _ _ _ _ _ _ _ = Q₁
      obtain ⟨a, ha⟩ : ∃ a, a = o.length - (i + 1) := ⟨_, rfl⟩
      have eA : (o.length : Int) - 1 - i = a := by omega
      rw [eA]
      have eR : o.length - i = a + 1 := by omega
      rw [eR, List.replicate_succ', List.append_assoc] at hvs hcs
      change IntsAre vs (List.replicate a 0 ++ 0 :: (dpS o li di mb ml k i).map (·.1)) at hvs
      change Chs ts cs (List.replicate a none ++ none :: ((dpS o li di mb ml k i).map (·.2)).take i) at hcs
      have hdl := dpS_len o li di mb ml k i
      have lvs : vs.length = a + 1 + (i + 1) := by rw [hvs.length]; simp; omega
      have lcs : cs.length = a + 1 + i := by rw [hcs.length]; simp; omega
      have dget : ∀ j, j ≤ i → (List.replicate a (0 : Int) ++ 0 :: (dpS o li di mb ml k i).map (·.1)).getD (a + 1 + j) 0 = ((dpS o li di mb ml k i).getD j (0, none)).1 := by
        intro j hj
        rw [List.getD_eq_getElem?_getD, get_rep', List.getElem?_map, List.getD_eq_getElem?_getD, List.getElem?_eq_getElem (by omega)]
        rfl
      have G' := G.keeps kg
      have P'' := P'.keeps kg
      have hwl' := stays_list kg hwl
      have hWA' := hWA.keeps kg
      obtain ⟨rw_, vw, eyw, hrw, hpw⟩ := hWA'.2 a (waysS o a mb ml k) (by rw [List.getElem?_map, List.getElem?_range (by omega)]; rfl)
      obtain ⟨⟨dx, la, ld, vl, vd, ex, ed, _⟩, _⟩ := id P''
      refine assign_loc H₄ N (by kernel_rfl) fun h₅ t₅ H₅ => ?_
      have lit : or16 li (o.getD a 0).toNat + ((dpS o li di mb ml k i).getD 0 (0, none)).1 = or16 li (o.getD a 0).toNat + (List.replicate a (0 : Int) ++ 0 :: (dpS o li di mb ml k i).map (·.1)).getD (a + 1) 0 := by
        rw [← dget 0 (Nat.zero_le _)]
      refine Xs.setSub H₅ (P := IsI (or16 li (o.getD a 0).toNat + ((dpS o li di mb ml k i).getD 0 (0, none)).1)) (lit ▸ EvI.add (EvV.own (K := KK w) (C := 219) (f := 209) (by walk_at "ev") G'.X (Inst.ofG ex ed) (by kernel_rfl) (by kernel_rfl) (by kernel_rfl) (by with_unfolding_all rfl) ⟨_, _, G'.X 209 _ (by rfl), rfl⟩
          (.cons (P := IsI (o.getD a 0).toNat) (EvI.octet (n := a) (by walk_at "ev") (by walk_at "ev") rfl (by omega) (by omega) rfl) .nil rfl) rfl rfl ?_) (EvI.intAt (a + 1) (by walk_at "ev") (i := (a : Int) + 1) (by walk_at "ev") (fun _ H => isList_ofS (H.at 1 rfl)) hvs rfl (by simp; omega) (by simp; omega) rfl)) (ov := .ref co) (by walk_at "ev") (R := IsI a) (by walk_at "ev") rfl ?_
      · rintro Q E h t vs H ⟨_, _, rfl, ⟨v₁, rfl⟩, rfl⟩ q
        exact literal_ _ (G'.keeps H.base) hA (P''.keeps H.base) rfl (by have := (o.getD a 0).toNat_lt; have := P''.ll; omega) fun h' t' u k => q _ h' t' k (isI _ _)
      rintro _ _ h₆ t₆ H₆ ⟨u₆, rfl⟩ ⟨u₇, rfl⟩
      refine setItem_ 1 H₆ rfl (n := a) rfl (by omega) (by omega) fun h₇ H₇ => ?_
      dsimp only [List.set] at H₇
      have hv0 := IntsAre.set hvs a (or16 li (o.getD a 0).toNat + ((dpS o li di mb ml k i).getD 0 (0, none)).1) u₆
      rw [set_rep] at hv0
      clear H₄ H₅ H₆
      have lys : ys.length ≤ 800 := by have := hWA.1; rw [List.length_map, List.length_range] at this; omega
      obtain ⟨st, hst⟩ : ∃ st : Nat → Int × Option Part, st = fun j => ((waysS o a mb ml k).take j).foldl (dpStep li di (dpS o li di mb ml k i)) (or16 li (o.getD a 0).toNat + ((dpS o li di mb ml k i).getD 0 (0, none)).1, none) := ⟨_, rfl⟩
      have st0 : st 0 = (or16 li (o.getD a 0).toNat + ((dpS o li di mb ml k i).getD 0 (0, none)).1, none) := by rw [hst]; rfl
      have stn : dpS o li di mb ml k (i + 1) = st (waysS o a mb ml k).length :: dpS o li di mb ml k i := by
        rw [hst]; dsimp only; rw [List.take_length, ha]; rfl
      have sts : ∀ j p, (waysS o a mb ml k)[j]? = some p → st (j + 1) = dpStep li di (dpS o li di mb ml k i) (st j) p := by
        intro j p e
        rw [hst]; dsimp only; rw [List.take_add_one, e, List.foldl_append]; rfl
      rw [show or16 li (o.getD a 0).toNat + ((dpS o li di mb ml k i).getD 0 (0, none)).1 = (st 0).1 by rw [st0]] at hv0 H₇
      rw [show (none : Option Part) :: ((dpS o li di mb ml k i).map (·.2)).take i = (st 0).2 :: ((dpS o li di mb ml k i).map (·.2)).take i by rw [st0]] at hcs
      clear hst hvs st0 lit
      refine Xs.for (g := g') (n := (waysS o a mb ml k).length) (P := fun j v => ∃ p, (waysS o a mb ml k)[j]? = some p ∧ PAt g' v p) (CIJ env.locals ch co wa yo x o u a (dpS o li di mb ml k i) i st) ?hi ?ti ?fi (fun _ => rfl)
      case hi =>
        refine EvV.w (P := fun v => v = .ref rw_) (EvX.gitem (n := a) (by walk_at "ev") (by walk_at "ev") hwl' rfl eyw (by omega) rfl) H₇ ?_
        rintro _ h₈ t₈ rfl H₈
        have al : ∃ o, g'.get? rw_ = some o := let ⟨o, e, _⟩ := hrw; ⟨o, e⟩
        refine iter_list hA.quiet H₈ (stays_list H₈.base hrw) (fun hm => ?_) fun it h₉ t₉ H₉ ok => ⟨_, ⟨_, _, ts, hv0, hcs, rfl⟩, H₉.weaken 0 rfl (OLoc.sub (by walk_at "ls")), ok.mono hpw.1 fun j v e => ?_⟩
        · obtain ⟨o, e⟩ := al
          have := H₈.offm hm
          rw [e] at this; cases this
        · have hi' : j < (waysS o a mb ml k).length := by rw [← hpw.1]; exact (List.getElem?_eq_some_iff.mp e).1
          obtain ⟨v', e', pa⟩ := hpw.2 j _ (List.getElem?_eq_getElem hi')
          rw [e] at e'; cases e'
          exact ⟨_, List.getElem?_eq_getElem hi', pa⟩
      case ti =>
        rintro j g'' ms v h₈ t₈ hj kg' ⟨vs₁, cs₁, ts₁, hv₁, hc₁, rfl⟩ ⟨p, hp, pa⟩ H₈
        generalize hQ₂ : FPost _ _ _ _ _ _ _ _ _ = Q₂
        obtain ⟨ℓ, d, rfl, w3, w7, wn, d1, dm, da⟩ := waysS_ok (List.mem_of_getElem? hp)
        obtain ⟨rr, w₁, w₂, rfl, ht⟩ := pa
        have snoc : st (j + 1) = if mPrice li di ℓ d + ((dpS o li di mb ml k i).getD (ℓ - 1) (0, none)).1 < (st j).1 then (mPrice li di ℓ d + ((dpS o li di mb ml k i).getD (ℓ - 1) (0, none)).1, some (.mat ℓ d)) else st j := sts j _ hp
        have G'' := G'.keeps kg'
        have P3 := P''.keeps kg'
        have ex' := kg' _ _ ex
        have ed' : ∃ o, g''.get? dx = some o ∧ OAttr [("literals", .ref la), ("distances", .ref ld)] o := let ⟨o, a, b⟩ := ed; ⟨o, kg' _ _ a, b⟩
        have lv₁ : vs₁.length = a + 1 + (i + 1) := by rw [hv₁.length]; simp; omega
        have lc₁ : cs₁.length = a + 1 + i := by rw [hc₁.length]; simp; omega
        have eget : (List.replicate a (0 : Int) ++ (st j).1 :: (dpS o li di mb ml k i).map (·.1)).getD (a + 1 + (ℓ - 1)) 0 = ((dpS o li di mb ml k i).getD (ℓ - 1) (0, none)).1 := by
          rw [List.getD_eq_getElem?_getD, get_rep', List.getElem?_map, List.getD_eq_getElem?_getD, List.getElem?_eq_getElem (by omega)]
          rfl
        have eget2 : (List.replicate a (0 : Int) ++ (st j).1 :: (dpS o li di mb ml k i).map (·.1)).getD a 0 = (st j).1 := getD_of_get (get_rep ..)
        have ll : (List.replicate a (0 : Int) ++ (st j).1 :: (dpS o li di mb ml k i).map (·.1)).length = a + 1 + (i + 1) := by rw [← hv₁.length]; exact lv₁
        rw [← eget] at snoc
        generalize hpr : mPrice li di ℓ d + (List.replicate a (0 : Int) ++ (st j).1 :: (dpS o li di mb ml k i).map (·.1)).getD (a + 1 + (ℓ - 1)) 0 = pr at snoc
        refine assign_pair hA H₈ (IsTup.keeps ht (stays_trans kg' H₈.base)) N (by kernel_rfl) (by kernel_rfl) fun h₉ t₉ H₉ => ?_
        refine Xs.assign H₉ (P := IsI pr) (hpr ▸ EvI.add (EvV.own (K := KK w) (C := 219) (f := 216) (P := IsI (mPrice li di ℓ d)) (by walk_at "ev") G''.X (Inst.ofG ex' ed') (by kernel_rfl) (by kernel_rfl) (by kernel_rfl) (by with_unfolding_all rfl) ⟨_, _, G''.X 216 _ (by rfl), rfl⟩
          (.cons (P := IsI ℓ) (by walk_at "ev") (.cons (P := IsI d) (by walk_at "ev") .nil rfl) rfl) rfl rfl ?_)
          (EvI.intAt (a + 1 + (ℓ - 1)) (by walk_at "ev") (i := (a : Int) + ℓ) (by walk_at "ev") (fun _ H => isList_ofS (H.at 1 rfl)) hv₁ (by omega) (by omega) (by omega) rfl)) N (by kernel_rfl) rfl ?_
        · rintro Q E h t
          refine argsB_ii fun v₁ v₂ H q => ?_
          exact match_ ℓ d (G''.keeps H.base) hA (P3.keeps H.base) rfl rfl w3 (by omega) d1 (by omega) fun h' t' u k => q _ h' t' k (isI _ _)
        rintro _ h₁₀ t₁₀ ⟨up, rfl⟩ HA
        refine Xs.iteJ (CIM g'' env.locals ch co wa yo x o u a (dpS o li di mb ml k i) i st (j + 1)) HA (b := decide (pr < (st j).1))
          (.ints (by walk_at "ev") (eget2 ▸ EvI.intAt a (by walk_at "ev") (i := (a : Int)) (by walk_at "ev") (fun _ H => isList_ofS (H.at 1 rfl)) hv₁ rfl (by omega) (by omega) rfl) rfl rfl) ?_ ?_ ?_
        · intro hb h₁₁ t₁₁ HB
          rw [decide_eq_true_eq] at hb
          rw [if_pos hb] at snoc
          refine Xs.setSub HB (P := fun v => v = .int pr up) (by walk_at "ev") (ov := .ref co) (by walk_at "ev") (R := IsI a) (by walk_at "ev") rfl ?_
          rintro _ _ h₁₂ t₁₂ HC rfl ⟨u₁₂, rfl⟩
          refine setItem_ 1 HC rfl (n := a) rfl (by omega) (by omega) fun h₁₃ HD => ?_
          dsimp only [List.set] at HD
          have hv2 := IntsAre.set hv₁ a pr up
          rw [set_rep] at hv2
          refine Xs.setSubE (ov := .ref ch) (pair_ HD (P := IsI ℓ) (R := IsI d) (by walk_at "ev") (by walk_at "ev") rfl rfl fun v₁ v₂ rt h₁₄ t₁₄ p₁ p₂ HE => ?_) rfl
          obtain ⟨z₁, rfl⟩ := p₁
          obtain ⟨z₂, rfl⟩ := p₂
          replace HE := HE.mv 3
          dsimp only [ins] at HE
          refine ⟨g'', _, IsI a, HE, by walk_at "ev", by walk_at "ev", ?_⟩
          rintro _ h₁₅ t₁₅ HF ⟨u₁₅, rfl⟩
          refine setItem_ 2 HF rfl (n := a) rfl (by omega) (by omega) fun h₁₆ HG => ?_
          dsimp only [List.set, ins] at HG
          have hc2 := (hc₁.mono (ts' := (rt, OTup [.int ℓ z₁, .int d z₂]) :: ts₁) fun e he => List.mem_cons_of_mem _ he).set (v := .ref rt) (p := some (.mat ℓ d)) ⟨rt, z₁, z₂, rfl, List.mem_cons_self ..⟩ a
          rw [set_rep] at hc2
          refine Mid.nil ⟨_, _, _, ?_, ?_, HG.weaken 0 rfl (OLoc.sub (by walk_at "ls"))⟩
          · rw [snoc]; exact hv2
          · rw [snoc]; exact hc2
        · intro hb h₁₁ t₁₁ HB
          rw [decide_eq_false_iff_not] at hb
          rw [if_neg hb] at snoc
          refine Mid.nil ⟨_, _, _, ?_, ?_, HB.weaken 0 rfl (OLoc.sub (by walk_at "ls"))⟩
          · rw [snoc]; exact hv₁
          · rw [snoc]; exact hc₁
        · rintro h₁₁ t₁₁ ⟨vs₂, cs₂, ts₂, a1, a2, a3⟩
          subst hQ₂
          exact Xs.nil ⟨_, ⟨_, _, _, a1, a2, rfl⟩, a3⟩
      case fi =>
        rintro ms h₈ t₈ ⟨vs₁, cs₁, ts₁, hv₁, hc₁, rfl⟩ H₈
        subst hQ₁
        refine Xs.nil ⟨_, ⟨by omega, vs₁, cs₁, ts₁, ?_, ?_, rfl⟩, H₈.weaken 0 rfl (OLoc.sub (by walk_at "ls"))⟩
        · rw [stn, ← ha]; exact hv₁
        · rw [stn, ← ha]; exact hc₁
    case fin2 =>
      rintro ms h₄ t₄ ⟨-, vs, cs, ts, hvs, hcs, rfl⟩ H₄
      rw [Nat.sub_self, List.replicate_zero, List.nil_append] at hcs
      have hdl := dpS_len o li di mb ml k o.length
      have hch : ∀ a, a < o.length → ∃ v, cs[a]? = some v ∧ ChIn ts v (chosS o li di mb ml k a) := by
        intro a ha
        refine hcs.get a _ ?_
        rw [List.getElem?_take, if_pos ha, List.getElem?_map]
        unfold chosS
        rw [List.getD_eq_getElem?_getD, List.getElem?_eq_getElem (by omega)]
        rfl
      have hcl : cs.length = o.length := by rw [hcs.length]; simp; omega
      refine Xs.assignNil H₄ N (by kernel_rfl) fun pr h₅ t₅ H₅ => ?_
      refine Xs.assign H₅ (P := IsI 0) (by walk_at "ev") N (by kernel_rfl) rfl ?_
      rintro v h₆ t₆ ⟨u₆, rfl⟩ H₆
      clear H₄ H₅ hcs hvs
      refine Xs.while (CWJ g env.locals pr co ch yo o li di mb ml k vs cs ts) o.length
        ⟨rfl, o.length, 0, [], [], u₆, rfl, Nat.zero_le _, by omega, Nat.zero_le _, rfl, .nil, rfl⟩ (H₆.weaken 0 rfl (OLoc.sub (by walk_at "ls"))) ?_
      clear H₆
      rintro mm g₂ ms ⟨rfl, f, a, vs₁, ps, u, rfl, ha, hf, hpa, hps, hP, rfl⟩
      have hlen := hP.length
      refine ⟨decide ((a : Int) < o.length), .ints (by walk_at "ev") (EvI.lenY (by walk_at "ev") (by walk_at "ev") (by omega) rfl) rfl rfl, ?_, ?_⟩
      · intro hb h₁ t₁ H₁
        rw [decide_eq_true_eq] at hb
        obtain ⟨f, rfl⟩ : ∃ f', f = f' + 1 := ⟨f - 1, by omega⟩
        rw [cutS_succ, if_pos (by omega)] at hps
        obtain ⟨cv, ecv, hci⟩ := hch a (by omega)
        have hok := fun p => chosS_ok (o := o) (li := li) (di := di) (mb := mb) (ml := ml) (k := k) (a := a) (p := p)
        cases hc : chosS o li di mb ml k a with
        | none =>
          rw [hc] at hci hps
          dsimp only at hps
          have hci : cv = .none := hci
          subst hci
          refine Xs.ite H₁ (b := true) (Tst.isNone (EvX.listAt (i := (a : Int)) (n := a) (by walk_at "ev") (by walk_at "ev") (fun _ H => isList_ofS (H.at 3 rfl)) rfl ecv (by omega) rfl) rfl) ?_ (fun e => nomatch e)
          intro _ h₅ t₅ H₅
          refine Xs.append 1 H₅ (by walk_at "ev") rfl (by omega) (P := IsI ((o.getD a 0).toNat)) (EvI.octet (n := a) (by walk_at "ev") (by walk_at "ev") rfl (by omega) (by omega) rfl) N ?_ rfl rfl
          rintro _ h₆ t₆ ⟨u₆, rfl⟩ H₆
          dsimp only [List.set] at H₆
          refine Xs.augAdd H₆ (by with_unfolding_all rfl) (by walk_at "ev") N (by kernel_rfl) ?_
          intro h₇ t₇ u₇ H₇
          refine Xs.nilT (Xs.nil ⟨o.length - (a + 1), g₂, _, by omega, ⟨rfl, f, a + 1, (vs₁ ++ [Value.int (o.getD a 0).toNat u₆] : List Value), ps ++ [.lit (o.getD a 0).toNat], u₇, rfl, by omega, by omega, ?_, ?_, ?_, rfl⟩, H₇.weaken 0 rfl (OLoc.sub (by walk_at "ls"))⟩)
          · simp; omega
          · rw [List.append_assoc]; exact hps
          · exact hP.snoc ⟨u₆, rfl⟩
        | some p =>
          obtain ⟨ℓ, d, rfl, w3, w7, wn, -⟩ := chosS_ok hc
          rw [hc] at hci hps
          dsimp only at hps
          obtain ⟨r, w₁, w₂, rfl, hm⟩ := hci
          refine Xs.ite H₁ (b := false) (Tst.isNone (EvX.listAt (i := (a : Int)) (n := a) (by walk_at "ev") (by walk_at "ev") (fun _ H => isList_ofS (H.at 3 rfl)) rfl ecv (by omega) rfl) rfl) (fun e => nomatch e) ?_
          intro _ h₅ t₅ H₅
          refine Xs.append 1 H₅ (by walk_at "ev") rfl (by omega) (P := fun v => v = .ref r) (EvX.listAt (i := (a : Int)) (n := a) (by walk_at "ev") (by walk_at "ev") (fun _ H => isList_ofS (H.at 3 rfl)) rfl ecv (by omega) rfl) N ?_ rfl rfl
          rintro _ h₆ t₆ rfl H₆
          dsimp only [List.set] at H₆
          refine Xs.augAdd H₆ (b := ℓ) (by with_unfolding_all rfl) (EvX.int (EvX.tupAt (vs := [.int ℓ w₁, .int d w₂]) (i := 0) (n := 0) (EvX.listAt (i := (a : Int)) (n := a) (by walk_at "ev") (by walk_at "ev") (fun _ H => isList_ofS (H.at 3 rfl)) rfl ecv (by omega) rfl) (by walk_at "ev") (fun _ H => isTup_of (H.mem (by simp [hm]))) rfl rfl (Nat.le_of_ble_eq_true rfl) rfl)) N (by kernel_rfl) ?_
          intro h₇ t₇ u₇ H₇
          refine Xs.nilT (Xs.nil ⟨o.length - (a + ℓ), g₂, _, by omega, ⟨rfl, f, a + ℓ, (vs₁ ++ [Value.ref r] : List Value), ps ++ [.mat ℓ d], u₇, rfl, by omega, by omega, ?_, ?_, ?_, rfl⟩, H₇.weaken 0 rfl (OLoc.sub (by walk_at "ls"))⟩)
          · simp; omega
          · rw [List.append_assoc]; exact hps
          · exact hP.snoc ⟨r, w₁, w₂, rfl, hm⟩
      · intro hb h₁ t₁ H₁
        rw [decide_eq_false_iff_not] at hb
        rw [cutS_end _ _ _ _ (by omega), List.append_nil] at hps
        refine Xs.ret H₁ (P := fun v => v = .ref pr) (by walk_at "ev") ?_
        rintro _ h₂ t₂ rfl H₂
        exact q'' pr h₂ t₂ vs₁ ts ((H₂.cut 3).cut 2).tail (hps ▸ hP)
end
end
section
@[irreducible] noncomputable def V (c : Cx) (A : Around) {α : Type} (m : Sem α) (Q : α → Heap → Nat → Prop) (E : Value → Heap → Nat → Prop) (h : Heap) (t : Nat) : Prop :=
  wpQ c.M A m (fun a s => ∃ h' t', s = c.S h' t' ∧ Q a h' t') (c.E E) (c.S h t)
section
variable {c : Cx} {A : Around} {α β : Type} {Q : α → Heap → Nat → Prop} {E : Value → Heap → Nat → Prop} {h : Heap} {t : Nat}
theorem V.of {m : Sem α} (x : wpQ c.M A m (fun a s => ∃ h' t', s = c.S h' t' ∧ Q a h' t') (c.E E) (c.S h t)) : V c A m Q E h t := by unfold V; exact x
theorem V.to {m : Sem α} (x : V c A m Q E h t) : wpQ c.M A m (fun a s => ∃ h' t', s = c.S h' t' ∧ Q a h' t') (c.E E) (c.S h t) := by unfold V at x; exact x
theorem V.w {m : Sem α} (x : W c A m Q E h t) : V c A m Q E h t := .of (q_of x.to)
theorem qps {m : Sem α} {K : α → Shared → Prop} (x : V c A m (fun a h' t' => K a (c.S h' t')) E h t) : wpQ c.M A m K (c.E E) (c.S h t) :=
  q_mono x.to (fun a s ⟨h', t', e, k⟩ => e ▸ k) fun _ _ x => x
theorem qpsN {m : Sem α} {K : α → Shared → Prop} {E' : Value → Shared → Prop} (x : V c A m (fun a h' t' => K a (c.S h' t')) NoE h t) : wpQ c.M A m K E' (c.S h t) :=
  q_mono x.to (fun a s ⟨h', t', e, k⟩ => e ▸ k) noE
theorem V.mono {m : Sem α} {Q' : α → Heap → Nat → Prop} {E' : Value → Heap → Nat → Prop} (x : V c A m Q E h t) (k : ∀ a h' t', Q a h' t' → Q' a h' t') (e : ∀ a h' t', E a h' t' → E' a h' t') : V c A m Q' E' h t :=
  .of (q_mono x.to (fun a s ⟨h', t', e, q⟩ => ⟨h', t', e, k a h' t' q⟩) fun a s ⟨h', t', e', q⟩ => ⟨h', t', e', e a h' t' q⟩)
theorem V.post {m : Sem α} {Q' : α → Heap → Nat → Prop} (x : V c A m Q E h t) (k : ∀ a h' t', Q a h' t' → Q' a h' t') : V c A m Q' E h t := x.mono k fun _ _ _ e => e
theorem V.pure {a : α} (x : Q a h t) : V c A (pure a) Q E h t := .w (.pure x)
theorem V.bind {m : Sem β} {f : β → Sem α} (x : V c A m (fun a h' t' => V c A (f a) Q E h' t') E h t) : V c A (m >>= f) Q E h t :=
  .of (q_bind (qps (x.mono (fun a h' t' q => q.to) fun _ _ _ e => e)))
theorem V.bindW {m : Sem β} {f : β → Sem α} (x : W c A m (fun a h' t' => V c A (f a) Q E h' t') E h t) : V c A (m >>= f) Q E h t := .bind (.w x)
theorem V.at {pos : Pos} {k : Unit → Sem α} (x : V c A (k ()) Q E h t) : V c A (standAt pos >>= k) Q E h t := .of (q_standAt x.to)
theorem V.hold {vs : List Value} {m : Sem α} (x : V c A m Q E h t) : V c A (holding vs m) Q E h t := .of (q_holding x.to)
end
noncomputable abbrev Vs (c : Cx) (A : Around) (env : Env) (stmts : List Stmt) (Q : Flow → Heap → Nat → Prop) (E : Value → Heap → Nat → Prop) (h : Heap) (t : Nat) : Prop := V c A (execs stmts env) Q E h t
noncomputable def VThen (c : Cx) (A : Around) (env : Env) (rest : List Stmt) (Q : Flow → Heap → Nat → Prop) (E : Value → Heap → Nat → Prop) : Flow → Heap → Nat → Prop := fun f h t => match f with
  | .next => Vs c A env rest Q E h t
  | f => Q f h t
section
variable {c : Cx} {A : Around} {env : Env} {g : Heap} {ms : List Entry} {ns : List (Str × NameKind)} {Q : Flow → Heap → Nat → Prop} {E : Value → Heap → Nat → Prop} {h : Heap} {t : Nat} {rest : List Stmt} {l : List (Str × Value)} {pos p : Pos} {x : Str}
theorem Vs.nil (k : Q .next h t) : Vs c A env [] Q E h t := .w (Xs.nil k)
theorem Vs.nilT (k : Vs c A env rest Q E h t) : Vs c A env [] (VThen c A env rest Q E) E h t := Vs.nil k
theorem Vs.cons {st : Stmt} (k : V c A (exec st env) (VThen c A env rest Q E) E h t) : Vs c A env (st :: rest) Q E h t := by
  unfold Vs
  rw [execs_cons]
  refine .bind (k.post fun f h' t' q => ?_)
  cases f <;> first | exact q | exact .pure q
theorem W.one {st : Stmt} {Q : Flow → Heap → Nat → Prop} (k : Xs c A env [st] Q E h t) : W c A (exec st env) Q E h t := by
  refine .of fun Γ p hΓ => ?_
  have := k.to Γ p hΓ
  rw [execs_cons, Sem.wp_bind'] at this
  refine Sem.wp_mono _ Γ _ (fun f p' s' h' => ?_) (fun _ _ _ h' => h') p _ this
  cases f <;> exact h'
theorem Vs.step {st : Stmt} (k : Xs c A env [st] (VThen c A env rest Q E) E h t) : Vs c A env (st :: rest) Q E h t := Vs.cons (.w (W.one k))
theorem Xs.vs (k : Vs c A env rest Q E h t) : Xs c A env [] (VThen c A env rest Q E) E h t := Xs.nil k
theorem Vs.ite {test : Expr} {body orelse : List Stmt} {b : Bool} (H : Led g ms h) (ht : Tst c A env g ms test b)
    (h1 : b = true → ∀ h' t', Led g ms h' → Vs c A env body (VThen c A env rest Q E) E h' t')
    (h2 : b = false → ∀ h' t', Led g ms h' → Vs c A env orelse (VThen c A env rest Q E) E h' t') : Vs c A env (.If test body orelse pos :: rest) Q E h t := by
  refine Vs.cons ?_
  rw [exec_If]
  refine .at (.bindW (ht _ E h t H fun h' t' H' => ?_))
  cases b with
  | true => rw [if_pos rfl]; exact h1 rfl h' t' H'
  | false => rw [if_neg (by decide)]; exact h2 rfl h' t' H'
theorem Vs.iteV {test : Expr} {body orelse : List Stmt} (ht : V c A (isTrue test env (eval test env)) (fun b h' t' => if b = true then Vs c A env body (VThen c A env rest Q E) E h' t' else Vs c A env orelse (VThen c A env rest Q E) E h' t') E h t) : Vs c A env (.If test body orelse pos :: rest) Q E h t := by
  refine Vs.cons ?_
  rw [exec_If]
  refine .at (.bind (ht.post fun b h' t' q => ?_))
  cases b with
  | true => rw [if_pos rfl] at q ⊢; exact q
  | false => rw [if_neg (by decide)] at q ⊢; exact q
theorem Vs.retV {e : Expr} (he : V c A (eval e env) (fun v h' t' => Q (.ret v) h' t') E h t) : Vs c A env (.Return (some e) pos :: rest) Q E h t := by
  refine Vs.cons ?_
  rw [exec_Return_some]
  exact .at (.bind (he.post fun v h' t' q => .pure q))
theorem Vs.assignV {e : Expr} (he : V c A (eval e env) (fun v h' t' => W c A (storeName env x v) (fun _ h'' t'' => Vs c A env rest Q E h'' t'') E h' t') E h t) (hc : notComp e = true) :
    Vs c A env (.Assign [.Name x p] e pos :: rest) Q E h t := by
  refine Vs.cons ?_
  rw [exec_Assign_Name _ _ _ _ _ (swaps_of hc ..)]
  exact .at (.bind (he.post fun v h' t' q => .at (.bindW (.of (wpAny_bindName (cps (q.mono (fun _ h'' t'' q => ⟨h'', t'', rfl, .pure q⟩) fun _ _ _ e => e)))))))
theorem Vs.exprV {e : Expr} (he : V c A (eval e env) (fun v h' t' => (∀ a, v ≠ .ref a) ∧ Vs c A env rest Q E h' t') E h t) (N : EnvN env ns) (hc : notComp e = true) : Vs c A env (.Expr e pos :: rest) Q E h t := by
  refine Vs.cons ?_
  rw [exec_Expr _ _ _ (by unfold interactive; rw [N.kind]; rfl) (swaps_of hc ..)]
  refine .at (.bind (he.post fun v h' t' q => ?_))
  rw [dropValue_plain q.1]
  exact .pure q.2
theorem codeQ_for {R : Result → Shared → Prop} {target : Expr} {it : Value} {body orelse : List Stmt} (I : Nat → Shared → Prop)
    (turn : ∀ n s, I n s → wpAny c.M A (pyNext it) (fun r s₁ => match r with
      | none => wpAny c.M A (execs orelse env) (fun f s₃ => R (.ok f) s₃) (notedBy c.M A env fun e s' => R (.error e) s') s₁
      | some v => wpAny c.M A (letOwnedTupleGo target it v) (fun _ s₁' =>
          wpAny c.M A (PySem.assign target env v) (fun _ s₂ => wpQ c.M A (execs body env) (fun f s₃ => match f with
            | .next | .cont => ∃ m, m < n ∧ I m s₃
            | .brk => R (.ok .next) s₃
            | .ret v => R (.ok (.ret v)) s₃) (notedBy c.M A env fun e s' => R (.error e) s') s₂) (notedBy c.M A env fun e s' => R (.error e) s') s₁') (notedBy c.M A env fun e s' => R (.error e) s') s₁) (notedBy c.M A env fun e s' => R (.error e) s') s)
    (n : Nat) {s : Shared} (h : I n s) : codeQ c.M A (.forLoop target it body orelse env) R s := by
  refine codeQ_loop rfl rfl I (fun n s hI => ?_) n h
  show wpQ _ A ((forTurn target it body orelse env).onRaise (fun x => do noteFrame x env; theTreesLotGoes x)) _ _ s
  refine q_noted ?_
  simp only [forTurn]
  refine q_standAt (q_bindA (wpAny_onRaise (wpAny_mono (turn n s hI) (fun r s₁ h₁ => ?_) fun _ _ h' => wpAny_standAt h')))
  cases r with
  | none => exact q_pure (.inr ⟨rfl, rfl, codeQ_of (codeAny_block h₁)⟩)
  | some v =>
    refine q_bindA (wpAny_mono h₁ (fun _ s₁' h₁' => ?_) fun _ _ h' => h')
    refine q_bindA (wpAny_mono h₁' (fun _ s₂ h₂ => q_bind (q_mono h₂ (fun f s₃ h₃ => ?_) fun _ _ h' => h')) fun _ _ h' => h')
    cases f with
    | next => exact q_pure (.inl ⟨rfl, h₃⟩)
    | cont => exact q_pure (.inl ⟨rfl, h₃⟩)
    | brk => exact q_pure h₃
    | ret v => exact q_pure h₃
noncomputable def QPost (c : Cx) (A : Around) (env : Env) (rest : List Stmt) (Q : Flow → Heap → Nat → Prop) (E : Value → Heap → Nat → Prop) (J : Nat → List Entry → Prop) (i : Nat) (g' : Heap) : Flow → Heap → Nat → Prop := fun f h t => match f with
  | .next | .cont => ∃ ms', J (i + 1) ms' ∧ Led g' ms' h
  | .brk => Vs c A env rest Q E h t
  | .ret v => Q (.ret v) h t
theorem Vs.forE {target iter : Expr} {body : List Stmt} {n : Nat} {P : Nat → Value → Prop} (J : Nat → List Entry → Prop) (Eb : Value → Heap → Nat → Prop)
    (he : W c A (eval iter env) (fun x h₁ t₁ => W c A (pyIter x) (fun it h₂ t₂ => ∃ ms, J 0 ms ∧ Led g ms h₂ ∧ IterOk c A target g ms n P it h₂) E h₁ t₁) E h t)
    (turn : ∀ i g' ms v h t, i < n → g.StaysIn g' → J i ms → P i v → Led g' ms h → W c A (PySem.assign target env v) (fun _ h' t' => Vs c A env body (QPost c A env rest Q E J i g') Eb h' t') Eb h t)
    (fin : ∀ ms h t, J n ms → Led g ms h → Vs c A env rest Q E h t)
    (hE : ∀ e s', c.E Eb e s' → notedBy c.M A env (cameBackBy c.M A env (c.E E)) e s')
    (hs : ∀ x, foldedSetIterable iter env x = pure x) : Vs c A env (.For target iter body [] pos :: rest) Q E h t := by
  refine Vs.cons (.of ?_)
  rw [exec_For]
  refine q_standAt (q_bindA (cps (he.mono (fun x h₁ t₁ q => ?_) fun _ _ _ e => e)))
  rw [hs]
  refine q_bind (q_pure (q_standAt (q_bindA (wpAny_holding (cps (q.mono (fun it h₂ t₂ q => ?_) fun _ _ _ e => e))))))
  obtain ⟨ms, j, H, I, fp, St, rfl, T, st, hfp, hI⟩ := q
  refine q_runOwn (codeQ_for (R := fun r s' => match r with
    | .ok f => ∃ h' t', s' = c.S h' t' ∧ VThen c A env rest Q E f h' t'
    | .error e => cameBackBy c.M A env (c.E E) e s') (fun k s => ∃ i ms h t, s = c.S h t ∧ k = n - i ∧ i ≤ n ∧ J i ms ∧ Led g ms h ∧ St i h ∧ ∀ b ∈ fp, b ∉ ms.map (·.1)) ?_ n ⟨0, ms, h₂, t₂, rfl, rfl, Nat.zero_le _, j, H, st, hfp⟩) rfl
  rintro k _ ⟨i, ms, h, t, rfl, rfl, hi, j, H, st, hfp⟩
  rcases Nat.lt_or_ge i n with hlt | hge
  · refine T.walks.item i (c.S h t) _ _ hlt st fun v h₃ t₃ pv st₃ k₃ => ?_
    have H₃ : Led g ms h₃ := H.turn hI (hfp I (T.walks.sub I (by simp))) fun b o hb e => k₃ b o (by simpa using hb) e
    refine T.go (i + 1) (c.S h₃ t₃) v _ _ st₃ ?_
    obtain ⟨g', hg, H', keep⟩ := H₃.freeze ms (fun _ x => x) H₃.nd
    have hfpg : ∀ b ∈ fp, ∀ o, h₃.get? b = some o → g'.get? b = some o := fun b hb o e => keep b o e (hfp b hb)
    refine wpAny_mono (cps ((turn i g' ms v h₃ t₃ hlt hg j pv H').mono (fun _ h₄ t₄ q => q_mono (qps (q.mono (fun f h₅ t₅ q => ?_) fun _ _ _ e => e)) (fun _ _ x => x) hE) fun _ _ _ e => e)) (fun _ _ x => x) hE
    have nx : (∃ ms', J (i + 1) ms' ∧ Led g' ms' h₅) → ∃ m, m < n - i ∧ ∃ i ms h t, c.S h₅ t₅ = c.S h t ∧ m = n - i ∧ i ≤ n ∧ J i ms ∧ Led g ms h ∧ St i h ∧ ∀ b ∈ fp, b ∉ ms.map (·.1) := by
      rintro ⟨ms', j', H₅⟩
      refine ⟨n - (i + 1), by omega, i + 1, ms', h₅, t₅, rfl, rfl, hlt, j', H₅.stays hg, T.walks.frame _ _ _ st₃ fun b hb o e => H₅.base b o (hfpg b hb o e), fun b hb hm => ?_⟩
      obtain ⟨o, e⟩ := T.alive _ _ st₃ b hb
      have := H₅.offm hm
      rw [hfpg b hb o e] at this; cases this
    cases f with
    | next => exact nx q
    | cont => exact nx q
    | brk => exact ⟨h₅, t₅, rfl, q⟩
    | ret v => exact ⟨h₅, t₅, rfl, q⟩
  · have : i = n := by omega
    subst this
    refine T.walks.done (c.S h t) _ _ st fun h₃ t₃ k₃ => ?_
    have H₃ : Led g ms h₃ := H.turn hI (hfp I (T.walks.sub I (by simp))) fun b o hb e => k₃ b o (by simpa using hb) e
    exact wpAny_execs_nil ⟨h₃, t₃, rfl, fin ms h₃ t₃ j H₃⟩
theorem Vs.for {target iter : Expr} {body : List Stmt} {n : Nat} {P : Nat → Value → Prop} (J : Nat → List Entry → Prop)
    (he : W c A (eval iter env) (fun x h₁ t₁ => W c A (pyIter x) (fun it h₂ t₂ => ∃ ms, J 0 ms ∧ Led g ms h₂ ∧ IterOk c A target g ms n P it h₂) E h₁ t₁) E h t)
    (turn : ∀ i g' ms v h t, i < n → g.StaysIn g' → J i ms → P i v → Led g' ms h → W c A (PySem.assign target env v) (fun _ h' t' => Vs c A env body (QPost c A env rest Q E J i g') NoE h' t') NoE h t)
    (fin : ∀ ms h t, J n ms → Led g ms h → Vs c A env rest Q E h t)
    (hs : ∀ x, foldedSetIterable iter env x = pure x) : Vs c A env (.For target iter body [] pos :: rest) Q E h t :=
  Vs.forE J NoE he turn fin (fun _ _ ⟨_, _, _, f⟩ => f.elim) hs
theorem codeQ_func {body : List Stmt} {R : Result → Shared → Prop} {s : Shared}
    (h : wpQ c.M (A.deeper env) (execs body env) (fun f s' => R (.ok (.ret (match f with | .ret v => v | _ => .none))) s')
      (fun e s' => wpAny c.M (A.deeper env) (leaving env e) (fun _ s'' => R (.error e) s'') (fun e' s'' => R (.error e') s'') s') s) : codeQ c.M A (.func body env) R s := by
  refine codeQ_of_tree ?_
  show wpQ _ (A.deeper env) (do point; match ← (execs body env).onRaise (leaving env) with | .ret v => ret v | _ => ret .none) _ _ s
  refine q_bindA (wpAny_point (q_bind ?_))
  refine (?_ : wpQ _ _ ((execs body env).onRaise (leaving env)) _ _ s)
  intro Γ p hΓ hc
  rw [Sem.wp_onRaise]
  refine Sem.wp_mono _ Γ _ (fun f p' s' h' => ?_) (fun e p' s' h' => h' Γ p' hΓ) p s (h Γ p hΓ hc)
  cases f <;> exact q_pure h'
end
end
section
set_option maxRecDepth 1000000
theorem ba_mro : mroOf (.type "bytearray") = pure [.type "bytearray", .type "object"] := by rw [mroOf_type]; kernel_rfl
theorem ba_lookup_new : typeLookup (.type "bytearray") "__new__" = pure (some (.builtin "bytearray.__new__")) := by rw [typeLookup_type, builtinLookup_eq_fast]; kernel_rfl
theorem ba_made : Bind.madeBy (.type "bytearray") = pure (some "bytearray.__new__") := madeBy_type ba_mro ba_lookup_new (by decide +kernel)
theorem ba_sub : isSubtype (.type "bytearray") (.type "bytearray") = pure true := by rw [isSubtype_type]; kernel_rfl
theorem ba_slot {name : Str} {id n : String} (hl : typeLookup (.type "bytearray") name = pure (some (.builtin id))) (hs : splitId id = some ("bytearray", n)) (h1 : withoutEnding? id "#opaque" = none) (h2 : withoutEnding? id "#data" = none)
    (h3 : (Manifest.find? "bytearray").bind (·.attrs.lookup n) = some .slot ∨ (Manifest.find? "bytearray").bind (·.attrs.lookup n) = some .method) (hp : plainId id = true) : Slot "bytearray" name id := Slot.of hl hs h1 h2 h3 ba_sub hp
theorem ba_slot_init : Slot "bytearray" "__init__" "bytearray.__init__" := ba_slot (n := "__init__") (by rw [typeLookup_type, builtinLookup_eq_fast]; kernel_rfl) (by decide +kernel) (by decide +kernel) (by decide +kernel) (.inl (by decide +kernel)) (by decide +kernel)
theorem ba_slot_append : Slot "bytearray" "append" "bytearray.append" := ba_slot (n := "append") (by rw [typeLookup_type, builtinLookup_eq_fast]; kernel_rfl) (by decide +kernel) (by decide +kernel) (by decide +kernel) (.inr (by decide +kernel)) (by decide +kernel)
theorem ba_slot_len : Slot "bytearray" "__len__" "bytearray.__len__" := ba_slot (n := "__len__") (by rw [typeLookup_type, builtinLookup_eq_fast]; kernel_rfl) (by decide +kernel) (by decide +kernel) (by decide +kernel) (.inl (by decide +kernel)) (by decide +kernel)
theorem ba_slot_getitem : Slot "bytearray" "__getitem__" "bytearray.__getitem__" := ba_slot (n := "__getitem__") (by rw [typeLookup_type, builtinLookup_eq_fast]; kernel_rfl) (by decide +kernel) (by decide +kernel) (by decide +kernel) (.inl (by decide +kernel)) (by decide +kernel)
theorem ba_entry_init : entryFor table "bytearray.__init__" = some Builtin.«bytearray.__init__» := by first | exact entryFor_of_fast (by kernel_rfl) | exact entryFor_of_tree (by kernel_rfl)
theorem ba_entry_append : entryFor table "bytearray.append" = some Builtin.«bytearray.append» := by first | exact entryFor_of_fast (by kernel_rfl) | exact entryFor_of_tree (by kernel_rfl)
theorem ba_entry_len : entryFor table "bytearray.__len__" = some Builtin.«bytearray.__len__» := by first | exact entryFor_of_fast (by kernel_rfl) | exact entryFor_of_tree (by kernel_rfl)
theorem ba_entry_getitem : entryFor table "bytearray.__getitem__" = some Builtin.«bytearray.__getitem__» := by first | exact entryFor_of_fast (by kernel_rfl) | exact entryFor_of_tree (by kernel_rfl)
theorem ba_entry_new : entryFor table "bytearray.__new__" = some Builtin.«list.__new__» :=
  entryFor_alias (id' := "list.__new__") (by kernel_rfl) (by first | rfl | decide +kernel | (unfold String.splitOn; simp +decide [String.splitOnAux])) (by decide +kernel) (by kernel_rfl)
theorem ba_plain_new : plainId "bytearray.__new__" = true := by decide +kernel
theorem ba_typeCall : checkTypeCall "bytearray" ⟨[], []⟩ = pure () := by kernel_rfl
theorem ba_newCall : checkBuiltinCall "bytearray.__new__" ⟨[.type "bytearray"], []⟩ = pure () := by kernel_rfl
set_option maxRecDepth 1000000 in
set_option maxHeartbeats 4000000 in
theorem ba_owner : ("bytearray.__new__".splitOn ".__new__").headD "" = "bytearray" := by simp +decide [String.splitOn, String.splitOnAux]
theorem ba_args_init (a : Value) : argsOk "bytearray.__init__" ⟨[a], []⟩ := by kernel_rfl
theorem ba_args_append (a b : Value) : argsOk "bytearray.append" ⟨[a, b], []⟩ := by kernel_rfl
theorem ba_args_len (a : Value) : argsOk "bytearray.__len__" ⟨[a], []⟩ := by kernel_rfl
theorem ba_args_getitem (a b : Value) : argsOk "bytearray.__getitem__" ⟨[a, b], []⟩ := by kernel_rfl
theorem ba_rel : typeLookup (.type "bytearray") "__release_buffer__" = pure (some (.builtin "bytearray.__release_buffer__")) := by rw [typeLookup_type, builtinLookup_eq_fast]; kernel_rfl
end
section
open Sem (wp)
noncomputable abbrev baObj (bs : List UInt8) : Obj := { cls := .type "bytearray", data := .bytearray bs.toArray }
section
variable {prog : Program} {w : World} {A : Around} {E : Value → Shared → Prop} {s : Shared}
theorem code_ba_new {Q₁ : Value → Shared → Prop} (h : Q₁ (.ref s.heap.objs.size) { s with heap := s.heap.push (baObj []) }) :
    codeAny (model prog w) A (.call (.builtin "bytearray.__new__") ⟨[.type "bytearray"], []⟩) (wants Q₁ E) s := by
  refine codeAny_of_tree ?_
  show wpAny _ A.in1 (do checkBuiltinCall "bytearray.__new__" ⟨[.type "bytearray"], []⟩; again (.builtin "bytearray.__new__" ⟨[.type "bytearray"], []⟩)) _ _ s
  refine wpAny_bind (wpAny_of_eq ba_newCall (wpAny_pure ⟨plainId_quiet ba_plain_new _, codeAny_builtin_stack ba_entry_new rfl fun p st => ?_⟩))
  rw [Around.under_plainId ba_plain_new _]
  have hsub := ba_sub
  have hown := ba_owner
  obtain ⟨hp, g, d, tk, os⟩ := s
  simp only [hown]
  wp_walk
  exact h
theorem ba_own {a : Addr} {o : Obj} {Q : Bool → Shared → Prop} (ho : s.heap.get? a = some o) (hc : o.cls = .type "bytearray") (h : Q false s) : wpAny (model prog w) A (Builtin.Bytes.ownRelease (.ref a)) Q E s := by
  have hT : s.TypeIs (.ref a) "bytearray" := ⟨o, ho, hc⟩
  unfold Builtin.Bytes.ownRelease Builtin.Bytes.slotIsOwn
  refine wpAny_bind (wpAny_bind (wpAny_specialOf hT ba_rel ?_))
  dsimp only
  rw [show (!("bytearray.__release_buffer__").endsWith ("." ++ "__release_buffer__")) = false by decide +kernel, show ("bytearray.__release_buffer__").dropRight ("__release_buffer__".length + 1) = "bytearray" by decide +kernel]
  refine bm_if_false rfl ?_
  exact wpAny_isInstance hT ba_sub (wpAny_pure h)
theorem ba_write {a : Addr} {bs : List UInt8} {f : Array UInt8 → Array UInt8} {bs' : List UInt8} {Q : Unit → Shared → Prop} (ho : s.heap.get? a = some (baObj bs)) (hf : f bs.toArray = bs'.toArray) (hz : bs'.length ≤ 100000)
    (h : ∀ h', h'.get? a = some (baObj bs') → Heap.SameBut a s.heap h' → Q () { s with heap := h' }) : wpAny (model prog w) A (Builtin.Bytes.write (.ref a) f) Q E s := by
  show wpAny _ _ (updateBytearray a f) _ _ s
  unfold updateBytearray
  refine wpAny_bind (wpAny_load ho ?_)
  show wpAny _ _ (update a (Obj.mapBytearray f) >>= fun _ => lookBehind a) _ _ s
  have e : (s.heap.update a (Obj.mapBytearray f)).get? a = some (baObj bs') := by
    rw [Heap.get?_update_self (Obj.mapBytearray f) ho (by rfl)]
    show some ({ cls := .type "bytearray", data := .bytearray (f bs.toArray) } : Obj) = _
    rw [hf]
  refine wpAny_bind (wpAny_update ho (wpAny_lookBehind e ?_ (h _ e (Heap.SameBut.update ..))))
  show (if bs'.toArray.size > sizeLine then some "bytearray:memory" else none) = none
  rw [if_neg]
  rw [List.size_toArray, sizeLine_eq]; omega
theorem ba_payload {a : Addr} {bs : List UInt8} {Q : Array UInt8 → Shared → Prop} (ho : s.heap.get? a = some (baObj bs)) (h : Q bs.toArray s) : wpAny (model prog w) A (Builtin.Bytes.payload (.ref a)) Q E s := by
  unfold Builtin.Bytes.payload Builtin.Bytes.payload?
  exact wpAny_bind (wpAny_bind (wpAny_load ho (wpAny_pure (wpAny_pure h))))
theorem ba_exports {a : Addr} {bs : List UInt8} {Q : Bool → Shared → Prop} (ho : s.heap.get? a = some (baObj bs)) (h : Q false s) : wpQ (model prog w) A (Builtin.Bytes.exported (.ref a) <||> (do return (← Builtin.Bytes.exportsOf (.ref a)) > 0)) Q E s := by
  unfold orM
  refine q_bind (q_exported ?_)
  refine (?_ : wpQ _ _ (Builtin.Bytes.exportsOf (.ref a) >>= fun n => pure (decide (n > 0))) _ _ s)
  unfold Builtin.Bytes.exportsOf
  exact q_bindA (wpAny_bind (wpAny_load ho (wpAny_pure (q_pure h))))
theorem q_entry {T : String} {name : Str} {id : String} {b : Builtin} {self : Value} {rest : List Value} {Q : Value → Shared → Prop} (h : Slot T name id) (hT : s.TypeIs self T)
    (hb : entryFor table id = some b) (hk : clearC (.builtin id ⟨self :: rest, []⟩) = true) (hc : wpQ (model prog w) A.in1 (b ⟨self :: rest, []⟩) (fun fin s' => ∃ v, fin = .done (.ret v) ∧ Q v s') E s) (ha : argsOk id ⟨self :: rest, []⟩) :
    wpQ (model prog w) A (call (.builtin id) (self :: rest)) Q E s := by
  refine q_call (codeQ_of_tree ?_)
  show wpQ _ A.in1 (do checkBuiltinCall id ⟨self :: rest, []⟩; again (.builtin id ⟨self :: rest, []⟩)) _ _ s
  refine q_bindA (h.check _ _ _ _ _ _ _ _ hT ha (q_pure ⟨plainId_quiet h.plain _, hk, codeQ_of_tree ?_⟩))
  rw [Around.under_plainId h.plain _]
  show wpQ _ _ (match entryFor table id with | some b => b ⟨self :: rest, []⟩ | none => unsupported ((withoutEnding? id "#data").getD id)) _ _ s
  rw [hb]
  refine q_mono hc (fun fin s' h' => ?_) fun _ _ h' => h'
  obtain ⟨v, rfl, hv⟩ := h'
  exact hv
theorem ba_init {a : Addr} {Q : Value → Shared → Prop} (ho : s.heap.get? a = some (baObj [])) (h : ∀ h', h'.get? a = some (baObj []) → Heap.SameBut a s.heap h' → Q .none { s with heap := h' }) :
    wpQ (model prog w) A (call (.builtin "bytearray.__init__") [.ref a]) Q E s := by
  refine q_entry ba_slot_init ⟨_, ho, rfl⟩ ba_entry_init (show (!holders.contains "bytearray.__init__") = true by decide +kernel) ?_ (ba_args_init _)
  unfold Builtin.«bytearray.__init__»
  refine q_bindA (ba_own ho rfl ?_)
  refine (?_ : wpQ _ _ (if false = true then _ else _) _ _ _)
  rw [if_neg (by decide)]
  refine q_bindA (wpAny_of_eq (a := [none, none, none]) (by kernel_rfl) ?_)
  refine q_bindA (wpAny_of_eq (a := ()) rfl ?_)
  refine q_bindA (wpAny_of_eq (a := ()) rfl ?_)
  refine q_bind (ba_exports ho ?_)
  rw [if_neg (by decide)]
  refine q_bindA (ba_write ho (f := fun _ => #[]) (bs' := []) rfl (Nat.zero_le _) fun h' e sb => ?_)
  exact q_of (wpAny_bind (wpAny_pure (wpAny_pure ⟨.none, rfl, h h' e sb⟩)))
theorem ba_append {a : Addr} {bs : List UInt8} {n : Nat} {u : Tok} {Q : Value → Shared → Prop} (ho : s.heap.get? a = some (baObj bs)) (hn : n < 256) (hz : bs.length < 100000) (h : ∀ h', h'.get? a = some (baObj (bs ++ [n.toUInt8])) → Heap.SameBut a s.heap h' → Q .none { s with heap := h' }) :
    wpQ (model prog w) A (call (.builtin "bytearray.append") [.ref a, .int n u]) Q E s := by
  refine q_entry ba_slot_append ⟨_, ho, rfl⟩ ba_entry_append (show (!holders.contains "bytearray.append") = true by decide +kernel) ?_ (ba_args_append _ _)
  unfold Builtin.«bytearray.append»
  refine q_bindA (wpAny_of_eq (a := (.ref a, .int n u)) rfl ?_)
  refine q_bindA (wpAny_bind (wpAny_of_eq (rfl : asIndex (.int n u) = pure (n : Int)) (bm_if_false (by simp only [Bool.or_eq_false_iff, decide_eq_false_iff_not]; omega) (wpAny_pure ?_))))
  unfold Builtin.Bytes.checkResize
  refine q_bind (q_bind (ba_exports ho ?_))
  rw [if_neg (by decide)]
  refine q_pure ?_
  refine q_bindA (ba_write ho (bs' := bs ++ [n.toUInt8]) (by simp) (by simp; omega) fun h' e sb => ?_)
  exact q_of (wpAny_pure ⟨.none, rfl, h h' e sb⟩)
end
end
section
open Sem (wp)
section
variable {prog : Program} {w : World} {A : Around} {E : Value → Shared → Prop} {s : Shared}
theorem ba_len {a : Addr} {bs : List UInt8} {Q : Value → Shared → Prop} (ho : s.heap.get? a = some (baObj bs)) (hz : bs.length ≤ 100000) (h : Q (.int bs.length (s.toks + 1)) { s with toks := s.toks + 1 + 1 }) : wpAny (model prog w) A (call (.builtin "len") [.ref a]) Q E s := by
  have hT : s.TypeIs (.ref a) "bytearray" := ⟨_, ho, rfl⟩
  refine call_len_slot hT ba_slot_len (fun Q' hq => wpAny_call_entry ba_slot_len hT ba_entry_len ?_ (ba_args_len _)) (by omega) (by omega) h
  show wpAny _ _ (Builtin.Bytes.payload (.ref a) >>= fun b => retInt b.size) _ _ s
  refine wpAny_bind (ba_payload ho ?_)
  rw [List.size_toArray]
  exact wpAny_bind (wpAny_mkInt (wpAny_pure ⟨_, rfl, hq⟩))
theorem ba_item0 {a : Addr} {bs : List UInt8} {i : Int} {c : UInt8} {u : Tok} {Q : Fin → Shared → Prop} (ho : s.heap.get? a = some (baObj bs)) (hf : Builtin.Bytes.fitsIndex i = true) (hn : (seqIndex? i bs.toArray.size).bind (bs.toArray[·]?) = some c) (h : Q (.done (.ret (.int c.toNat s.toks))) { s with toks := s.toks + 1 }) :
    wpAny (model prog w) A (Builtin.«bytearray.__getitem__» ⟨[.ref a, .int i u], []⟩) Q E s := by
  show wpAny _ _ (Builtin.Bytes.subscript? (.int i u) >>= fun r => _) _ _ s
  refine wpAny_bind ?_
  unfold Builtin.Bytes.subscript?
  refine wpAny_bind (wpAny_specialOf (typeIs_int s i u) PySem.F.slot_int_index.lookup ?_)
  show wpAny _ _ (if (!Builtin.Bytes.fitsIndex i) = true then _ else pure (some i)) _ _ s
  rw [hf]
  refine wpAny_pure ?_
  show wpAny _ _ (Builtin.Bytes.payload (.ref a) >>= fun b => _) _ _ s
  refine wpAny_bind (ba_payload ho ?_)
  rw [hn]
  exact wpAny_bind (wpAny_mkInt (wpAny_pure h))
theorem ba_item {a : Addr} {bs : List UInt8} {n : Nat} {u : Tok} {Q : Value → Shared → Prop} (ho : s.heap.get? a = some (baObj bs)) (hz : bs.length ≤ 100000) (hn : n < bs.length) (h : Q (.int (bs.getD n 0).toNat s.toks) { s with toks := s.toks + 1 }) :
    wpAny (model prog w) A (getItem (.ref a) (.int n u)) Q E s := by
  have hT : s.TypeIs (.ref a) "bytearray" := ⟨_, ho, rfl⟩
  have hc : (seqIndex? (n : Int) bs.toArray.size).bind (bs.toArray[·]?) = some (bs.getD n 0) := by
    rw [List.size_toArray, seqIndex_nat hn]
    show bs.toArray[n]? = _
    rw [List.getElem?_toArray, List.getD_eq_getElem?_getD, List.getElem?_eq_getElem hn]; rfl
  have hf : Builtin.Bytes.fitsIndex (n : Int) = true := by
    simp only [Builtin.Bytes.fitsIndex, Bool.and_eq_true, decide_eq_true_eq]; omega
  refine wpAny_getItem_slot hT (by decide) ba_slot_getitem ?_
  refine wpAny_call_entry ba_slot_getitem hT ba_entry_getitem ?_ (ba_args_getitem _ _)
  generalize bs.getD n 0 = c at hc h
  generalize (n : Int) = i at hc hf ⊢
  exact ba_item0 ho hf hc ⟨_, rfl, h⟩
theorem codeQ_builtin {id : String} {args : Args} {b : Builtin} {R : Result → Shared → Prop} (hb : entryFor table id = some b)
    (h : wpQ (model prog w) (A.under (.builtin id args)) (b args) (fun fin s' => match fin with | .done f => R (.ok f) s' | .again c' => c'.quiet = true ∧ clearC c' = true ∧ codeQ (model prog w) A c' R s') (fun e s' => R (.error e) s') s) :
    codeQ (model prog w) A (.builtin id args) R s := by
  refine codeQ_of_tree ?_
  show wpQ _ _ (match entryFor table id with | some b => b args | none => unsupported ((withoutEnding? id "#data").getD id)) _ _ s
  rw [hb]; exact h
theorem q_special {M : Model} {self : Value} {T : String} {name : Str} {id : String} {args : List Value} {kw : List (Str × Value)} {Q : Option Value → Shared → Prop} (hT : s.TypeIs self T) (h : Slot T name id)
    (hc : wpQ M A (call (.builtin id) (self :: args) kw) (fun v => Q (some v)) E s) : wpQ M A (callSpecial? self name args kw) Q E s := by
  simp only [callSpecial?]
  refine q_bindA (wpAny_specialOf hT h.lookup ?_)
  simp only [h.bind]
  exact q_holding (q_bindA (wpAny_pure (q_bind (q_mono hc (fun v s' h' => q_pure h') fun _ _ h' => h'))))
theorem ba_make {Q : Value → Shared → Prop} (h : ∀ h', h'.get? s.heap.objs.size = some (baObj []) → Heap.SameBut s.heap.objs.size (s.heap.push (baObj [])) h' → Q (.ref s.heap.objs.size) { s with heap := h' }) :
    wpQ (model prog w) A (call (.type "bytearray") []) Q E s := by
  refine q_call (codeQ_of_tree ?_)
  show wpQ _ _ (callAny (.type "bytearray") _) _ _ _
  refine q_pure ⟨Code.quiet_builtin _ (by decide +kernel), (show (!holders.contains "type.__call__") = true by decide +kernel), codeQ_builtin F.entry_type_call ?_⟩
  rw [Around.under_plain (weight_type_call_type "bytearray" [] []) (units_type_call_type "bytearray" [] [])]
  unfold Builtin.«type.__call__»
  have e1 : (Value.type "bytearray" == Value.type "type") = false := by decide +kernel
  have e2 : (((Manifest.find? "bytearray").bind fun x => x.mro.findSome? fun t => (Manifest.find? t).bind fun b => if b.noNew then some true else if b.attrs.any (·.1 == "__new__") then some false else none).getD false) = false := by decide +kernel
  dsimp only
  simp only [e1, e2, Bool.false_eq_true, if_false]
  refine q_bindA (wpAny_of_eq ba_typeCall ?_)
  refine q_bindA (wpAny_of_eq ba_mro ?_)
  rw [if_neg (by decide)]
  refine q_bindA (wpAny_of_eq ba_made ?_)
  dsimp only
  refine q_bindA (wpAny_pure ?_)
  refine q_bindA (wpAny_holding (wpAny_call (code_ba_new ?_)))
  have ho : (s.heap.push (baObj [])).get? s.heap.objs.size = some (baObj []) := Heap.get?_push_size _ rfl
  refine q_bindA (wpAny_isInstance (T := "bytearray") (b := true) ⟨_, ho, rfl⟩ ba_sub ?_)
  rw [if_neg (by decide)]
  refine q_bind (q_holding (q_special ⟨_, ho, rfl⟩ ba_slot_init (ba_init ho fun h' e sb => ?_)))
  dsimp only
  rw [if_neg (by decide)]
  exact q_pure (h h' e sb)
end
end
section
open Sem (wp)
theorem ba_no_bytes : typeLookup (.type "bytearray") "__bytes__" = pure none := by rw [typeLookup_type, builtinLookup_eq_fast]; kernel_rfl
theorem ba_no_index : typeLookup (.type "bytearray") "__index__" = pure none := by rw [typeLookup_type, builtinLookup_eq_fast]; kernel_rfl
theorem ba_buffer : typeLookup (.type "bytearray") "__buffer__" = pure (some (.builtin "bytearray.__buffer__")) := by rw [typeLookup_type, builtinLookup_eq_fast]; kernel_rfl
theorem ba_attrs : PlainAttrs "bytearray" :=
  ⟨⟨"bytearray.__getattribute__", by rw [typeLookup_type, builtinLookup_eq_fast]; kernel_rfl, by decide +kernel⟩, by rw [typeLookup_type, builtinLookup_eq_fast]; kernel_rfl⟩
theorem ba_ty_append : typeOf (.builtin "bytearray.append") = pure (.type "method_descriptor") := by kernel_rfl
section
variable {prog : Program} {w : World} {A : Around} {E : Value → Shared → Prop} {s : Shared}
theorem ba_own2 {a : Addr} {o : Obj} {Q : Bool → Shared → Prop} (ho : s.heap.get? a = some o) (hc : o.cls = .type "bytearray") (h : Q true s) : wpAny (model prog w) A (Builtin.Bytes.slotIsOwn (.ref a) "__buffer__") Q E s := by
  have hT : s.TypeIs (.ref a) "bytearray" := ⟨o, ho, hc⟩
  unfold Builtin.Bytes.slotIsOwn
  refine wpAny_bind (wpAny_specialOf hT ba_buffer ?_)
  dsimp only
  rw [show (!("bytearray.__buffer__").endsWith ("." ++ "__buffer__")) = false by decide +kernel, show ("bytearray.__buffer__").dropRight ("__buffer__".length + 1) = "bytearray" by decide +kernel]
  refine bm_if_false rfl ?_
  exact wpAny_isInstance hT ba_sub h
theorem ba_buf {a : Addr} {bs : List UInt8} {Q : Option (Array UInt8) → Shared → Prop} (ho : s.heap.get? a = some (baObj bs)) (h : Q (some bs.toArray) s) : wpAny (model prog w) A (Builtin.Bytes.buffer? "bytes.__new__" (.ref a) true) Q E s := by
  have hT : s.TypeIs (.ref a) "bytearray" := ⟨_, ho, rfl⟩
  unfold Builtin.Bytes.buffer?
  refine wpAny_bind (wpAny_specialOf hT ba_buffer ?_)
  dsimp only
  refine wpAny_bind (ba_own2 ho rfl ?_)
  refine bm_if_false rfl ?_
  refine wpAny_bind (wpAny_specialOf hT ba_buffer ?_)
  refine wpAny_bind (ba_own ho rfl ?_)
  refine bm_if_false rfl ?_
  exact wpAny_bind (ba_payload ho (wpAny_pure h))
theorem ba_bytes_new {a : Addr} {bs : List UInt8} {Q : Value → Shared → Prop} (ho : s.heap.get? a = some (baObj bs)) (hz : bs.length ≤ 100000) (hQ : ∀ t k, Q (.bytes bs.toArray t) { s with toks := k }) :
    codeAny (model prog w) A (.call (.builtin "bytes.__new__") ⟨[.type "bytes", .ref a], []⟩) (wants Q E) s := by
  refine codeAny_of_tree ?_
  show wpAny _ A.in1 (do checkBuiltinCall "bytes.__new__" ⟨[.type "bytes", .ref a], []⟩; again (.builtin "bytes.__new__" ⟨[.type "bytes", .ref a], []⟩)) _ _ s
  refine wpAny_bind (wpAny_of_eq (F.bm_newCall _) (wpAny_pure ⟨plainId_quiet F.bm_plain _, codeAny_builtin F.bm_entry ?_⟩))
  rw [Around.under_plainId F.bm_plain _]
  have hT : s.TypeIs (.ref a) "bytearray" := ⟨_, ho, rfl⟩
  unfold Builtin.«bytes.__new__»
  refine wpAny_bind (wpAny_of_eq (a := true) rfl ?_)
  refine bm_if_false rfl ?_
  refine wpAny_bind (wpAny_of_eq F.bm_sub ?_)
  refine bm_if_false rfl ?_
  refine wpAny_bind (wpAny_of_eq (F.bm_bind _) ?_)
  refine wpAny_bind (wpAny_of_eq (a := ()) rfl ?_)
  refine wpAny_bind (wpAny_of_eq (a := ()) rfl ?_)
  refine bm_if_false rfl ?_
  refine wpAny_bind (wpAny_specialOf hT ba_no_bytes ?_)
  refine wpAny_bind (wpAny_bind ?_)
  show wpAny _ _ (load a >>= _) _ _ _
  refine wpAny_bind (wpAny_load ho ?_)
  refine wpAny_pure (wpAny_pure ?_)
  refine bm_if_false rfl ?_
  refine wpAny_bind (wpAny_specialOf hT ba_no_index ?_)
  refine bm_if_true rfl ?_
  first
    | show wpAny _ _ (Builtin.Bytes.buffer? "bytes.__new__" (.ref a) true >>= _) _ _ _
    | (refine wpAny_bind ?_; show wpAny _ _ (Builtin.Bytes.buffer? "bytes.__new__" (.ref a) true >>= _) _ _ _)
  refine wpAny_bind (ba_buf ho ?_)
  dsimp only
  refine wpAny_bind (wpAny_rule ?_)
  refine wpAny_bind (wpAny_mkBytes ?_ (by rw [List.size_toArray, sizeLine_eq]; omega))
  show wpAny _ _ (if (Value.type "bytes" == Value.type "bytes") = true then _ else _) _ _ _
  refine bm_if_true (by decide) ?_
  first
    | exact wpAny_pure (hQ _ _)
    | exact wpAny_bind (wpAny_pure (wpAny_pure (hQ _ _)))
theorem ba_bytes {a : Addr} {bs : List UInt8} {Q : Value → Shared → Prop} (ho : s.heap.get? a = some (baObj bs)) (hz : bs.length ≤ 100000) (hQ : ∀ t k, Q (.bytes bs.toArray t) { s with toks := k }) :
    wpAny (model prog w) A (call (.type "bytes") [.ref a]) Q E s := by
  refine callType_codes (Q₁ := fun obj s₁ => s₁.TypeIs obj "bytes" ∧ Q obj s₁) F.bm_called (F.bm_typeCall _) F.entry_object_init
    (ba_bytes_new ho hz fun t k => ⟨PySem.W.typeIs_bytes _ _ _, hQ t k⟩) fun obj s₁ h₁ => ?_
  exact ⟨h₁.1, F.args_object_init_2 obj _, object_init_meets F.bm_called.init.lookup F.bm_called.made (by decide) prog w A.in1 _ s₁ ⟨h₁.1, rfl, h₁.2⟩⟩
theorem ba_method {a : Addr} {bs : List UInt8} {pl : Sem Bool} {M : Model} {Q : Value × List Value → Shared → Prop} (ho : s.heap.get? a = some (baObj bs)) (h : Q (.builtin "bytearray.append", [.ref a]) s) : wpAny M A (getMethod (.ref a) "append" pl) Q E s :=
  getMethod_builtin ⟨_, ho, rfl⟩ ba_attrs ba_slot_append ba_ty_append (fun b e => by cases e; exact ⟨_, ho, rfl⟩) h
end
end
section
open Sem (wp)
section
variable {M : Model} {A : Around} {E : Value → Shared → Prop} {s : Shared} {pos : Pos} {first : List Value} {args : List (Bool × Sem Value)} {Q : Value → Shared → Prop}
theorem q_callWith_type {T : String} (hplain : args.any (·.1) = false) (h : wpAny M A (evalArgs (.type T) true args []) (fun a s₁ => wpQ M A (call (.type T) (first ++ a.pos) a.kw) Q E s₁) E s) : wpQ M A (callWith pos (.type T) first args []) Q E s := by
  unfold callWith
  refine q_bindA (wpAny_holding (wpAny_mono h (fun a s₁ h₁ => q_standAt ?_) fun _ _ x => x))
  simp only [hplain, List.any_nil, Bool.or_false]
  refine q_bindA (wpAny_pure ?_)
  exact q_bind (q_mono h₁ (fun r s₂ hr => q_of (wpAny_bind (wpAny_holding (wpAny_point (wpAny_pure hr))))) fun _ _ x => x)
theorem q_callWith_builtin {id : String} (hplain : args.any (·.1) = false) (h : wpAny M A (evalArgs (.builtin id) true args []) (fun a s₁ => wpQ M A (call (.builtin id) (first ++ a.pos) a.kw) Q E s₁) E s) : wpQ M A (callWith pos (.builtin id) first args []) Q E s := by
  unfold callWith
  refine q_bindA (wpAny_holding (wpAny_mono h (fun a s₁ h₁ => q_standAt ?_) fun _ _ x => x))
  simp only [hplain, List.any_nil, Bool.or_false]
  refine q_bindA (wpAny_pure ?_)
  exact q_bind (q_mono h₁ (fun r s₂ hr => q_of (wpAny_bind (wpAny_holding (wpAny_point (wpAny_pure hr))))) fun _ _ x => x)
theorem q_keep {α : Type} {vs : List Value} {m : Sem α} {Q : α → Shared → Prop} (h : wpQ M A m Q E s) : wpQ M A (m.keep vs) Q E s := fun Γ p hΓ hc => by rw [Sem.wp_keep]; exact h Γ p hΓ hc
theorem q_ite {α : Type} {c : Prop} [Decidable c] {a b : Sem α} {Q : α → Shared → Prop} (h : if c then wpQ M A a Q E s else wpQ M A b Q E s) : wpQ M A (if c then a else b) Q E s := by split <;> simp_all
theorem q_callWith_fn {a : Addr} {o : Obj} {fd : FuncData}
    (h : wpAny M A (evalArgs (.ref a) true args []) (fun x s₁ => (s₁.heap.get? a = some o ∧ o.data = .func fd) ∧ wpQ M A (call (.ref a) (first ++ x.pos) x.kw) Q E s₁) E s) : wpQ M A (callWith pos (.ref a) first args []) Q E s := by
  unfold callWith
  refine q_bindA (wpAny_holding (wpAny_mono h (fun x s₁ h₁ => q_standAt ?_) fun _ _ x => x))
  have tail : ∀ {t : Sem Value}, wpQ M A t Q E s₁ → wpQ M A (t >>= fun r => holding [r] point >>= fun _ => pure r) Q E s₁ :=
    fun ht => q_bind (q_mono ht (fun r s₂ hr => q_of (wpAny_bind (wpAny_holding (wpAny_point (wpAny_pure hr))))) fun _ _ x => x)
  cases hs : args.any (·.1) <;> simp only [List.any_nil, Bool.or_false] <;>
    refine q_bind (m := keeperOf (.ref a)) ?_ <;> unfold keeperOf <;>
    refine q_bindA (wpAny_load h₁.1.1 ?_) <;> rw [h₁.1.2] <;> refine q_pure ?_
  · first
      | refine q_ite ?_
      | skip
    split <;> first
      | exact tail h₁.2
      | exact tail (by unfold callMarked; exact q_keep h₁.2)
  · first
      | exact tail (by unfold callMarked; exact q_keep h₁.2)
      | exact tail h₁.2
theorem q_method {env : Env} {o : Expr} {name : Str} {apos : Pos} {as : List Expr} {pl : Sem Bool} 
    (h : wpAny M A (eval o env) (fun ov s₁ => wpAny M A (getMethod ov name pl) (fun fx s₂ => wpQ M A (callWith pos fx.1 fx.2 (backTo pos (starEach as env)) []) Q E s₂) E s₁) E s)
    (he : eval (.Call (.Attribute o name apos) as [] pos) env = (do
      let ov ← eval o env
      standAt apos.atName
      let (f, first) ← holding [ov] (getMethod ov name pl)
      callWith pos f first (backTo pos (starEach as env)) [])) : wpQ M A (eval (.Call (.Attribute o name apos) as [] pos) env) Q E s := by
  rw [he]
  refine q_bindA (wpAny_mono h (fun ov s₁ h₁ => q_standAt (q_bindA (wpAny_holding (wpAny_mono h₁ (fun fx s₂ h₂ => ?_) fun _ _ x => x)))) fun _ _ x => x)
  exact h₂
end
section
variable {c : Cx} {A : Around} {env : Env} {g : Heap} {ms : List Entry} {ns : List (Str × NameKind)} {E : Value → Heap → Nat → Prop} {h : Heap} {t : Nat} {rest : List Stmt} {l : List (Str × Value)} {pos p : Pos} {x : Str}
noncomputable def OBytes (bs : List UInt8) (o : Obj) : Prop := o = baObj bs
theorem obytes_at {a : Addr} {bs : List UInt8} (e : ∃ o, h.get? a = some o ∧ OBytes bs o) : h.get? a = some (baObj bs) := let ⟨o, a, b⟩ := e; by rw [a, b]
theorem bytearray_ {Q : Value → Heap → Nat → Prop} (H : Led g ms h) (hf : EvX c A env g ms (.Name x p) (.type "bytearray")) (q : ∀ a h' t', Led g ((a, OBytes []) :: ms) h' → Q (.ref a) h' t') : V c A (eval (.Call (.Name x p) [] [] pos) env) Q E h t := by
  refine .of ?_
  rw [arm_eval_Call_Name']
  refine q_bindA (cps (hf _ E h t H fun v h₁ t₁ H₁ e => ?_))
  subst e
  refine q_callWith_type rfl (evalArgs_nil3 (ba_make (s := c.S h₁ t₁) fun h' e sb => ⟨h', t₁, rfl, q _ h' t₁ ?_⟩))
  exact (H₁.push (P := OBytes []) (baObj []) rfl rfl).put 0 rfl sb ⟨_, e, rfl⟩
theorem Vs.append {o e : Expr} {apos cpos : Pos} {a : Addr} {bs : List UInt8} {n : Nat} {Q : Flow → Heap → Nat → Prop} {pl : Sem Bool} (j : Nat) (H : Led g ms h) (ho : EvX c A env g ms o (.ref a)) (hj : ms[j]? = some (a, OBytes bs)) (hz : bs.length < 100000)
    (he : EvI c A env g ms e n) (hn : n < 256) (N : EnvN env ns)
    (q : ∀ h' t', Led g (ms.set j (a, OBytes (bs ++ [n.toUInt8]))) h' → Vs c A env rest Q E h' t') (hs : noStar e = true)
    (hee : eval (.Call (.Attribute o "append" apos) [e] [] cpos) env = (do
      let ov ← eval o env
      standAt apos.atName
      let (f, first) ← holding [ov] (getMethod ov "append" pl)
      callWith cpos f first (backTo cpos (starEach [e] env)) [])) : Vs c A env (.Expr (.Call (.Attribute o "append" apos) [e] [] cpos) pos :: rest) Q E h t := by
  refine Vs.exprV (.of (q_method (pl := pl) (cps (ho _ E h t H fun v h₁ t₁ H₁ q1 => ?_)) hee)) N rfl
  subst q1
  refine ba_method (s := c.S h₁ t₁) (obytes_at (H₁.at j hj)) ?_
  have hss : ([e] : List Expr).all noStar = true := by simp [hs]
  refine q_callWith_builtin (anyStar hss) ?_
  rw [starEach_cons hs, backTo_cons]
  refine evalArgs_plain (spliced_cons (cps (he _ E h₁ t₁ H₁ fun v h₂ t₂ H₂ r => ?_)))
  obtain ⟨u, rfl⟩ := r
  refine spliced_nil ?_
  exact ba_append (s := c.S h₂ t₂) (obytes_at (H₂.at j hj)) hn hz fun h' e sb => ⟨h', t₂, rfl, fun a e => (nomatch e), q h' t₂ (H₂.put j hj sb ⟨_, e, rfl⟩)⟩
theorem EvI.lenB {id : Str} {e : Expr} {a : Addr} {bs : List UInt8} (j : Nat) (hf : EvX c A env g ms (.Name id p) (.builtin "len")) (he : EvX c A env g ms e (.ref a)) (hj : ms[j]? = some (a, OBytes bs)) (hz : bs.length ≤ 100000) (hs : noStar e = true) :
    EvI c A env g ms (.Call (.Name id p) [e] [] pos) bs.length :=
  .blt hf (.cons he .nil hs) (by simp [hs]) fun Q E h t vs' H r k => by
    obtain ⟨v, r, rfl, rfl, rfl⟩ := r
    exact .of (ba_len (s := c.S h t) (obytes_at (H.at j hj)) hz ⟨h, _, rfl, k _ h _ H (isI _ _)⟩)
theorem EvI.itemB {value slice : Expr} {a : Addr} {bs : List UInt8} {i : Int} {n : Nat} (j : Nat) (hv : EvX c A env g ms value (.ref a)) (hs : EvI c A env g ms slice i) (hj : ms[j]? = some (a, OBytes bs)) (hn : i = n) (hl : n < bs.length) (hz : bs.length ≤ 100000) (hp : notSlice slice = true) :
    EvI c A env g ms (.Subscript value slice pos) ((bs.getD n 0).toNat) :=
  EvV.subscr hv hs fun Q E h t o x H e₁ ⟨u, e₂⟩ k => by
    subst e₁ e₂ hn
    have ho := obytes_at (H.at j hj)
    refine .of (tail_any (s := c.S h t) (ops := [.ref a, .int (n : Int) u]) ⟨_, ho, rfl⟩ ba_slot_getitem.lookup (ba_item (s := c.S h t) ho hz hl ?_) (subscripted_of hp _ _))
    exact ⟨h, t + 1, rfl, k _ h _ H (isI _ _)⟩
theorem EvY.ofB {id : Str} {e : Expr} {a : Addr} {bs : List UInt8} (j : Nat) (hf : EvX c A env g ms (.Name id p) (.type "bytes")) (he : EvX c A env g ms e (.ref a)) (hj : ms[j]? = some (a, OBytes bs)) (hz : bs.length ≤ 100000) (hs : noStar e = true) :
    EvY c A env g ms (.Call (.Name id p) [e] [] pos) bs := fun Q E h t H k => by
  refine .of (wpAny_Call_Name_kw (cps (hf _ E h t H fun v h₁ t₁ H₁ q => ?_)))
  subst q
  have hss : ([e] : List Expr).all noStar = true := by simp [hs]
  refine PyProof.Rows.callWith_type (anyStar hss) ?_
  rw [starEach_cons hs, backTo_cons]
  refine evalArgs_plain (spliced_cons (cps (he _ E h₁ t₁ H₁ fun v h₂ t₂ H₂ r => ?_)))
  subst r
  refine spliced_nil ?_
  exact ba_bytes (s := c.S h₂ t₂) (obytes_at (H₂.at j hj)) hz fun u k' => ⟨h₂, k', rfl, k _ h₂ k' H₂ (isY _ _)⟩
theorem callVc {fa : Addr} {o : Obj} {fd : FuncData} {body : List Stmt} {args : List Value} {kw : List (Str × Value)} {binds : List (Str × Value)} {Q : Value → Heap → Nat → Prop} {n : Nat} (W : List Entry) (Eb : Env → Value → Heap → Nat → Prop)
    (ho : h.get? fa = some o) (hd : o.data = .func fd) (hb : fd.body = .stmts body) (hns : fd.scope.names = ns) (hr : Room A (n + 1)) (hl : h.NoLimit) (hc : h.CodeRec fd.code fd.qualname) (hbind : BindsTo (c.S h t) fd ⟨args, kw⟩ binds)
    (hcell : ∀ x ∈ ns, x.2 ≠ .cell) (hloc : ∀ x ∈ binds, ns.lookup x.1 = some .local) (hk : fd.scope.kind = .function) (hco : fd.scope.isCoroutine = false) (hgen : fd.scope.isGenerator = false) (hg : fd.globals = mainGlobals) (hbu : fd.builtins = builtinsNs)
    (hW : ∀ p ∈ W, ∃ o, h.get? p.1 = some o ∧ p.2 o) (hn : (W.map (·.1)).Nodup)
    (k : ∀ env h' t', Room (A.deeper env) n → EnvN env ns → env.cells = fd.closure → env.frame = some env.locals → Led (hideAll h (W.map (·.1))) ((env.locals, OLoc binds.reverse) :: W) h' → Vs c (A.deeper env) env body (fun f h t => Q (flowVal f) h t) (Eb env) h' t')
    (kE : ∀ env e h' t', env.scope.kind = .function → env.frame = some env.locals → Eb env e h' t' → Mine.W c (A.deeper env) (leaving env e) (fun _ h'' t'' => E e h'' t'') E h' t') :
    V c A (call (.ref fa) args kw) Q E h t := by
  subst hns
  refine .of (q_call (codeQ_of_tree ?_))
  show wpQ _ A.in1 (callAny (.ref fa) ⟨args, kw⟩) _ _ _
  simp only [callAny]
  refine q_bindA (wpAny_load (s := c.S h t) ho ?_)
  obtain ⟨cd, oc, vs, tq, hcd, hoc, hdc, hq⟩ := hc
  simp only [hd, callFunction, hco, hgen, hb, hcd]
  refine q_bindA (m := field (.ref cd) 1) (wpAny_field hoc hdc hq (q_bindA (wpAny_pure ?_)))
  refine q_bindA (hbind _ _ _ _ ?_)
  refine q_bindA (wpAny_newFunctionEnv hcell hloc (fun h₀ hns₀ hsb₀ => ?_) hk)
  have hk₁ : ∀ b o, h.get? b = some o → h₀.get? b = some o := fun b o e => hsb₀.extBut b o (Nat.ne_of_lt (Heap.lt_size e)) (Heap.get?_push_of_some _ e)
  refine q_bindA (wpAny_enterFrame (hl.keeps hk₁) hr.lim (q_pure ⟨rfl, rfl, codeQ_func ?_⟩))
  have hne : h.get? h.objs.size = none := by
    cases q : h.get? h.objs.size with
    | none => rfl
    | some o => exact absurd (Heap.lt_size q) (Nat.lt_irrefl _)
  have H : Led (hideAll h (W.map (·.1))) W h₀ := (Led.start h W hW hn).ext hk₁
  have H' : Led (hideAll h (W.map (·.1))) ((h.objs.size, OLoc binds.reverse) :: W) h₀ := H.add (fun m => by
      obtain ⟨p, hp, e⟩ := List.mem_map.mp m
      obtain ⟨o, h1, _⟩ := hW p hp
      rw [e, hne] at h1; cases h1) (by
      cases q : (hideAll h (W.map (·.1))).get? h.objs.size with
      | none => rfl
      | some o => rw [of_hideAll _ q] at hne; cases hne) (of_ns hns₀ fun _ _ e => e)
  refine q_mono (k (newEnv fd.scope h.objs.size fd.globals fd.closure (fd.qualname ++ Str.ofString ".<locals>.") (some fa) (.ref cd) none fd.builtins) h₀ _ hr.deeper ⟨hk, hg, hbu, rfl⟩ rfl rfl H').to ?_ ?_
  · rintro f s ⟨h', t', rfl, q⟩
    cases f <;> exact ⟨h', t', rfl, q⟩
  · rintro e s ⟨h', t', rfl, q⟩
    exact wpAny_mono (kE _ e h' t' hk rfl q).to (fun _ s ⟨h'', t'', e1, q⟩ => ⟨h'', t'', e1, q⟩) fun _ _ x => x
theorem call_fnV {id : Str} {fa : Addr} {e : Expr} {es : List Expr} {R : List Value → Prop} {Q : Value → Heap → Nat → Prop}
    (H : Led g ms h) (hf : EvX c A env g ms (.Name id p) (.ref fa)) (fo : FnAt g fa) (ha : EvAs c A env g ms pos (e :: es) R) (hs : (e :: es).all noStar = true)
    (k : ∀ vs h' t', Led g ms h' → R vs → V c A (call (.ref fa) vs) Q E h' t') :
    V c A (eval (.Call (.Name id p) (e :: es) [] pos) env) Q E h t := by
  refine .of ?_
  rw [arm_eval_Call_Name']
  refine q_bindA (cps (hf _ E h t H fun v h₁ t₁ H₁ q => ?_))
  subst q
  obtain ⟨o, fd, ho, hd⟩ := fo
  have hs1 : noStar e = true := by rw [List.all_cons, Bool.and_eq_true] at hs; exact hs.1
  have ha' := ha
  unfold EvAs at ha'
  refine q_callWith_fn (o := o) (fd := fd) ?_
  rw [starEach_cons hs1, backTo_cons] at ha' ⊢
  exact evalArgs_plain (cps (ha' _ E h₁ t₁ H₁ fun vs h₂ t₂ H₂ r => ⟨⟨H₂.base _ _ ho, hd⟩, (k vs h₂ t₂ H₂ r).to⟩))
end
end
section
theorem picked_take (o : List UInt8) (a b : Nat) : KBy.picked o.toArray (some (a : Int)) (some (b : Int)) = ((o.drop a).take (b - a)).toArray := by
  rw [KBc.picked_eq]
  simp only [Option.elim, clipAt_nat, List.size_toArray]
  congr 1
  rcases Nat.le_total a o.length with h | h
  · rw [Nat.min_eq_left h]
    rcases Nat.le_total b o.length with h' | h'
    · rw [Nat.min_eq_left h']
    · rw [Nat.min_eq_right h', List.take_of_length_le (by simp), List.take_of_length_le (by simp; omega)]
  · rw [Nat.min_eq_right h, List.drop_of_length_le (Nat.le_refl _), List.drop_of_length_le h, List.take_nil, List.take_nil]
section
variable {c : Cx} {A : Around} {env : Env} {g : Heap} {ms : List Entry} {ns : List (Str × NameKind)} {E : Value → Heap → Nat → Prop} {h : Heap} {t : Nat} {rest : List Stmt} {l la : List (Str × Value)} {pos p p' : Pos} {x y id : Str}
theorem EvY.slice {value e₁ e₂ : Expr} {o : List UInt8} {i j : Int} {a b : Nat} (hv : EvY c A env g ms value o) (h₁ : EvI c A env g ms e₁ i) (h₂ : EvI c A env g ms e₂ j) (hi : i = a) (hj : j = b) (hz : o.length ≤ 1000)
    (ht : ∀ o r, letTemporaryGo value o r = pure () := by intro _ _; rfl) :
    EvY c A env g ms (.Subscript value (.Slice (some e₁) (some e₂) none p) pos) ((o.drop a).take (b - a)) := fun Q E h t H k => by
  subst hi hj
  refine .of (wpAny_Subscript_Slice (T := "bytes") FB.slot_bytes_getitem.lookup (cps (hv _ E h t H fun v h₁' t₁ H₁ q => ?_)) ht)
  obtain ⟨y, rfl⟩ := q
  refine wpAny_Slice ?_
  rw [evalPart_some]
  refine cps (h₁ _ E h₁' t₁ H₁ fun v₂ h₂' t₂ H₂ q => ?_)
  obtain ⟨u, rfl⟩ := q
  rw [evalPart_some]
  refine cps (h₂ _ E h₂' t₂ H₂ fun v₃ h₃' t₃ H₃ q => ?_)
  obtain ⟨u', rfl⟩ := q
  rw [evalPart_none]
  refine wpAny_pure ⟨typeIs_bytes _ _ _, getItem_meets (typeIs_bytes _ _ _) (by decide) FB.slot_bytes_getitem FB.entry_bytes_getitem (FB.args_bytes_getitem_2 _ _) (KBc.meets_slice2 o.toArray y _ (.int _ _) (.int _ _)) ⟨Heap.IsSliceOf.new _ _ _ _, ?_, fun t' k' => ?_⟩⟩
  · refine Nat.le_trans (KBc.size_picked_le _ _ _) ?_
    rw [sizeLine_eq, List.size_toArray]; omega
  · rw [picked_take]
    exact ⟨_, k', rfl, k _ _ _ (H₃.push_drop _) (isY _ _)⟩
theorem takeL_ {value e : Expr} {a : Addr} {vs : List Value} {i : Int} {n : Nat} {Q : Value → Heap → Nat → Prop} (H : Led g ms h) (hv : EvX c A env g ms value (.ref a)) (hj : ∀ h, Led g ms h → h.IsList a vs.toArray) (he : EvI c A env g ms e i) (hi : i = n) (hz : vs.length ≤ 100000)
    (q : ∀ r h' t', Led g ((r, OList (vs.take n)) :: ms) h' → Q (.ref r) h' t')
    (ht : ∀ o r, letTemporaryGo value o r = pure () := by intro _ _; rfl) :
    W c A (eval (.Subscript value (.Slice none (some e) none p) pos) env) Q E h t := by
  subst hi
  refine .of (wpAny_Subscript_list_slice (cps (hv _ E h t H fun v h₁' t₁ H₁ e => ?_)) ht)
  subst e
  rw [evalPart_none]
  refine wpAny_pure ?_
  rw [evalPart_some]
  refine cps (he _ E h₁' t₁ H₁ fun v₃ h₃' t₃ H₃ r => ?_)
  obtain ⟨u', rfl⟩ := r
  refine ⟨a, vs.toArray, none, some (n : Int), rfl, hj _ H₃, by rw [sizeLine_eq, List.size_toArray]; omega, .none, .int _ _, ?_⟩
  rw [slicePick_upto']
  rw [← Heap.size_push h₃' { cls := .type "slice", data := .fields #[.none, .int (n : Int) u', .none] }]
  exact ⟨_, t₃, rfl, q _ _ _ ((H₃.push_drop _).push (P := OList (vs.take n)) { cls := .type "list", data := .seq (vs.take n).toArray } rfl ⟨0, rfl⟩)⟩
theorem CmpOk.eqY {a b : List UInt8} : CmpOk c A g ms .Eq (IsY a) (IsY b) (a == b) := fun Q E h t x y H ⟨t₁, e₁⟩ ⟨t₂, e₂⟩ k => by
  subst e₁ e₂
  exact .of (eq_bytes (s := c.S h t) ⟨h, t, rfl, by simpa using k h t H⟩)
theorem CmpOk.neY {a b : List UInt8} : CmpOk c A g ms .NotEq (IsY a) (IsY b) (a != b) := fun Q E h t x y H ⟨t₁, e₁⟩ ⟨t₂, e₂⟩ k => by
  subst e₁ e₂
  exact .of (ne_bytes (s := c.S h t) ⟨h, t, rfl, by simpa using k h t H⟩)
end
end
section
end
local macro_rules | `(tactic| walk_at "ev") => `(tactic| repeat' (with_reducible first
  | exact EvI.const
  | apply EvI.add
  | apply EvI.sub
  | apply EvI.neg
  | apply EvI.min2 (by assumption)
  | apply EvI.band
  | apply EvI.mulS
  | apply EvI.shr
  | apply EvI.shl
  | apply EvI.mod
  | apply EvI.or
  | apply EvI.lenY
  | exact EvX.loc (by assumption) (by kernel_rfl) (by with_unfolding_all rfl) (by kernel_rfl)
  | exact EvX.blt (bn_len (by assumption)) (by assumption) (by kernel_rfl) (by kernel_rfl)
  | exact EvX.blt (bn_min (by assumption)) (by assumption) (by kernel_rfl) (by kernel_rfl)
  | exact EvX.attrI (K := KK _) (attr := none) (EvX.loc (by assumption) (by kernel_rfl) (by with_unfolding_all rfl) (by kernel_rfl)) (Gl.X (by assumption)) (Inst.ofG (by assumption) (by assumption)) (by kernel_rfl) (by kernel_rfl) (by kernel_rfl) (by kernel_rfl) (by with_unfolding_all rfl) (by kernel_rfl) (by with_unfolding_all rfl)
  | exact EvX.gc (by assumption) (by kernel_rfl) (by assumption) (by with_unfolding_all rfl) (by assumption) (by kernel_rfl)
  | exact EvX.glob (gn_LEAST (by assumption)) (by assumption) (by kernel_rfl) (by kernel_rfl)
  | exact EvX.none | exact EvX.bool
  | apply EvX.int
  | apply EvX.bytes
  | assumption
  | with_unfolding_all exact rfl
  | decide
  | omega))
section
noncomputable def sameS (o : List UInt8) (a mb p : Nat) : Bool := decide (a - p ≤ mb) && ((o.drop p).take (p + 3 - p) == (o.drop a).take (a + 3 - a))
theorem take3 {o : List UInt8} {p : Nat} (h : p + 3 ≤ o.length) : (o.drop p).take 3 = [o.getD p 0, o.getD (p + 1) 0, o.getD (p + 2) 0] := by
  rw [List.getD_eq_getElem?_getD, List.getD_eq_getElem?_getD, List.getD_eq_getElem?_getD, List.getElem?_eq_getElem (by omega), List.getElem?_eq_getElem (by omega), List.getElem?_eq_getElem (by omega)]
  rw [List.drop_eq_getElem_cons (by omega), List.drop_eq_getElem_cons (by omega), List.drop_eq_getElem_cons (by omega)]
  rfl
theorem key3 {o : List UInt8} {p a : Nat} (hp : p < a) (ha : a + 3 ≤ o.length) : (((o.drop p).take (p + 3 - p) == (o.drop a).take (a + 3 - a)) = true) ↔ (p + 3 ≤ o.length ∧ keyAt o p = keyAt o a) := by
  rw [show p + 3 - p = 3 by omega, show a + 3 - a = 3 by omega, take3 ha, take3 (by omega), beq_iff_eq]
  unfold keyAt
  have b1 := (o.getD p 0).toNat_lt
  have b2 := (o.getD (p + 1) 0).toNat_lt
  have b3 := (o.getD (p + 2) 0).toNat_lt
  have c1 := (o.getD a 0).toNat_lt
  have c2 := (o.getD (a + 1) 0).toNat_lt
  have c3 := (o.getD (a + 2) 0).toNat_lt
  constructor
  · intro e
    have e1 := (List.cons.inj e).1
    have e2 := (List.cons.inj (List.cons.inj e).2).1
    have e3 := (List.cons.inj (List.cons.inj (List.cons.inj e).2).2).1
    rw [e1, e2, e3]
    exact ⟨by omega, rfl⟩
  · rintro ⟨-, e⟩
    have e1 : (o.getD p 0).toNat = (o.getD a 0).toNat := by omega
    have e2 : (o.getD (p + 1) 0).toNat = (o.getD (a + 1) 0).toNat := by omega
    have e3 : (o.getD (p + 2) 0).toNat = (o.getD (a + 2) 0).toNat := by omega
    rw [UInt8.toNat_inj.mp e1, UInt8.toNat_inj.mp e2, UInt8.toNat_inj.mp e3]
theorem walkS_law {o : List UInt8} {a mb : Nat} (ha : a + 3 ≤ o.length) : ∀ m k, m ≤ a → walkS o (keyAt o a) a mb m k = (((List.range m).map (fun j => m - 1 - j)).filter (sameS o a mb)).take k
  | 0, k, _ => by cases k <;> rfl
  | m + 1, k, hm => by
    have ih := fun k => walkS_law (mb := mb) ha m k (by omega)
    have e : (List.range (m + 1)).map (fun j => m + 1 - 1 - j) = m :: (List.range m).map (fun j => m - 1 - j) := by
      rw [List.range_succ_eq_map, List.map_cons, List.map_map]
      congr 1
      refine List.map_congr_left fun j hj => ?_
      simp only [Function.comp]; omega
    have far : mb < a - m → ((List.range m).map (fun j => m - 1 - j)).filter (sameS o a mb) = [] := fun hf => by
      rw [List.filter_eq_nil_iff]
      intro p hp
      obtain ⟨j, hj, rfl⟩ := List.mem_map.mp hp
      rw [List.mem_range] at hj
      unfold sameS
      rw [Bool.and_eq_true, decide_eq_true_eq]
      omega
    rw [e, List.filter_cons]
    unfold walkS
    have ks := key3 (o := o) (p := m) (a := a) (by omega) ha
    by_cases hk : m + 3 ≤ o.length ∧ keyAt o m = keyAt o a
    · rw [if_pos hk]
      by_cases hf : mb < a - m
      · rw [if_pos (.inr hf), far hf]
        have : sameS o a mb m = false := by unfold sameS; rw [decide_eq_false (by omega)]; rfl
        rw [this]; simp
      · have : sameS o a mb m = true := by unfold sameS; rw [decide_eq_true (by omega), ks.mpr hk]; rfl
        rw [this]
        cases k with
        | zero => rw [if_pos (.inl rfl)]; rfl
        | succ k => rw [if_neg (by omega), if_pos rfl, List.take_succ_cons, ih]; rfl
    · rw [if_neg hk, ih]
      have : sameS o a mb m = false := by
        unfold sameS
        rw [Bool.eq_false_iff.mpr (fun h => hk (ks.mp h)), Bool.and_false]
      rw [this]; rfl
theorem placesS_law (o : List UInt8) (a mb k : Nat) : placesS o a mb k = if ((o.drop a).take (a + 3 - a)).length = 3 then (((List.range a).map (fun j => a - 1 - j)).filter (sameS o a mb)).take k else [] := by
  unfold placesS
  have hl : ((o.drop a).take (a + 3 - a)).length = min 3 (o.length - a) := by rw [List.length_take, List.length_drop]; omega
  by_cases h : a + 3 ≤ o.length
  · rw [if_pos h, if_pos (by omega), walkS_law h a k (Nat.le_refl _)]
  · rw [if_neg h, if_neg (by omega)]
noncomputable def PlJ (L : Addr) (l : List (Str × Value)) (o : List UInt8) (a mb : Nat) (es : List Entry) (i : Nat) (ys : List Value) (ms : List Entry) : Prop :=
  IntsAre ys ((((List.range i).map (fun j => a - 1 - j)).filter (sameS o a mb)).map Int.ofNat) ∧ ms = (L, OLoc l) :: es
section
variable {w : World} {σ : Shared} {A : Around} {E : Value → Heap → Nat → Prop} {h : Heap} {t n : Nat} {Q : Value → Heap → Nat → Prop}
set_option maxHeartbeats 4000000 in
theorem law_common_ {o : List UInt8} {b a k : Nat} {i₁ i₂ i₃ : Int} {y₀ y₁ y₂ y₃ : Tok} (G : Gl w h) (hA : Room A (n + 1)) (hz : o.length ≤ 1000) (hb : b < a) (e₁ : i₁ = b) (e₂ : i₂ = a) (e₃ : i₃ = k)
    (q : ∀ h' t' u, h.StaysIn h' → Q (.int (comm o b a k) u) h' t') :
    W (cx w σ) A (call (.ref 259) [.bytes o.toArray y₀, .int i₁ y₁, .int i₂ y₂, .int i₃ y₃]) Q E h t := by
  subst e₁ e₂ e₃
  refine callF0 (binds := [("octets", _), ("back", _), ("at", _), ("most_length", _)]) (G.X 259 _ (by rfl)) (by rfl) (by rfl) (by rfl) hA G.lim (codeRec_of G.X (by kernel_rfl)) (BindsTo.of_eq rfl) (by decide) (locs rfl) rfl rfl rfl rfl rfl ?_
  clear hA
  rintro A env h₀ t₀ hA N - H -
  dsimp only at N
  refine Xs.assign H (P := IsI 0) (by walk_at "ev") N (by kernel_rfl) rfl ?_
  rintro v h₁ t₁ ⟨u₁, rfl⟩ H₁
  refine Xs.while (fun m g' ms' => g' = h ∧ ∃ (i : Nat) (u : Tok), m = k - i ∧ i ≤ k ∧ comm o b a k = i + comm o (b + i) (a + i) (k - i) ∧
     ms' = [(env.locals, OLoc [("length", .int i u), ("octets", .bytes o.toArray y₀), ("back", .int b y₁), ("at", .int a y₂), ("most_length", .int k y₃)])]) k ⟨rfl, 0, u₁, rfl, Nat.zero_le _, (by simp), rfl⟩ (H₁.weaken 0 rfl (OLoc.sub (by walk_at "ls"))) ?_
  rintro m g ms ⟨rfl, i, u, rfl, hi, hc, rfl⟩
  refine ⟨decide ((i : Int) < k) && (decide ((a : Int) + i < o.length) && (((o.getD (b + i) 0).toNat : Int) == ((o.getD (a + i) 0).toNat : Int))),
    .all (.and (.ints (by walk_at "ev") (by walk_at "ev") rfl rfl) fun _ => .and (.ints (by walk_at "ev") (EvI.lenY (by walk_at "ev") (by walk_at "ev") hz rfl) rfl rfl) fun hlt => .and1 (.ints (.octet (n := b + i) (by walk_at "ev") (by walk_at "ev") (by omega) ?x1 hz rfl) (.octet (n := a + i) (by walk_at "ev") (by walk_at "ev") (by omega) ?x2 hz rfl) rfl rfl)), ?_, ?_⟩
  case x1 => rw [decide_eq_true_eq] at hlt; omega
  case x2 => rw [decide_eq_true_eq] at hlt; omega
  · intro hb' h₃ t₃ H₃
    rw [Bool.and_eq_true, Bool.and_eq_true, decide_eq_true_eq, decide_eq_true_eq, u8_int, decide_eq_true_eq] at hb'
    refine Xs.assign H₃ (P := IsI (i + 1)) (by walk_at "ev") N (by kernel_rfl) rfl ?_
    rintro v h₄ t₄ ⟨u₄, rfl⟩ H₄
    refine Xs.nil ⟨k - (i + 1), g, _, by omega, ⟨rfl, i + 1, u₄, rfl, by omega, ?_, rfl⟩, H₄.weaken 0 rfl (OLoc.sub (by walk_at "ls"))⟩
    rw [hc, show k - i = (k - (i + 1)) + 1 by omega]
    conv => lhs; unfold comm
    rw [if_pos ⟨by omega, hb'.2.2⟩, Nat.add_assoc b i 1, Nat.add_assoc a i 1]; omega
  · intro hb' h₃ t₃ H₃
    refine Xs.ret H₃ (P := IsI i) (by walk_at "ev") ?_
    rintro v h₄ t₄ ⟨u₄, rfl⟩ H₄
    have : comm o b a k = i := by
      rw [hc]
      by_cases hk : i < k
      · by_cases ho : a + i < o.length
        · rw [show k - i = (k - (i + 1)) + 1 by omega]
          unfold comm
          rw [if_neg (by
            intro hh
            rw [u8_int, decide_eq_true hh.2, decide_eq_true (show (i : Int) < k by omega), decide_eq_true (show (a : Int) + i < o.length by omega)] at hb'
            cases hb')]
          rfl
        · rw [comm_out _ _ _ _ (by omega)]; rfl
      · have : k - i = 0 := by omega
        rw [this]; rfl
    rw [← this]
    exact q h₄ t₄ u₄ H₄.base
set_option maxHeartbeats 4000000 in
theorem law_places_ {o : List UInt8} {yo : Tok} {i₂ i₃ i₄ : Int} (a mb k : Nat) {y₂ y₃ y₄ : Tok} (G : Gl w h) (hA : Room A (n + 2)) (hz : o.length ≤ 800) (ha : a ≤ 800) (e₂ : i₂ = a) (e₃ : i₃ = mb) (e₄ : i₄ = k)
    (q : ∀ r h' t' vs, Led h [(r, OList vs)] h' → IntsAre vs ((placesS o a mb k).map Int.ofNat) → Q (.ref r) h' t') :
    W (cx w σ) A (call (.ref 252) [.bytes o.toArray yo, .int i₂ y₂, .int i₃ y₃, .int i₄ y₄]) Q E h t := by
  subst e₂ e₃ e₄
  refine callC2 (ms := []) (cs := fun L => [("word", L + 4), ("most_back", L + 3), ("at", L + 2), ("octets", L + 1)]) (ll := [("tries", .int k y₄)])
    (es := fun L => [(L + 4, OCell none), (L + 3, OCell (some (.int mb y₃))), (L + 2, OCell (some (.int a y₂))), (L + 1, OCell (some (.bytes o.toArray yo)))])
    (binds := [("octets", _), ("at", _), ("most_back", _), ("tries", _)]) (G.X 252 _ (by rfl)) (by rfl) (by rfl) (by rfl) hA G.lim (codeRec_of G.X (by kernel_rfl)) (BindsTo.of_eq rfl) (by rfl) (fun L => by rfl) (by rfl) ?_ (fun L => by rfl) (fun L => by show List.Nodup [("word" : Str), "most_back", "at", "octets"]; decide) rfl rfl rfl rfl rfl ?_
  · exact ll_of (by rintro p hp; simp only [List.mem_cons, List.not_mem_nil, or_false] at hp; rcases hp with rfl; rfl)
  clear hA
  rintro A env h₀ t₀ hA N NC H
  dsimp only at N NC
  obtain ⟨g, hg, H₁, fz, -⟩ := Led.split [(env.locals, _), (env.locals + 4, _)] H
  have c3 : g.IsCell (env.locals + 3) (some (.int mb y₃)) := fz (env.locals + 3, OCell (some (.int mb y₃))) (by simp)
  have c2 : g.IsCell (env.locals + 2) (some (.int a y₂)) := fz (env.locals + 2, OCell (some (.int a y₂))) (by simp)
  have c1 : g.IsCell (env.locals + 1) (some (.bytes o.toArray yo)) := fz (env.locals + 1, OCell (some (.bytes o.toArray yo))) (by simp)
  replace G := G.keeps hg
  have q' : ∀ r h' t' vs, Led g [(r, OList vs)] h' → IntsAre vs ((placesS o a mb k).map Int.ofNat) → Q (.ref r) h' t' := fun r h' t' vs H P => q r h' t' vs (H.stays hg) P
  clear H fz hg q
  refine Xs.assignE (EvV.w (EvY.slice (a := a) (b := a + 3) (EvX.bytes (by walk_at "ev")) (by walk_at "ev") (i := (a : Int)) (j := (a : Int) + 3) (by walk_at "ev") rfl (by omega) (by omega)) H₁ ?_) rfl
  rintro _ h₂ t₂ ⟨yw, rfl⟩ H₂
  refine store_cell 1 H₂ N (by kernel_rfl) (d := env.locals + 4) (by rw [NC]; rfl) rfl fun h₃ H₃ => ?_
  dsimp only [List.set] at H₃
  obtain ⟨g', hg', H₄, fz, -⟩ := Led.split [(env.locals, _)] H₃
  have c4 : g'.IsCell (env.locals + 4) (some (.bytes ((o.drop a).take (a + 3 - a)).toArray yw)) := fz (env.locals + 4, OCell (some (.bytes ((o.drop a).take (a + 3 - a)).toArray yw))) (by simp)
  replace G := G.keeps hg'
  replace c1 := c1.keeps hg'
  replace c2 := c2.keeps hg'
  replace c3 := c3.keeps hg'
  have q'' : ∀ r h' t' vs, Led g' [(r, OList vs)] h' → IntsAre vs ((placesS o a mb k).map Int.ofNat) → Q (.ref r) h' t' := fun r h' t' vs H P => q' r h' t' vs (H.stays hg') P
  clear H₁ H₂ H₃ fz hg' q'
  generalize g' = g at *
  refine Xs.comp (g := g) (cl := [("word", env.locals + 4), ("octets", env.locals + 1), ("most_back", env.locals + 3), ("at", env.locals + 2)]) (n := a) (P := fun i v => IsI ((a : Int) - 1 - i) v)
    (PlJ env.locals [("tries", .int k y₄)] o a mb []) (by rw [NC]; rfl) (by decide) rfl (by decide) rfl N (by omega) ?he ?turn (by kernel_rfl) (swaps_comp N (by kernel_rfl) (by kernel_rfl)) ?fin (fun _ => rfl)
  case he =>
    exact rangeD_ (m := a) hA.quiet H₄ (EvX.blt (bn_range G) N (by kernel_rfl) (by kernel_rfl)) (i := (a : Int) - 1) (j := -1) (k := -1) (by walk_at "ev") (by walk_at "ev") (by walk_at "ev") rfl rfl rfl (by omega) rfl rfl rfl fun it h₅ t₅ H₅ ok => ⟨_, ⟨.nil, rfl⟩, H₅, ok⟩
  case turn =>
    rintro i ys g' ms v h₅ t₅ Cd cenv ecenv Nc hi kg ⟨hI, rfl⟩ ⟨u, rfl⟩ H₅
    have hcc : cenv.cells = ([("word", env.locals + 4), ("octets", env.locals + 1), ("most_back", env.locals + 3), ("at", env.locals + 2)] : List (Str × Addr)) := by rw [ecenv]; rfl
    replace c1 := c1.keeps kg
    replace c2 := c2.keeps kg
    replace c3 := c3.keeps kg
    replace c4 := c4.keeps kg
    have step : sameS o a mb (a - 1 - i) = (decide ((a : Int) - ((a : Int) - 1 - i) ≤ mb) && ((o.drop (a - 1 - i)).take (a - 1 - i + 3 - (a - 1 - i)) == (o.drop a).take (a + 3 - a))) := by
      unfold sameS
      congr 1
      rw [decide_eq_decide]; omega
    refine tests_one H₅ (b := sameS o a mb (a - 1 - i)) (step ▸ .all (.and (.ints (by walk_at "ev") (by walk_at "ev") rfl rfl) fun _ => .and1 (.cmp (EvY.slice (a := a - 1 - i) (b := a - 1 - i + 3) (EvX.bytes (by walk_at "ev")) (i := (a : Int) - 1 - i) (by walk_at "ev") (j := (a : Int) - 1 - i + 3) (by walk_at "ev") (by omega) (by omega) (by omega)) (EvX.bytes (by walk_at "ev")) CmpOk.eqY rfl))) ?_
    have snoc : ∀ ys', IntsAre ys' (((((List.range i).map (fun j => a - 1 - j)).filter (sameS o a mb)).map Int.ofNat) ++ if sameS o a mb (a - 1 - i) then [((a : Int) - 1 - i)] else []) → PlJ env.locals [("tries", .int k y₄)] o a mb [] (i + 1) ys' [(env.locals, OLoc [("tries", .int k y₄)])] := by
      intro ys' h
      refine ⟨?_, rfl⟩
      rw [List.range_succ, List.map_append, List.filter_append, List.map_append]
      cases hs : sameS o a mb (a - 1 - i) with
      | true =>
        rw [hs, if_pos rfl] at h
        have e : List.map Int.ofNat (List.filter (sameS o a mb) (List.map (fun j => a - 1 - j) [i])) = [((a : Int) - 1 - i)] := by
          rw [List.map_cons, List.filter_cons, hs, if_pos rfl]
          show [((a - 1 - i : Nat) : Int)] = _
          congr 1; omega
        rw [e]; exact h
      | false =>
        rw [hs, if_neg (by decide)] at h
        have e : List.map Int.ofNat (List.filter (sameS o a mb) (List.map (fun j => a - 1 - j) [i])) = [] := by
          rw [List.map_cons, List.filter_cons, hs, if_neg (by decide)]; rfl
        rw [e]; exact h
    intro h₆ t₆ H₆
    refine ⟨_, H₆, fun hb => ?_, fun hb => ?_⟩
    · refine EvV.w (P := IsI ((a : Int) - 1 - i)) (by walk_at "ev") H₆ ?_
      rintro _ h₇ t₇ ⟨u₇, rfl⟩ H₇
      refine ⟨_, H₇.weaken 0 rfl (OLoc.sub LocSub.nil), snoc _ ?_⟩
      rw [hb, if_pos rfl]
      exact hI.append (.cons _ _ .nil)
    · refine snoc _ ?_
      rw [hb, if_neg (by decide), List.append_nil]
      exact hI
  case fin =>
    rintro ys ms ⟨hI, rfl⟩ hys
    refine ⟨_, _, rfl, fun D h₅ t₅ H₅ => ?_⟩
    refine Xs.retE (ite_ H₅ (b := decide ((((o.drop a).take (a + 3 - a)).length : Int) = 3)) (.ints (EvI.lenY (by walk_at "ev") (EvX.bytes (by walk_at "ev")) (by simp; omega) rfl) (by walk_at "ev") rfl rfl) ?_ ?_)
    · intro hb h₆ t₆ H₆
      rw [decide_eq_true_eq] at hb
      refine takeL_ (n := k) H₆ (by walk_at "ev") (fun _ H => isList_of (H.at 1 rfl)) (i := (k : Int)) (by walk_at "ev") rfl (by omega) fun r h₇ t₇ H₇ => q'' r h₇ t₇ _ ((H₇.cut 2).cut 1) ?_
      rw [placesS_law, if_pos (by omega), List.map_take]
      exact hI.take k
    · intro hb h₆ t₆ H₆
      rw [decide_eq_false_iff_not] at hb
      refine list_ H₆ .nil (fun vs r => by rw [r]; exact Nat.zero_le _) fun vs r h₇ t₇ e H₇ => q'' r h₇ t₇ _ ((H₇.cut 2).cut 1) ?_
      rw [placesS_law, if_neg (by omega), e]
      exact .nil
end
end
section
noncomputable def OPair (x y : Int) (o : Obj) : Prop := ∃ u u', OTup [.int x u, .int y u'] o
section
variable {c : Cx} {A : Around} {env : Env} {g : Heap} {ms : List Entry} {ns : List (Str × NameKind)} {E : Value → Heap → Nat → Prop} {h : Heap} {t : Nat} {rest : List Stmt} {l la : List (Str × Value)} {pos p p' : Pos} {x y id : Str}
theorem EvI.subCall0 {value slice : Expr} {m m' : Int} (hv : ∀ (Q : Value → Heap → Nat → Prop) (E : Value → Heap → Nat → Prop) (h : Heap) (t : Nat), Led g ms h → (∀ r h' t', Led g ((r, OPair m m') :: ms) h' → Q (.ref r) h' t') → W c A (eval value env) Q E h t)
    (hs : ∀ r, EvI c A env g ((r, OPair m m') :: ms) slice 0) (hp : notSlice slice = true) : EvI c A env g ms (.Subscript value slice pos) m := fun Q E h t H k => by
  refine .of (Subscript_ (cps (hv _ E h t H fun r h₁ t₁ H₁ => cps (hs r _ E h₁ t₁ H₁ fun i h₂ t₂ H₂ p₂ => ?_))))
  obtain ⟨u, rfl⟩ := p₂
  obtain ⟨o, ho, v, v', ht⟩ := H₂.at 0 rfl
  exact item_tupleT (s := c.S h₂ t₂) (x := .int m v) (j := 0) (isTup_of ⟨o, ho, ht⟩) (by omega) (by omega) rfl rfl ⟨h₂, t₂, rfl, k _ h₂ t₂ H₂.tail (isI _ _)⟩ (subscripted_of hp _ _)
theorem EvI.pair0 {value slice : Expr} {r : Addr} {m m' : Int} (j : Nat) (hv : EvX c A env g ms value (.ref r)) (hs : EvI c A env g ms slice 0) (hj : ms[j]? = some (r, OPair m m')) (hp : notSlice slice = true) : EvI c A env g ms (.Subscript value slice pos) m :=
  EvV.subscr hv hs fun Q E h t o x H e₁ ⟨u, e₂⟩ k => by
    subst e₁ e₂
    obtain ⟨o, ho, v, v', ht⟩ := H.at j hj
    exact .of (item_tupleT (s := c.S h t) (x := .int m v) (j := 0) (isTup_of ⟨o, ho, ht⟩) (by omega) (by omega) rfl rfl ⟨h, t, rfl, k _ h t H (isI _ _)⟩ (subscripted_of hp _ _))
theorem OPair.of {m m' : Int} {u u' : Tok} (o : Obj) : OTup [.int m u, .int m' u'] o → OPair m m' o := fun h => ⟨u, u', h⟩
end
theorem Led.pairOf {g h : Heap} {ms : List Entry} {a : Addr} {x y : Int} (H : Led g ms h) (i : Nat) (e : ms[i]? = some (a, OPair x y)) : ∃ u u', Led g (ms.set i (a, OTup [.int x u, .int y u'])) h :=
  let ⟨o, ho, u, u', ht⟩ := H.at i e
  ⟨u, u', H.put i e (Heap.SameBut.refl a h) ⟨o, ho, ht⟩⟩
theorem Led.join1 {g h h' : Heap} {ms : List Entry} {r : Addr} {P : Obj → Prop} (H : Led g ms h) (Hn : Led h [(r, P)] h') : Led g ((r, P) :: ms) h' :=
  (H.ext Hn.base).add (H.notin (Hn.off 0 rfl)) (by
    cases e : g.get? r with
    | none => rfl
    | some o => have := H.base _ _ e; rw [Hn.off 0 rfl] at this; cases this) (Hn.at 0 rfl)
end
section
inductive LMJ (L : Addr) (l : List (Str × Value)) (o : List UInt8) (a ml : Nat) (ps : List Nat) (i : Nat) (ms : List Entry) : Prop
  | mk (b : Addr) (h1 : ms = [(L, OLoc (("best", .ref b) :: l)), (b, OPair (bestS o a ml (ps.take i)).1 (bestS o a ml (ps.take i)).2)]) : LMJ L l o a ml ps i ms
inductive LMM (g : Heap) (L : Addr) (l : List (Str × Value)) (o : List UInt8) (a ml : Nat) (ps : List Nat) (i : Nat) (h : Heap) (t : Nat) : Prop
  | mk (ms : List Entry) (h1 : LMJ L l o a ml ps i ms) (h2 : Led g ms h) : LMM g L l o a ml ps i h t
noncomputable def PlP (ps : List Nat) (i : Nat) (v : Value) : Prop := ∃ p, ps[i]? = some p ∧ IsI p v
theorem plP_of {vs : List Value} {ps : List Nat} (hi : IntsAre vs (ps.map Int.ofNat)) {i : Nat} {v : Value} (e : vs[i]? = some v) : PlP ps i v := by
  obtain ⟨m, u, rfl, e'⟩ := hi.at i v e
  rw [List.getElem?_map] at e'
  cases hp : ps[i]? with
  | none => rw [hp] at e'; cases e'
  | some p => rw [hp] at e'; cases e'; exact ⟨p, hp, isI _ _⟩
noncomputable def Bds (h : Heap) (bd : Addr) (mb ml k : Nat) : Prop := ∃ u₁ u₂ u₃, IsTup h bd [.int mb u₁, .int ml u₂, .int k u₃].toArray
theorem Bds.keeps {h h' : Heap} {bd : Addr} {mb ml k : Nat} (B : Bds h bd mb ml k) (s : h.StaysIn h') : Bds h' bd mb ml k := let ⟨a, b, d, e⟩ := B; ⟨a, b, d, IsTup.keeps e s⟩
section
variable {c : Cx} {A : Around} {env : Env} {g : Heap} {ms : List Entry} {pos : Pos} {value slice : Expr} {bd : Addr} {mb ml k : Nat}
theorem EvI.bd0 (hv : EvX c A env g ms value (.ref bd)) (hs : EvI c A env g ms slice 0) (B : Bds g bd mb ml k) (hp : notSlice slice = true) : EvI c A env g ms (.Subscript value slice pos) mb := let ⟨_, _, _, e⟩ := B; .tupG (n := 0) hv hs e rfl rfl (Nat.le_of_ble_eq_true rfl) hp
theorem EvI.bd1 (hv : EvX c A env g ms value (.ref bd)) (hs : EvI c A env g ms slice 1) (B : Bds g bd mb ml k) (hp : notSlice slice = true) : EvI c A env g ms (.Subscript value slice pos) ml := let ⟨_, _, _, e⟩ := B; .tupG (n := 1) hv hs e rfl rfl (Nat.le_of_ble_eq_true rfl) hp
theorem EvI.bd2 (hv : EvX c A env g ms value (.ref bd)) (hs : EvI c A env g ms slice 2) (B : Bds g bd mb ml k) (hp : notSlice slice = true) : EvI c A env g ms (.Subscript value slice pos) k := let ⟨_, _, _, e⟩ := B; .tupG (n := 2) hv hs e rfl rfl (Nat.le_of_ble_eq_true rfl) hp
end
section
variable {w : World} {σ : Shared} {A : Around} {E : Value → Heap → Nat → Prop} {h : Heap} {t n : Nat} {Q : Value → Heap → Nat → Prop}
set_option maxHeartbeats 4000000 in
theorem law_match_ {o : List UInt8} {yo : Tok} {i₁ : Int} {bd : Addr} (a mb ml k : Nat) {y₁ : Tok} (G : Gl w h) (hA : Room A (n + 3)) (hz : o.length ≤ 800) (ha : a ≤ 800) (e₁ : i₁ = a) (B : Bds h bd mb ml k)
    (q : ∀ r h' t', Led h [(r, OPair (bestS o a ml (placesS o a mb k)).1 (bestS o a ml (placesS o a mb k)).2)] h' → Q (.ref r) h' t') :
    W (cx w σ) A (call (.ref 266) [.bytes o.toArray yo, .int i₁ y₁, .ref bd]) Q E h t := by
  subst e₁
  obtain ⟨ps, hps⟩ : ∃ ps, ps = placesS o a mb k := ⟨_, rfl⟩
  have hlt : ∀ p ∈ ps, p < a := fun p hp => by rw [hps] at hp; exact (placesS_lt hp).1
  have hpI : ∀ vs, IntsAre vs ((placesS o a mb k).map Int.ofNat) → IntsAre vs (ps.map Int.ofNat) := fun vs h => hps ▸ h
  rw [← hps] at q
  clear hps
  refine callF0 (binds := [("octets", _), ("at", _), ("bounds", _)]) (G.X 266 _ (by rfl)) (by rfl) (by rfl) (by rfl) hA G.lim (codeRec_of G.X (by kernel_rfl)) (BindsTo.of_eq rfl) (by decide) (locs rfl) rfl rfl rfl rfl rfl ?_
  clear hA
  rintro A env h₀ t₀ hA N - H -
  dsimp only at N
  refine Xs.assignE (pair_ H (P := IsI 0) (R := IsI 0) (by walk_at "ev") (by walk_at "ev") rfl rfl ?_) rfl
  rintro _ _ b₀ h₁ t₁ ⟨u₁, rfl⟩ ⟨u₂, rfl⟩ H₁
  refine store_loc H₁.swap N (by kernel_rfl) fun h₂ H₂ => ?_
  replace H₂ := H₂.weaken 1 rfl OPair.of
  dsimp only [List.set] at H₂
  refine Xs.for (g := h) (n := ps.length) (P := PlP ps) (LMJ env.locals [("octets", .bytes o.toArray yo), ("at", .int a y₁), ("bounds", .ref bd)] o a ml ps) ?he ?turn ?fin (fun _ => rfl)
  case he =>
    refine call_fn (fa := 252) H₂ (EvX.glob (gn_law_places G) N (by kernel_rfl) (by kernel_rfl)) ⟨_, _, G.X 252 _ (by rfl), rfl⟩ (.cons (P := IsY o) (by walk_at "ev") (.cons (P := IsI a) (by walk_at "ev") (.cons (P := IsI mb) (EvI.bd0 (by walk_at "ev") (by walk_at "ev") B rfl) (.cons (P := IsI k) (EvI.bd2 (by walk_at "ev") (by walk_at "ev") B rfl) .nil rfl) rfl) rfl) rfl) rfl ?_
    refine argsA_yiii fun v₁ v₂ v₃ v₄ h₅ t₅ H₅ => ?_
    refine law_places_ a mb k (G.keeps H₅.base) hA hz ha rfl rfl rfl fun r h₆ t₆ vs H₆ hi => ?_
    have hi' := hpI _ hi
    refine iter_list hA.quiet (H₅.ext H₆.base) (isList_of (H₆.at 0 rfl)) (H₅.notin (H₆.off 0 rfl)) fun it h₇ t₇ H₇ ok => ⟨_, ⟨b₀, rfl⟩, H₇.weaken 0 rfl (OLoc.sub (by walk_at "ls")), ok.mono ?_ fun i v e => plP_of hi' e⟩
    rw [hi'.length]; simp
  case turn =>
    rintro i g' ms v h₅ t₅ hi kg' ⟨b, rfl⟩ ⟨p, hp, ⟨u, rfl⟩⟩ H₅
    have pl := hlt p (List.mem_of_getElem? hp)
    have G' := G.keeps kg'
    have B' := B.keeps kg'
    refine assign_loc H₅ N (by kernel_rfl) fun h₆ t₆ H₆ => ?_
    refine Xs.assign H₆ (P := IsI (comm o p a ml)) (EvV.fn (fa := 259) (EvX.glob (gn_law_common G') N (by kernel_rfl) (by kernel_rfl)) ⟨_, _, G'.X 259 _ (by rfl), rfl⟩ (.cons (P := IsY o) (by walk_at "ev") (.cons (P := IsI p) (by walk_at "ev") (.cons (P := IsI a) (by walk_at "ev") (.cons (P := IsI ml) (EvI.bd1 (by walk_at "ev") (by walk_at "ev") B' rfl) .nil rfl) rfl) rfl) rfl) rfl ?_) N (by kernel_rfl) rfl ?_
    · rintro Q E h t
      refine argsB_yiii fun v₁ v₂ v₃ v₄ H q => ?_
      exact law_common_ (G'.keeps H.base) hA (by omega) pl rfl rfl rfl fun h' t' u k => q _ h' t' k (isI _ _)
    rintro v h₇ t₇ ⟨u₇, rfl⟩ H₇
    have snoc := bestS_snoc o a ml (ps.take i) p
    have tk : ps.take (i + 1) = ps.take i ++ [p] := by rw [List.take_add_one, hp]; rfl
    rw [← tk] at snoc
    refine Xs.iteJ (LMM g' env.locals [("octets", .bytes o.toArray yo), ("at", .int a y₁), ("bounds", .ref bd)] o a ml ps (i + 1)) H₇
      (b := decide (((bestS o a ml (ps.take i)).1 : Int) < comm o p a ml)) (.ints (by walk_at "ev") (EvI.pair0 1 (by walk_at "ev") (by walk_at "ev") rfl rfl) rfl rfl) ?_ ?_ ?_
    · intro hb h₈ t₈ H₈
      rw [decide_eq_true_eq] at hb
      rw [if_pos (by omega)] at snoc
      refine Xs.assignE (pair_ H₈ (P := IsI (comm o p a ml)) (R := IsI ((a - p : Nat) : Int)) (by walk_at "ev") (EvV.eq (n := (a : Int) - p) (by walk_at "ev") (by omega)) rfl rfl ?_) rfl
      rintro _ _ b' h₉ t₉ ⟨u₈, rfl⟩ ⟨u₉, rfl⟩ H₉
      refine store_loc H₉.swap N (by kernel_rfl) fun h' H' => Mid.nil ⟨_, ⟨b', rfl⟩, ?_⟩
      rw [snoc]
      exact ((H'.cut 2).weaken 0 rfl (OLoc.sub (by walk_at "ls"))).weaken 1 rfl OPair.of
    · intro hb h₈ t₈ H₈
      rw [decide_eq_false_iff_not] at hb
      rw [if_neg (by omega)] at snoc
      refine Mid.nil ⟨_, ⟨b, rfl⟩, ?_⟩
      rw [snoc]
      exact H₈.weaken 0 rfl (OLoc.sub (by walk_at "ls"))
    · rintro h₈ t₈ ⟨ms, j, H₈⟩
      exact Xs.nil ⟨ms, j, H₈⟩
  case fin =>
    rintro ms h₅ t₅ ⟨b, rfl⟩ H₅
    rw [List.take_length] at H₅
    refine Xs.ret H₅ (P := fun v => v = .ref b) (by walk_at "ev") ?_
    rintro _ h₆ t₆ rfl H₆
    exact q b h₆ t₆ H₆.tail
end
end
section
theorem comm_step {o : List UInt8} {p a k : Nat} (ha : a < o.length) (he : o.getD p 0 = o.getD a 0) : comm o p a (k + 1) = comm o (p + 1) (a + 1) k + 1 := by
  conv => lhs; unfold comm
  rw [if_pos ⟨ha, he⟩]
theorem comm_three {o : List UInt8} {a mb ml k p : Nat} (h3 : 3 ≤ ml) (hp : p ∈ placesS o a mb k) : 3 ≤ comm o p a ml := by
  have ha : a + 3 ≤ o.length := by
    unfold placesS at hp
    split at hp
    · assumption
    · cases hp
  have hl := (placesS_lt hp).1
  rw [placesS_law] at hp
  split at hp
  · have hs : sameS o a mb p = true := (List.mem_filter.mp (List.mem_of_mem_take hp)).2
    unfold sameS at hs
    rw [Bool.and_eq_true] at hs
    have hk := (key3 hl ha).mp hs.2
    have e := beq_iff_eq.mp hs.2
    rw [show p + 3 - p = 3 by omega, show a + 3 - a = 3 by omega, take3 ha, take3 hk.1] at e
    have e1 := (List.cons.inj e).1
    have e2 := (List.cons.inj (List.cons.inj e).2).1
    have e3 := (List.cons.inj (List.cons.inj (List.cons.inj e).2).2).1
    obtain ⟨m, rfl⟩ : ∃ m, ml = m + 3 := ⟨ml - 3, by omega⟩
    rw [show m + 3 = (m + 2) + 1 from rfl, comm_step (by omega) e1, show m + 2 = (m + 1) + 1 from rfl, comm_step (by omega) e2, comm_step (by omega) (by rw [show p + 1 + 1 = p + 2 from rfl, show a + 1 + 1 = a + 2 from rfl]; exact e3)]
    omega
  · cases hp
theorem best_fold {o : List UInt8} {a ml : Nat} : ∀ (l : List Nat) (b : Nat × Nat), (∀ p ∈ l, 3 ≤ comm o p a ml) → (b = (0, 0) ∨ 3 ≤ b.1) →
    let r := l.foldl (fun b p => if b.1 < comm o p a ml then (comm o p a ml, a - p) else b) b
    r = (0, 0) ∨ 3 ≤ r.1
  | [], b, _, hb => hb
  | p :: l, b, hl, hb => by
    rw [List.foldl_cons]
    refine best_fold l _ (fun q hq => hl q (List.mem_cons_of_mem _ hq)) ?_
    have h3 := hl p (List.mem_cons_self ..)
    split
    · exact .inr h3
    · exact hb
theorem best_match {o : List UInt8} {a mb ml k : Nat} (h3 : 3 ≤ ml) : bestS o a ml (placesS o a mb k) = matchS o a mb ml k := by
  have h := best_fold (o := o) (a := a) (ml := ml) (placesS o a mb k) (0, 0) (fun p hp => comm_three h3 hp) (.inl rfl)
  unfold matchS
  dsimp only
  by_cases hb : 3 ≤ (bestS o a ml (placesS o a mb k)).1
  · rw [if_pos hb]
  · rw [if_neg hb]
    exact h.resolve_right hb
noncomputable def lawG (o : List UInt8) (mb ml k : Nat) (lz : Bool) : Nat → Nat → List Part
  | 0, _ => []
  | f + 1, a => if a < o.length then (if (matchS o a mb ml k).1 = 0 ∨ (lz = true ∧ (matchS o a mb ml k).1 < (matchS o (a + 1) mb ml k).1) then .lit (o.getD a 0).toNat :: lawG o mb ml k lz f (a + 1)
    else .mat (matchS o a mb ml k).1 (matchS o a mb ml k).2 :: lawG o mb ml k lz f (a + (matchS o a mb ml k).1)) else []
theorem lawG_greedy (o : List UInt8) (mb ml k : Nat) : ∀ f a, lawG o mb ml k false f a = greedyS o mb ml k f a
  | 0, _ => rfl
  | f + 1, a => by
    rw [greedyS_succ]
    unfold lawG
    split
    · by_cases h : (matchS o a mb ml k).1 = 0
      · rw [if_pos (.inl h), if_neg (by omega), lawG_greedy]
      · rw [if_neg (by simp [h]), if_pos (by omega), lawG_greedy]
    · rfl
theorem lawG_lazy (o : List UInt8) (mb ml k : Nat) : ∀ f a, lawG o mb ml k true f a = lazyS o mb ml k f a
  | 0, _ => rfl
  | f + 1, a => by
    rw [lazyS_succ]
    unfold lawG
    split
    · by_cases h : (matchS o a mb ml k).1 = 0 ∨ (matchS o a mb ml k).1 < (matchS o (a + 1) mb ml k).1
      · rw [if_pos (by simpa using h), if_neg (by omega), lawG_lazy]
      · rw [if_neg (by simpa using h), if_pos (by omega), lawG_lazy]
    · rfl
theorem lawG_succ (o : List UInt8) (mb ml k : Nat) (lz : Bool) (f a : Nat) : lawG o mb ml k lz (f + 1) a = if a < o.length then (if (matchS o a mb ml k).1 = 0 ∨ (lz = true ∧ (matchS o a mb ml k).1 < (matchS o (a + 1) mb ml k).1) then .lit (o.getD a 0).toNat :: lawG o mb ml k lz f (a + 1)
    else .mat (matchS o a mb ml k).1 (matchS o a mb ml k).2 :: lawG o mb ml k lz f (a + (matchS o a mb ml k).1)) else [] := rfl
theorem lawG_end (o : List UInt8) (mb ml k : Nat) (lz : Bool) (f a : Nat) (h : o.length ≤ a) : lawG o mb ml k lz f a = [] := by
  cases f with
  | zero => rfl
  | succ f => rw [lawG_succ, if_neg (by omega)]
inductive LGJ (g : Heap) (L pr : Addr) (l : List (Str × Value)) (o : List UInt8) (F : Nat → Nat → List Part) (mm : Nat) (g' : Heap) (ms : List Entry) : Prop
  | mk (h0 : g' = g) (f a : Nat) (vs : List Value) (ts : List Entry) (ps : List Part) (u : Tok) (h1 : mm = o.length - a) (h2 : a ≤ o.length) (h3 : o.length - a ≤ f) (h4 : ps.length ≤ a) (h5 : ps ++ F f a = F o.length 0) (h6 : Parts ts vs ps)
    (h7 : ms = (L, OLoc (("at", .int a u) :: ("parts", .ref pr) :: l)) :: (pr, OList vs) :: ts) : LGJ g L pr l o F mm g' ms
section
variable {w : World} {σ : Shared} {A : Around} {E : Value → Heap → Nat → Prop} {h : Heap} {t n : Nat} {Q : Value → Heap → Nat → Prop}
set_option maxHeartbeats 4000000 in
theorem law_greedy_ {o : List UInt8} {yo : Tok} {bd : Addr} {lz : Bool} (mb ml k : Nat) (G : Gl w h) (hA : Room A (n + 4)) (hz : o.length ≤ 790) (h3 : 3 ≤ ml) (B : Bds h bd mb ml k)
    (q : ∀ r h' t' vs ts, Led h ((r, OList vs) :: ts) h' → Parts ts vs (lawG o mb ml k lz o.length 0) → Q (.ref r) h' t') :
    W (cx w σ) A (call (.ref 273) [.bytes o.toArray yo, .ref bd, .bool lz]) Q E h t := by
  refine callF0 (binds := [("octets", _), ("bounds", _), ("is_lazy", _)]) (G.X 273 _ (by rfl)) (by rfl) (by rfl) (by rfl) hA G.lim (codeRec_of G.X (by kernel_rfl)) (BindsTo.of_eq rfl) (by decide) (locs rfl) rfl rfl rfl rfl rfl ?_
  clear hA
  rintro A env h₀ t₀ hA N - H -
  dsimp only at N
  have call_ : ∀ {g : Heap} {ms : List Entry} {es : List Expr} {pos p : Pos} {i : Int} (a : Nat) (Q : Value → Heap → Nat → Prop) (E : Value → Heap → Nat → Prop) (h₁ : Heap) (t : Nat), h.StaysIn g → a ≤ 800 → i = a →
      (EvAs (cx w σ) A env g ms pos es (ACons (IsY o) (ACons (IsI i) (ACons (fun v => v = .ref bd) fun l => l = [])))) → es ≠ [] → es.all noStar = true → Led g ms h₁ →
      (∀ r h' t', Led g ((r, OPair (matchS o a mb ml k).1 (matchS o a mb ml k).2) :: ms) h' → Q (.ref r) h' t') → W (cx w σ) A (eval (.Call (.Name "_law_match" p) es [] pos) env) Q E h₁ t := by
    rintro g ms es pos p i a Q E h₁ t kg ha rfl he hne hs H q
    cases es with
    | nil => exact absurd rfl hne
    | cons e es =>
      have G' := G.keeps kg
      refine call_fn (fa := 266) H (EvX.glob (gn_law_match G') N (by kernel_rfl) (by kernel_rfl)) ⟨_, _, G'.X 266 _ (by rfl), rfl⟩ he hs ?_
      refine argsA_yix fun v₁ v₂ h₅ t₅ H₅ => ?_
      refine law_match_ a mb ml k (G'.keeps H₅.base) hA (by omega) ha rfl ((B.keeps kg).keeps H₅.base) fun r h₆ t₆ H₆ => q r h₆ t₆ ?_
      rw [best_match h3] at H₆
      exact H₅.join1 H₆
  refine Xs.assignNil H N (by kernel_rfl) fun pr h₁ t₁ H₁ => ?_
  refine Xs.assign H₁ (P := IsI 0) (by walk_at "ev") N (by kernel_rfl) rfl ?_
  rintro v h₂ t₂ ⟨u₂, rfl⟩ H₂
  obtain ⟨F, hF⟩ : ∃ F, F = lawG o mb ml k lz := ⟨_, rfl⟩
  rw [← hF] at q
  refine Xs.while (LGJ h env.locals pr [("octets", .bytes o.toArray yo), ("bounds", .ref bd), ("is_lazy", .bool lz)] o F) o.length
    ⟨rfl, o.length, 0, [], [], [], u₂, rfl, Nat.zero_le _, by omega, Nat.zero_le _, rfl, .nil, rfl⟩ (H₂.weaken 0 rfl (OLoc.sub (by walk_at "ls"))) ?_
  clear H H₁ H₂
  rintro mm g ms ⟨rfl, f, a, vs, ts, ps, u, rfl, ha, hf, hpa, hps, hP, rfl⟩
  have hlen := hP.length
  refine ⟨decide ((a : Int) < o.length), .ints (by walk_at "ev") (EvI.lenY (by walk_at "ev") (by walk_at "ev") (by omega) rfl) rfl rfl, ?_, ?_⟩
  · intro hb h₁ t₁ H₁
    rw [decide_eq_true_eq] at hb
    obtain ⟨f, rfl⟩ : ∃ f', f = f' + 1 := ⟨f - 1, by omega⟩
    have room := matchS_room o a mb ml k
    have hF1 : F (f + 1) a = if (matchS o a mb ml k).1 = 0 ∨ (lz = true ∧ (matchS o a mb ml k).1 < (matchS o (a + 1) mb ml k).1) then .lit (o.getD a 0).toNat :: F f (a + 1) else .mat (matchS o a mb ml k).1 (matchS o a mb ml k).2 :: F f (a + (matchS o a mb ml k).1) := by
      rw [hF, lawG_succ, if_pos (by omega)]
    rw [hF1] at hps
    clear hF hF1
    refine Xs.assignE (call_ a _ _ h₁ t₁ (stays_refl _) (by omega) rfl (.cons (by walk_at "ev") (.cons (by walk_at "ev") (.cons (P := fun v => v = .ref bd) (by walk_at "ev") .nil rfl) rfl) rfl) (by simp) rfl H₁ fun r h₃ t₃ H₃ => ?_) rfl
    refine store_loc (H₃.mv 1) N (by kernel_rfl) fun h₄ H₄ => ?_
    dsimp only [ins] at H₄
    generalize matchS o a mb ml k = m at *
    generalize hm' : matchS o (a + 1) mb ml k = m' at *
    refine Xs.ite H₄ (b := decide ((m.1 : Int) = 0) || (lz && decide ((m.1 : Int) < m'.1)))
      (.all (.or (.ints (EvI.pair0 1 (by walk_at "ev") (by walk_at "ev") rfl rfl) (by walk_at "ev") rfl rfl) fun _ => .or1 (.all (.and (.boolVal (by walk_at "ev") rfl) fun _ => .and1 (.ints (EvI.subCall0 (m' := m'.2) (fun Q E h t H q => ?c1) (fun r => by walk_at "ev") rfl) (EvI.pair0 1 (by walk_at "ev") (by walk_at "ev") rfl rfl) rfl rfl))))) ?_ ?_
    case c1 =>
      refine call_ (i := (a : Int) + 1) (a + 1) _ _ h t (stays_refl _) (by omega) (by omega) (.cons (by walk_at "ev") (.cons (by walk_at "ev") (.cons (P := fun v => v = .ref bd) (by walk_at "ev") .nil rfl) rfl) rfl) (by simp) rfl H ?_
      rw [hm']
      exact q
    · intro hb2 h₅ t₅ H₅
      rw [Bool.or_eq_true, Bool.and_eq_true, decide_eq_true_eq, decide_eq_true_eq] at hb2
      rw [if_pos (hb2.imp (fun h => by omega) fun h => ⟨h.1, by omega⟩)] at hps
      refine Xs.append 2 H₅ (by walk_at "ev") rfl (by omega) (P := IsI ((o.getD a 0).toNat)) (EvI.octet (n := a) (by walk_at "ev") (by walk_at "ev") rfl (by omega) (by omega) rfl) N ?_ rfl rfl
      rintro _ h₆ t₆ ⟨u₆, rfl⟩ H₆
      dsimp only [List.set] at H₆
      refine Xs.assign H₆ (P := IsI (a + 1)) (by walk_at "ev") N (by kernel_rfl) rfl ?_
      rintro _ h₇ t₇ ⟨u₇, rfl⟩ H₇
      refine Xs.nilT (Xs.nil ⟨o.length - (a + 1), g, _, by omega, ⟨rfl, f, a + 1, (vs ++ [Value.int (o.getD a 0).toNat u₆] : List Value), ts, ps ++ [.lit (o.getD a 0).toNat], u₇, rfl, by omega, by omega, ?_, ?_, ?_, rfl⟩, (H₇.cut 1).weaken 0 rfl (OLoc.sub (by walk_at "ls"))⟩)
      · simp; omega
      · rw [List.append_assoc]; exact hps
      · exact hP.snoc ⟨u₆, rfl⟩
    · intro hb2 h₅ t₅ H₅
      rw [← Bool.not_eq_true, Bool.or_eq_true, Bool.and_eq_true, decide_eq_true_eq, decide_eq_true_eq] at hb2
      have hm0 : m.1 ≠ 0 := fun h => hb2 (.inl (by omega))
      rw [if_neg (fun hh => hb2 (hh.imp (fun h => by omega) fun h => ⟨h.1, by omega⟩))] at hps
      obtain ⟨w₁, w₂, H₆⟩ := H₅.pairOf 1 rfl
      dsimp only [List.set] at H₆
      refine Xs.append 2 H₆ (by walk_at "ev") rfl (by omega) (P := fun v => v = .ref r) (by walk_at "ev") N ?_ rfl rfl
      rintro _ h₆ t₆ rfl H₆
      dsimp only [List.set] at H₆
      refine Xs.assign H₆ (P := IsI (a + m.1)) (EvI.add (by walk_at "ev") (EvI.tupL (i := 0) (n := 0) 1 (by walk_at "ev") (by walk_at "ev") rfl rfl rfl (Nat.le_of_ble_eq_true rfl) rfl)) N (by kernel_rfl) rfl ?_
      rintro _ h₇ t₇ ⟨u₇, rfl⟩ H₇
      refine Xs.nilT (Xs.nil ⟨o.length - (a + m.1), g, _, by omega, ⟨rfl, f, a + m.1, (vs ++ [Value.ref r] : List Value), (r, OTup [.int m.1 w₁, .int m.2 w₂]) :: ts, ps ++ [.mat m.1 m.2], u₇, rfl, by omega, by omega, ?_, ?_, ?_, rfl⟩, ((H₇.up 1 rfl).mv 2).weaken 0 rfl (OLoc.sub (by walk_at "ls"))⟩)
      · simp; omega
      · rw [List.append_assoc]; exact hps
      · exact (hP.mono fun e he => List.mem_cons_of_mem _ he).snoc ⟨r, w₁, w₂, rfl, List.mem_cons_self ..⟩
  · intro hb h₁ t₁ H₁
    rw [decide_eq_false_iff_not] at hb
    have hFe : F f a = [] := by rw [hF, lawG_end _ _ _ _ _ _ _ (by omega)]
    rw [hFe, List.append_nil] at hps
    refine Xs.ret H₁ (P := fun v => v = .ref pr) (by walk_at "ev") ?_
    rintro _ h₂ t₂ rfl H₂
    exact q pr h₂ t₂ vs ts H₂.tail (hps ▸ hP)
end
end
section
noncomputable def LPr (h : Heap) (pt : Addr) (li di : List Int) : Prop := ∃ la ld vl vd, IsTup h pt [.ref la, .ref ld].toArray ∧ h.IsList la vl.toArray ∧ IntsAre vl li ∧ h.IsList ld vd.toArray ∧ IntsAre vd di ∧ 262 ≤ li.length ∧ 9 ≤ di.length ∧ li.length ≤ 100000 ∧ di.length ≤ 100000
theorem LPr.keeps {h h' : Heap} {pt : Addr} {li di : List Int} (P : LPr h pt li di) (k : h.StaysIn h') : LPr h' pt li di :=
  let ⟨la, ld, vl, vd, a, b, d, e, f, r⟩ := P
  ⟨la, ld, vl, vd, IsTup.keeps a k, stays_list k b, d, stays_list k e, f, r⟩
noncomputable def bks : List Value := (List.range 16).map fun i => .ref (224 + i)
theorem bks_at {w : World} {g : Heap} (G : Gl w g) : IsTup g 240 bks.toArray := ⟨_, G.X 240 _ (by rfl), rfl, _, rfl⟩
theorem backs_ {w : World} {g : Heap} (G : Gl w g) : ∀ d : Nat, 1 ≤ d → d < 17 → ∃ r u u', bks[d - 1]? = some (.ref r) ∧ IsTup g r [.int (backSym d) u, .int (backBits d) u'].toArray
  | 1, _, _ => ⟨_, _, _, rfl, _, G.X 224 _ (by rfl), rfl, _, rfl⟩
  | 2, _, _ => ⟨_, _, _, rfl, _, G.X 225 _ (by rfl), rfl, _, rfl⟩
  | 3, _, _ => ⟨_, _, _, rfl, _, G.X 226 _ (by rfl), rfl, _, rfl⟩
  | 4, _, _ => ⟨_, _, _, rfl, _, G.X 227 _ (by rfl), rfl, _, rfl⟩
  | 5, _, _ => ⟨_, _, _, rfl, _, G.X 228 _ (by rfl), rfl, _, rfl⟩
  | 6, _, _ => ⟨_, _, _, rfl, _, G.X 229 _ (by rfl), rfl, _, rfl⟩
  | 7, _, _ => ⟨_, _, _, rfl, _, G.X 230 _ (by rfl), rfl, _, rfl⟩
  | 8, _, _ => ⟨_, _, _, rfl, _, G.X 231 _ (by rfl), rfl, _, rfl⟩
  | 9, _, _ => ⟨_, _, _, rfl, _, G.X 232 _ (by rfl), rfl, _, rfl⟩
  | 10, _, _ => ⟨_, _, _, rfl, _, G.X 233 _ (by rfl), rfl, _, rfl⟩
  | 11, _, _ => ⟨_, _, _, rfl, _, G.X 234 _ (by rfl), rfl, _, rfl⟩
  | 12, _, _ => ⟨_, _, _, rfl, _, G.X 235 _ (by rfl), rfl, _, rfl⟩
  | 13, _, _ => ⟨_, _, _, rfl, _, G.X 236 _ (by rfl), rfl, _, rfl⟩
  | 14, _, _ => ⟨_, _, _, rfl, _, G.X 237 _ (by rfl), rfl, _, rfl⟩
  | 15, _, _ => ⟨_, _, _, rfl, _, G.X 238 _ (by rfl), rfl, _, rfl⟩
  | 16, _, _ => ⟨_, _, _, rfl, _, G.X 239 _ (by rfl), rfl, _, rfl⟩
  | 0, h, _ => absurd h (by omega)
  | d + 17, _, h => absurd h (by omega)
section
variable {w : World} {σ : Shared} {A : Around} {E : Value → Heap → Nat → Prop} {h : Heap} {t n : Nat} {Q : Value → Heap → Nat → Prop}
set_option maxHeartbeats 4000000 in
theorem law_price_ {pt : Addr} {v : Value} {p : Part} {li di : List Int} (G : Gl w h) (hA : Room A (n + 1)) (P : LPr h pt li di) (hp : PAt h v p) (hok : partOk li p)
    (q : ∀ h' t' u, h.StaysIn h' → Q (.int (partP li di p) u) h' t') :
    W (cx w σ) A (call (.ref 280) [.ref pt, v]) Q E h t := by
  obtain ⟨la, ld, vl, vd, htp, hla, hil, hld, hid, hll, hdl, hlz, hdz⟩ := P
  refine callF0 (binds := [("prices", _), ("part", _)]) (G.X 280 _ (by rfl)) (by rfl) (by rfl) (by rfl) hA G.lim (codeRec_of G.X (by kernel_rfl)) (BindsTo.of_eq rfl) (by decide) (locs rfl) rfl rfl rfl rfl rfl ?_
  clear hA
  rintro A env h₀ t₀ hA N - H -
  dsimp only at N
  refine Xs.unpackC hA (EvV.w (P := fun v => v = .ref pt) (by walk_at "ev") H ?_) rfl rfl rfl
  rintro _ h₁ t₁ rfl H₁
  refine ⟨pt, _, rfl, IsTup.keeps htp H₁.base, rfl, fun h₂ k₂ => ?_⟩
  refine InOrder.loc (H₁.ext k₂) N (by kernel_rfl) fun h₃ t₃ H₃ => InOrder.loc H₃ N (by kernel_rfl) fun h₄ t₄ H₄ => InOrder.nil ?_
  clear H H₁ H₃ k₂
  refine Xs.ite H₄ (b := !isMat p) (.not (Tst.boolVal (EvB.isTup (EvX.blt (bn_isinstance G) N (by kernel_rfl) (by kernel_rfl)) (by walk_at "ev") (EvX.blt (bn_tuple G) N (by kernel_rfl) (by kernel_rfl)) hp rfl) rfl)) ?_ ?_
  · intro hb h₅ t₅ H₅
    cases p with
    | mat ℓ d => cases hb
    | lit b =>
      obtain ⟨u, rfl⟩ := hp
      refine Xs.ret H₅ (P := IsI (or16 li b)) (EvI.or (EvI.gint b (by walk_at "ev") (i := (b : Int)) (by walk_at "ev") hla hil rfl hok hlz rfl) (by walk_at "ev")) ?_
      rintro v h₆ t₆ ⟨u₆, rfl⟩ H₆
      exact q h₆ t₆ u₆ H₆.base
  · intro hb h₅ t₅ H₅
    cases p with
    | lit b => cases hb
    | mat ℓ d =>
      obtain ⟨r, u, u', rfl, ht⟩ := hp
      obtain ⟨o3, o7, d1, d16⟩ := hok
      obtain ⟨rb, u₁, u₂, eb, hbt⟩ := backs_ G d d1 d16
      have hbs := backSym_lt d1 d16
      refine Xs.nilT (Xs.unpackC hA (EvV.w (P := fun v => v = .ref rb) (EvX.gtup (i := (d : Int) - 1) (n := d - 1) (EvX.glob (gn_law_BACKS G) N (by kernel_rfl) (by kernel_rfl)) (EvI.sub (EvI.tupG (i := 1) (n := 1) (by walk_at "ev") (by walk_at "ev") ht rfl rfl (Nat.le_of_ble_eq_true rfl) rfl) (by walk_at "ev")) (bks_at G) (by omega) eb (Nat.le_of_ble_eq_true rfl) rfl) H₅ ?_) rfl rfl rfl)
      rintro _ h₆ t₆ rfl H₆
      refine ⟨rb, _, rfl, IsTup.keeps hbt H₆.base, rfl, fun h₇ k₇ => ?_⟩
      refine InOrder.loc (H₆.ext k₇) N (by kernel_rfl) fun h₈ t₈ H₈ => InOrder.loc H₈ N (by kernel_rfl) fun h₉ t₉ H₉ => InOrder.nil ?_
      clear H₆ k₇ H₈ H₅ H₄
      refine Xs.ret H₉ (P := IsI (or16 li (254 + ℓ) + or16 di (backSym d) + backBits d)) (EvI.add (EvI.add
        (EvI.or (EvI.gint (254 + ℓ) (by walk_at "ev") (i := 254 + (ℓ : Int)) (EvI.add (by walk_at "ev") (EvI.tupG (i := 0) (n := 0) (by walk_at "ev") (by walk_at "ev") ht rfl rfl (Nat.le_of_ble_eq_true rfl) rfl)) hla hil (by omega) (by omega) hlz rfl) (by walk_at "ev"))
        (EvI.or (EvI.gint (backSym d) (by walk_at "ev") (i := (backSym d : Int)) (by walk_at "ev") hld hid rfl (by omega) hdz rfl) (by walk_at "ev"))) (by walk_at "ev")) ?_
      rintro v h' t' ⟨u, rfl⟩ H'
      exact q h' t' u H'.base
end
end
section
theorem Led.thaw {g g' h h' : Heap} {keep drop ms : List Entry} (H : Led g (keep ++ drop) h) (hg : g.StaysIn g') (fz : ∀ q ∈ drop, ∃ o, g'.get? q.1 = some o ∧ q.2 o) (H' : Led g' ms h') : Led g (ms ++ drop) h' := by
  refine ⟨stays_trans hg H'.base, fun q hq => ?_, ?_⟩
  · rcases List.mem_append.mp hq with hq | hq
    · refine ⟨?_, (H'.own q hq).2⟩
      cases e : g.get? q.1 with
      | none => rfl
      | some o => have := hg _ _ e; rw [(H'.own q hq).1] at this; cases this
    · obtain ⟨o, h1, h2⟩ := fz q hq
      exact ⟨(H.own q (List.mem_append_right _ hq)).1, o, H'.base _ _ h1, h2⟩
  · have nd := H.nd
    rw [List.map_append, List.nodup_append] at nd ⊢
    refine ⟨H'.nd, nd.2.1, fun a ha b hb e => ?_⟩
    subst e
    obtain ⟨q, hq, rfl⟩ := List.mem_map.mp hb
    obtain ⟨o, h1, h2⟩ := fz q hq
    have := H'.offm ha
    rw [h1] at this; cases this
section
variable {c : Cx} {A : Around} {env : Env} {g : Heap} {ms : List Entry} {ns : List (Str × NameKind)} {E : Value → Heap → Nat → Prop} {h : Heap} {t : Nat} {rest : List Stmt} {l la : List (Str × Value)} {pos p p' : Pos} {x y id : Str}
theorem pairE_ {e₁ e₂ : Expr} {k : Nat} {Q : Value → Heap → Nat → Prop}
    (he : W c A (eval e₁ env) (fun v₁ h₁ t₁ => W c A (eval e₂ env) (fun v₂ h₂ t₂ => ∃ g ms, Led g ms h₂ ∧ ∀ a h' t', Led g ((a, OTup [v₁, v₂]) :: ms) h' → Q (.ref a) h' t') E h₁ t₁) E h t) (s₁ : noStar e₁ = true) (s₂ : noStar e₂ = true) :
    W c A (eval (.Tuple [e₁, e₂] k pos) env) Q E h t := by
  refine .of (Tuple_ ?_)
  rw [starEach_cons s₁, backTo_cons, starEach_cons s₂, backTo_cons]
  refine spliced_cons (cps (he.mono (fun v₁ h₁ t₁ q => spliced_cons (cps (q.mono (fun v₂ h₂ t₂ q => spliced_nil ?_) fun _ _ _ e => e))) fun _ _ _ e => e))
  obtain ⟨g, ms, H, q⟩ := q
  exact wpAny_newObj_type ⟨_, t₂, rfl, q _ _ t₂ (H.push (P := OTup [v₁, v₂]) { cls := .type "tuple", data := .seq [v₁, v₂].toArray } rfl ⟨rfl, 0, rfl⟩)⟩ (by
    show 2 ≤ sizeLine
    rw [sizeLine_eq]; omega)
theorem list1E_ {e : Expr} {Q : Value → Heap → Nat → Prop} (he : W c A (eval e env) (fun v h₁ t₁ => ∃ g ms, Led g ms h₁ ∧ ∀ a h' t', Led g ((a, OList [v]) :: ms) h' → Q (.ref a) h' t') E h t) (s : noStar e = true) : W c A (eval (.List [e] pos) env) Q E h t := by
  refine .of (List_ ?_)
  rw [starEach_cons s, backTo_cons]
  refine spliced_cons (cps (he.mono (fun v h₁ t₁ q => spliced_nil ?_) fun _ _ _ e => e))
  obtain ⟨g, ms, H, q⟩ := q
  exact wpAny_newObj_type ⟨_, t₁, rfl, q _ _ t₁ (H.push (P := OList [v]) { cls := .type "list", data := .seq [v].toArray } rfl ⟨0, rfl⟩)⟩ (by
    show 1 ≤ sizeLine
    rw [sizeLine_eq]; omega)
theorem Tst.neNil {e : Expr} {a : Addr} {vs : List Value} (he : EvX c A env g ms e (.ref a)) (hj : ∀ h, Led g ms h → h.IsList a vs.toArray) (hu : A.units < cLine) : Tst c A env g ms (.Compare e [.NotEq] [.List [] p] pos) (!vs.isEmpty) := fun Q E h t H k =>
  .of (wpAny_isTrue_Compare1 (cps (he _ E h t H fun x h₁ t₁ H₁ p₁ => cps (list_ H₁ .nil (fun vs r => by rw [r]; exact Nat.zero_le _) fun ws b h₂ t₂ r H₂ => by
    subst p₁ r
    have hl := hj h₂ H₂.tail
    have hb := isList_of (H₂.at 0 rfl)
    cases vs with
    | nil => exact PySem.SeqAt.RcNeAt.lists (s := c.S h₂ t₂) (e := fun _ => true) hl hb rfl hu (fun j h1 => absurd h1 (Nat.not_lt_zero _)) _ _ _ _ (wpAny_truthy_bool ⟨h₂, t₂, rfl, k h₂ t₂ H₂.tail⟩)
    | cons v vs => exact PySem.SeqAt.RcNeAt.lists_lengths (s := c.S h₂ t₂) hl hb rfl hu _ _ _ _ (wpAny_truthy_bool ⟨h₂, t₂, rfl, k h₂ t₂ H₂.tail⟩)))) rfl)
theorem Tst.eqNil {e : Expr} {a : Addr} {vs : List Value} (he : EvX c A env g ms e (.ref a)) (hj : ∀ h, Led g ms h → h.IsList a vs.toArray) (hu : A.units < cLine) : Tst c A env g ms (.Compare e [.Eq] [.List [] p] pos) vs.isEmpty := fun Q E h t H k =>
  .of (wpAny_isTrue_Compare1 (cps (he _ E h t H fun x h₁ t₁ H₁ p₁ => cps (list_ H₁ .nil (fun vs r => by rw [r]; exact Nat.zero_le _) fun ws b h₂ t₂ r H₂ => by
    subst p₁ r
    have hl := hj h₂ H₂.tail
    have hb := isList_of (H₂.at 0 rfl)
    cases vs with
    | nil => exact PySem.SeqAt.RcAt.lists (s := c.S h₂ t₂) (e := fun _ => true) hl hb rfl hu (fun j h1 => absurd h1 (Nat.not_lt_zero _)) _ _ _ _ (wpAny_truthy_bool ⟨h₂, t₂, rfl, k h₂ t₂ H₂.tail⟩)
    | cons v vs => exact PySem.SeqAt.RcAt.lists_lengths (s := c.S h₂ t₂) hl hb rfl hu _ _ _ _ (wpAny_truthy_bool ⟨h₂, t₂, rfl, k h₂ t₂ H₂.tail⟩)))) rfl)
end
end
section
theorem assign_cell {c : Cx} {A : Around} {env : Env} {g : Heap} {ms : List Entry} {ns : List (Str × NameKind)} {E : Value → Heap → Nat → Prop} {h : Heap} {t : Nat} {p : Pos} {x : Str} {v : Value} {d : Addr} {v₀ : Option Value} {Q : Unit → Heap → Nat → Prop} (i : Nat) (H : Led g ms h) (N : EnvN env ns) (hx : ns.lookup x = some .cell) (hc : env.cells.lookup x = some d) (hi : ms[i]? = some (d, OCell v₀))
    (k : ∀ h', Led g (ms.set i (d, OCell (some v))) h' → Q () h' t) : W c A (PySem.assign (.Name x p) env v) Q E h t :=
  .of (assign_Name (cps (store_cell i H N hx hc hi fun h' H' => ⟨h', t, rfl, k h' H'⟩)))
noncomputable abbrev Sx := Int × List Part
noncomputable abbrev Cho := Int × Nat × Part
noncomputable def lcStep (li di : List Int) (o : List UInt8) (a ml : Nat) (ps : List Nat) (tt : List Sx) (c : Cho) (ℓ : Nat) : Cho :=
  match ps.filter (fun p => decide (ℓ ≤ comm o p a ml)) with
  | [] => c
  | p :: _ => if mPrice li di ℓ (a - p) + (tt.getD (ℓ - 1) (0, [])).1 < c.1 then (mPrice li di ℓ (a - p) + (tt.getD (ℓ - 1) (0, [])).1, ℓ, .mat ℓ (a - p)) else c
noncomputable def lcCh (li di : List Int) (o : List UInt8) (a ml : Nat) (ps : List Nat) (tt : List Sx) : Nat → Cho
  | 0 => (or16 li (o.getD a 0).toNat + (tt.getD 0 (0, [])).1, 1, .lit (o.getD a 0).toNat)
  | j + 1 => lcStep li di o a ml ps tt (lcCh li di o a ml ps tt j) (3 + j)
noncomputable def lcRow (c : Cho) (tt : List Sx) : Sx := (c.1, c.2.2 :: (tt.getD (c.2.1 - 1) (0, [])).2)
noncomputable def lcS (o : List UInt8) (li di : List Int) (mb ml k : Nat) : Nat → List Sx
  | 0 => [(0, [])]
  | i + 1 => lcRow (lcCh li di o (o.length - (i + 1)) ml (placesS o (o.length - (i + 1)) mb k) (lcS o li di mb ml k i) (ml - 2)) (lcS o li di mb ml k i) :: lcS o li di mb ml k i
theorem lcS_len (o : List UInt8) (li di : List Int) (mb ml k : Nat) : ∀ i, (lcS o li di mb ml k i).length = i + 1
  | 0 => rfl
  | i + 1 => by unfold lcS; rw [List.length_cons, lcS_len o li di mb ml k i]
theorem lcS_parts (o : List UInt8) (li di : List Int) (mb ml k : Nat) : ∀ i j, ((lcS o li di mb ml k i).getD j (0, [])).2.length ≤ i
  | 0, 0 => Nat.le_refl _
  | 0, _ + 1 => Nat.le_refl _
  | i + 1, 0 => Nat.succ_le_succ (lcS_parts o li di mb ml k i _)
  | i + 1, j + 1 => Nat.le_succ_of_le (lcS_parts o li di mb ml k i j)
theorem lcCh_in (li di : List Int) (o : List UInt8) (a ml : Nat) (ps : List Nat) (tt : List Sx) (ha : a < o.length) : ∀ j, 1 ≤ (lcCh li di o a ml ps tt j).2.1 ∧ (lcCh li di o a ml ps tt j).2.1 ≤ o.length - a
  | 0 => ⟨Nat.le_refl _, by show 1 ≤ _; omega⟩
  | j + 1 => by
    have ih := lcCh_in li di o a ml ps tt ha j
    unfold lcCh lcStep
    split
    · exact ih
    · rename_i p r e
      have hp : p ∈ ps.filter (fun p => decide (3 + j ≤ comm o p a ml)) := by rw [e]; exact List.mem_cons_self ..
      have := (List.mem_filter.mp hp).2
      rw [decide_eq_true_eq] at this
      have room := comm_room o ml p a
      split
      · exact ⟨by show 1 ≤ 3 + j; omega, by show 3 + j ≤ _; omega⟩
      · exact ih
inductive SfxIn (es : List Entry) (v : Value) (s : Sx) : Prop
  | mk (r lr : Addr) (u : Tok) (ws : List Value) (h1 : v = .ref r) (h2 : (r, OTup [.int s.1 u, .ref lr]) ∈ es) (h3 : (lr, OList ws) ∈ es) (h4 : Parts es ws s.2) : SfxIn es v s
noncomputable def Sfxs (es : List Entry) (vs : List Value) (ss : List Sx) : Prop := vs.length = ss.length ∧ ∀ i, i < ss.length → ∃ v, vs[i]? = some v ∧ SfxIn es v (ss.getD i (0, []))
theorem SfxIn.mono {es es' : List Entry} {v : Value} {s : Sx} (S : SfxIn es v s) (k : ∀ e ∈ es, e ∈ es') : SfxIn es' v s := let ⟨r, lr, u, ws, a, b, d, e⟩ := S; ⟨r, lr, u, ws, a, k _ b, k _ d, e.mono k⟩
theorem Sfxs.cons {es es' : List Entry} {v : Value} {vs : List Value} {s : Sx} {ss : List Sx} (S : Sfxs es vs ss) (k : ∀ e ∈ es, e ∈ es') (hv : SfxIn es' v s) : Sfxs es' (v :: vs) (s :: ss) :=
  ⟨congrArg Nat.succ S.1, fun i hi => by
    cases i with
    | zero => exact ⟨v, rfl, hv⟩
    | succ i => let ⟨w, a, b⟩ := S.2 i (Nat.lt_of_succ_lt_succ hi); exact ⟨w, a, b.mono k⟩⟩
inductive LCJ (L cat cl pt : Addr) (S : Nat → List Sx) (i : Nat) (ms : List Entry) : Prop
  | mk (sx : Addr) (svs : List Value) (es : List Entry) (va vl : Option Value) (h1 : (sx, OList svs) ∈ es) (h2 : Sfxs es svs (S i))
    (h3 : ms = (L, OLoc [("suffixes", .ref sx), ("prices", .ref pt)]) :: (cat, OCell va) :: (cl, OCell vl) :: es) : LCJ L cat cl pt S i ms
inductive LDJ (L cl : Addr) (l : List (Str × Value)) (ch : Nat → Cho) (j : Nat) (ms : List Entry) : Prop
  | mk (c : Addr) (vl : Option Value) (pv : Value) (u u' : Tok) (es : List Entry) (h1 : PIn es pv (ch j).2.2)
    (h2 : ms = (L, OLoc (("chosen", .ref c) :: l)) :: (cl, OCell vl) :: (c, OTup [.int (ch j).1 u, .int (ch j).2.1 u', pv]) :: es) : LDJ L cl l ch j ms
inductive LDM (g : Heap) (L cl : Addr) (l : List (Str × Value)) (ch : Nat → Cho) (j : Nat) (h : Heap) (t : Nat) : Prop
  | mk (ms : List Entry) (h1 : LDJ L cl l ch j ms) (h2 : Led g ms h) : LDM g L cl l ch j h t
noncomputable def LEJ (L : Addr) (l : List (Str × Value)) (o : List UInt8) (a ml ℓ : Nat) (ps : List Nat) (i : Nat) (ys : List Value) (ms : List Entry) : Prop :=
  IntsAre ys (((ps.take i).filter (fun p => decide (ℓ ≤ comm o p a ml))).map Int.ofNat) ∧ ms = [(L, OLoc l)]
section
variable {w : World} {σ : Shared} {A : Around} {E : Value → Heap → Nat → Prop} {h : Heap} {t n : Nat} {Q : Value → Heap → Nat → Prop}
set_option maxHeartbeats 8000000 in
theorem law_cheapest_ {o : List UInt8} {yo : Tok} {bd pt : Addr} {li di : List Int} (mb ml k : Nat) (G : Gl w h) (hA : Room A (n + 3)) (P : LPr h pt li di) (B : Bds h bd mb ml k) (hz : o.length ≤ 790) (h3 : 3 ≤ ml) (hml : ml < 8) (hmb : mb < 17)
    (q : ∀ r h' t' ts, Led h ts h' → SfxIn ts (.ref r) ((lcS o li di mb ml k o.length).getD 0 (0, [])) → Q (.ref r) h' t') :
    W (cx w σ) A (call (.ref 285) [.bytes o.toArray yo, .ref bd, .ref pt]) Q E h t := by
  refine callC2 (ms := []) (cs := fun L => [("length", L + 4), ("at", L + 3), ("bounds", L + 2), ("octets", L + 1)]) (ll := [("prices", .ref pt)])
    (es := fun L => [(L + 4, OCell none), (L + 3, OCell none), (L + 2, OCell (some (.ref bd))), (L + 1, OCell (some (.bytes o.toArray yo)))])
    (binds := [("octets", _), ("bounds", _), ("prices", _)]) (G.X 285 _ (by rfl)) (by rfl) (by rfl) (by rfl) hA G.lim (codeRec_of G.X (by kernel_rfl)) (BindsTo.of_eq rfl) (by rfl) (fun L => by rfl) (by rfl) ?_ (fun L => by rfl) (fun L => by show List.Nodup [("length" : Str), "at", "bounds", "octets"]; decide) rfl rfl rfl rfl rfl ?_
  · exact ll_of (by rintro p hp; simp only [List.mem_cons, List.not_mem_nil, or_false] at hp; rcases hp with rfl; rfl)
  clear hA
  rintro A env h₀ t₀ hA N NC H
  dsimp only at N NC
  obtain ⟨g, hg, H₁, fz, -⟩ := Led.split [(env.locals, _), (env.locals + 4, _), (env.locals + 3, _)] H
  have c2 : g.IsCell (env.locals + 2) (some (.ref bd)) := fz (env.locals + 2, OCell (some (.ref bd))) (by simp)
  have c1 : g.IsCell (env.locals + 1) (some (.bytes o.toArray yo)) := fz (env.locals + 1, OCell (some (.bytes o.toArray yo))) (by simp)
  replace G := G.keeps hg
  replace P := P.keeps hg
  replace B := B.keeps hg
  have q' : ∀ r h' t' ts, Led g ts h' → SfxIn ts (.ref r) ((lcS o li di mb ml k o.length).getD 0 (0, [])) → Q (.ref r) h' t' := fun r h' t' ts H P => q r h' t' ts (H.stays hg) P
  clear H fz hg q
  obtain ⟨S, hS⟩ : ∃ S, S = lcS o li di mb ml k := ⟨_, rfl⟩
  have hS0 : S 0 = [(0, [])] := by rw [hS]; rfl
  have hSl : ∀ i, (S i).length = i + 1 := fun i => by rw [hS]; exact lcS_len ..
  have hSp : ∀ i j, ((S i).getD j (0, [])).2.length ≤ i := fun i j => by rw [hS]; exact lcS_parts ..
  have hSS : ∀ i, S (i + 1) = lcRow (lcCh li di o (o.length - (i + 1)) ml (placesS o (o.length - (i + 1)) mb k) (S i) (ml - 2)) (S i) :: S i := fun i => by rw [hS]; rfl
  rw [← hS] at q'
  clear hS
  -- suffixes = [(0, [])]
  refine Xs.assignE (list1E_ (pairE_ (EvV.w (P := IsI 0) (by walk_at "ev") H₁ ?_) rfl rfl) rfl) rfl
  rintro _ h₁ t₁ ⟨u₁, rfl⟩ H₂
  refine list_ H₂ .nil (fun vs r => by rw [r]; exact Nat.zero_le _) fun vs lr h₂ t₂ r H₃ => ?_
  subst r
  refine ⟨_, _, H₃, fun r h₃ t₃ H₄ => ⟨_, _, H₄, fun sx h₄ t₄ H₅ => ?_⟩⟩
  refine store_loc (H₅.up 3 rfl) N (by kernel_rfl) fun h₅ H₆ => ?_
  dsimp only [List.eraseIdx] at H₆
  replace H₆ := ((H₆.up 4 rfl).up 5 rfl).up 2 rfl
  dsimp only [List.eraseIdx] at H₆
  clear H₁ H₂ H₃ H₄ H₅
  refine Xs.for (g := g) (n := o.length) (P := fun i v => IsI ((o.length : Int) - 1 - i) v) (LCJ env.locals (env.locals + 3) (env.locals + 4) pt S) ?he ?turn ?fin (fun _ => rfl)
  case he =>
    exact rangeD_ (m := o.length) hA.quiet H₆ (EvX.blt (bn_range G) N (by kernel_rfl) (by kernel_rfl)) (EvI.sub (EvI.lenY (by walk_at "ev") (EvX.bytes (by walk_at "ev")) (by omega) rfl) (by walk_at "ev")) (i := (o.length : Int) - 1) (j := -1) (k := -1) (by walk_at "ev") (by walk_at "ev") rfl rfl rfl (by omega) rfl rfl rfl
      fun it h₄ t₄ H₄ ok => ⟨_, ⟨sx, [.ref r], _, none, none, List.mem_cons_self .., ⟨by rw [hS0]; rfl, fun i hi => by
        rw [hS0] at hi ⊢
        have : i = 0 := by simpa using hi
        subst this
        exact ⟨_, rfl, r, lr, u₁, [], rfl, by simp, by simp, .nil⟩⟩, rfl⟩, H₄, ok⟩
  case fin =>
    rintro ms h₄ t₄ ⟨sx, svs, es, va, vl, hsx, hSs, rfl⟩ H₄
    obtain ⟨v, ev, sf⟩ := hSs.2 0 (by rw [hSl]; omega)
    have sf' := sf
    obtain ⟨r, lr, u, ws, rfl, -⟩ := sf
    refine Xs.ret H₄ (P := fun v => v = .ref r) (EvX.listAt (i := 0) (n := 0) (by walk_at "ev") (by walk_at "ev") (fun _ H => isList_of (H.mem (by simp [hsx]))) rfl ev (by rw [hSs.1, hSl]; omega) rfl) ?_
    rintro _ h₅ t₅ rfl H₅
    exact q' r h₅ t₅ _ H₅ (sf'.mono fun e he => by simp [he])
  case turn =>
    clear H₆
    rintro i g₀ ms v h₁ t₁ hi kg ⟨sx, svs, es, va, vl, hsx, hSs, rfl⟩ ⟨u, rfl⟩ H
    obtain ⟨a, ha⟩ : ∃ a, a = o.length - (i + 1) := ⟨_, rfl⟩
    rw [show (o.length : Int) - 1 - i = a by omega]
    have hSn := hSS i
    rw [← ha] at hSn
    refine assign_cell 1 H N (by kernel_rfl) (d := env.locals + 3) (by rw [NC]; rfl) rfl fun h₂ H₁ => ?_
    dsimp only [List.set] at H₁
    replace H₁ := (H₁.up 2 rfl).swap
    dsimp only [List.eraseIdx] at H₁
    obtain ⟨g₁, hg₁, H₂, fz, -⟩ := Led.split [(env.locals, _), (env.locals + 4, _)] H₁
    have c3 : g₁.IsCell (env.locals + 3) (some (.int a u)) := fz (env.locals + 3, OCell (some (.int a u))) (by simp)
    have fes : ∀ q ∈ es, ∃ o, g₁.get? q.1 = some o ∧ q.2 o := fun q hq => fz q (by simp [hq])
    have back₁ : ∀ {ms h}, Led g₁ ms h → Led g₀ (ms ++ (env.locals + 3, OCell (some (.int a u))) :: es) h := fun H => Led.thaw (keep := [(env.locals, OLoc [("suffixes", .ref sx), ("prices", .ref pt)]), (env.locals + 4, OCell vl)]) H₁ hg₁ fz H
    have kg₁ := stays_trans kg hg₁
    replace G := G.keeps kg₁
    replace P := P.keeps kg₁
    replace B := B.keeps kg₁
    replace c1 := c1.keeps kg₁
    replace c2 := c2.keeps kg₁
    have lsx : g₁.IsList sx svs.toArray := isList_of (fes _ hsx)
    have sfx : ∀ j, j < i + 1 → ∃ r lr u ws, svs[j]? = some (.ref r) ∧ IsTup g₁ r [.int ((S i).getD j (0, [])).1 u, .ref lr].toArray ∧ (∃ o, g₁.get? lr = some o ∧ OList ws o) ∧ Parts es ws ((S i).getD j (0, [])).2 := fun j hj => by
      obtain ⟨v, ev, r, lr, u, ws, rfl, hr, hlr, hP⟩ := hSs.2 j (by rw [hSl]; exact hj)
      exact ⟨r, lr, u, ws, ev, isTup_of (fes _ hr), fes _ hlr, hP⟩
    have svl : svs.length = i + 1 := hSs.1.trans (hSl i)
    obtain ⟨ps, hps⟩ : ∃ ps, ps = placesS o a mb k := ⟨_, rfl⟩
    have hpl : ∀ p ∈ ps, p < a ∧ a - p ≤ mb := fun p hp => by rw [hps] at hp; exact ⟨(placesS_lt hp).1, placesS_near hp⟩
    have hpI : ∀ vs, IntsAre vs ((placesS o a mb k).map Int.ofNat) → IntsAre vs (ps.map Int.ofNat) := fun vs h => hps ▸ h
    have psl : ps.length ≤ 1000 := by
      rw [hps, placesS_law]
      split
      · rw [List.length_take]
        refine Nat.le_trans (Nat.min_le_right _ _) (Nat.le_trans (List.length_filter_le _ _) ?_)
        rw [List.length_map, List.length_range]; omega
      · exact Nat.zero_le _
    rw [← hps] at hSn
    obtain ⟨ch, hch⟩ : ∃ ch, ch = lcCh li di o a ml ps (S i) := ⟨_, rfl⟩
    have ch0 : ch 0 = (or16 li (o.getD a 0).toNat + ((S i).getD 0 (0, [])).1, 1, .lit (o.getD a 0).toNat) := by rw [hch]; rfl
    have chS : ∀ j, ch (j + 1) = lcStep li di o a ml ps (S i) (ch j) (3 + j) := fun j => by rw [hch]; rfl
    have chI : ∀ j, 1 ≤ (ch j).2.1 ∧ (ch j).2.1 ≤ i + 1 := fun j => by
      have := lcCh_in li di o a ml ps (S i) (by omega) j
      rw [hch]; omega
    rw [← hch] at hSn
    clear hch hps H H₁ fz hg₁ kg kg₁ hSS hS0
    have hb8 := (o.getD a 0).toNat_lt
    -- chosen
    obtain ⟨r0, lr0, u0, ws0, e0, t0, -, -⟩ := sfx 0 (by omega)
    refine Xs.assignE (tup_ H₂ (.cons (P := IsI (or16 li (o.getD a 0).toNat + ((S i).getD 0 (0, [])).1)) (EvI.add (EvV.fn (fa := 280) (P := IsI (or16 li (o.getD a 0).toNat)) (EvX.glob (gn_law_price G) N (by kernel_rfl) (by kernel_rfl)) ⟨_, _, G.X 280 _ (by rfl), rfl⟩
        (.cons (P := fun v => v = .ref pt) (by walk_at "ev") (.cons (P := IsI (o.getD a 0).toNat) (EvI.octet (i := (a : Int)) (n := a) (EvX.bytes (by walk_at "ev")) (by walk_at "ev") rfl (by omega) (by omega) rfl) .nil rfl) rfl) rfl ?_)
        (EvI.tupG (i := 0) (n := 0) (EvX.gitem (i := 0) (n := 0) (by walk_at "ev") (by walk_at "ev") lsx rfl e0 (by omega) rfl) (by walk_at "ev") t0 rfl rfl (Nat.le_of_ble_eq_true rfl) rfl))
      (.cons (P := IsI 1) (by walk_at "ev") (.cons (P := IsI (o.getD a 0).toNat) (EvI.octet (i := (a : Int)) (n := a) (EvX.bytes (by walk_at "ev")) (by walk_at "ev") rfl (by omega) (by omega) rfl) .nil rfl) rfl) rfl) (fun vs r => by obtain ⟨_, _, rfl, _, _, _, rfl, _, _, _, rfl, _, rfl⟩ := r; exact Nat.le_of_ble_eq_true rfl) fun vs c₀ h₃ t₃ rv H₃ => ?_) rfl
    · rintro Q E h t
      refine argsB_xi fun v₁ H q => ?_
      exact law_price_ (p := .lit (o.getD a 0).toNat) (G.keeps H.base) hA (P.keeps H.base) ⟨_, rfl⟩ (by show _ < li.length; have := P; obtain ⟨_, _, _, _, _, _, _, _, _, h, _⟩ := this; omega) fun h' t' u k => q _ h' t' k (isI _ _)
    obtain ⟨_, _, rfl, ⟨w₁, rfl⟩, _, _, rfl, ⟨w₂, rfl⟩, _, _, rfl, ⟨w₃, rfl⟩, rfl⟩ := rv
    refine store_loc (H₃.up 1 rfl) N (by kernel_rfl) fun h₄ H₄ => ?_
    dsimp only [List.eraseIdx] at H₄
    clear H₂ H₃ t0 e0
    -- places
    refine Xs.assignE (call_fn (fa := 252) H₄ (EvX.glob (gn_law_places G) N (by kernel_rfl) (by kernel_rfl)) ⟨_, _, G.X 252 _ (by rfl), rfl⟩ (.cons (P := IsY o) (EvX.bytes (by walk_at "ev")) (.cons (P := IsI a) (by walk_at "ev") (.cons (P := IsI mb) (EvI.bd0 (by walk_at "ev") (by walk_at "ev") B rfl) (.cons (P := IsI k) (EvI.bd2 (by walk_at "ev") (by walk_at "ev") B rfl) .nil rfl) rfl) rfl) rfl) rfl ?_) rfl
    refine argsA_yiii fun v₁ v₂ v₃ v₄ h₅ t₅ H₅ => ?_
    refine law_places_ a mb k (G.keeps H₅.base) hA (by omega) (by omega) rfl rfl rfl fun pl h₆ t₆ pvs H₆ hi' => ?_
    have hpv := hpI _ hi'
    refine store_loc ((H₅.join1 H₆).up 1 rfl) N (by kernel_rfl) fun h₇ H₇ => ?_
    dsimp only [List.eraseIdx] at H₇
    replace H₇ := ((H₇.up 2 rfl).up 3 rfl).up 2 rfl
    dsimp only [List.eraseIdx] at H₇
    clear H₄ H₅ H₆ hpI hi'
    obtain ⟨g₂, hg₂, H₈, fz₂, -⟩ := Led.split [(env.locals, _), (env.locals + 4, _), (c₀, _)] H₇
    have lpl : g₂.IsList pl pvs.toArray := isList_of (fz₂ (pl, OList pvs) (by simp))
    have back₂ : ∀ {ms h}, Led g₂ ms h → Led g₀ ((ms ++ [(pl, OList pvs)]) ++ (env.locals + 3, OCell (some (.int a u))) :: es) h := fun H => back₁ (Led.thaw (keep := [(env.locals, OLoc [("places", .ref pl), ("chosen", .ref c₀), ("suffixes", .ref sx), ("prices", .ref pt)]), (env.locals + 4, OCell vl), (c₀, _)]) H₇ hg₂ fz₂ H)
    replace G := G.keeps hg₂
    replace P := P.keeps hg₂
    replace B := B.keeps hg₂
    replace c1 := c1.keeps hg₂
    replace c2 := c2.keeps hg₂
    replace c3 := c3.keeps hg₂
    replace lsx := stays_list hg₂ lsx
    replace sfx : ∀ j, j < i + 1 → ∃ r lr u ws, svs[j]? = some (.ref r) ∧ IsTup g₂ r [.int ((S i).getD j (0, [])).1 u, .ref lr].toArray ∧ (∃ o, g₂.get? lr = some o ∧ OList ws o) ∧ Parts es ws ((S i).getD j (0, [])).2 := fun j hj => by
      obtain ⟨r, lr, u, ws, a, b, ⟨o, d, d'⟩, e⟩ := sfx j hj
      exact ⟨r, lr, u, ws, a, IsTup.keeps b hg₂, ⟨o, hg₂ _ _ d, d'⟩, e⟩
    have osx : ∃ o, g₂.get? sx = some o ∧ OList svs o := let ⟨o, d, d'⟩ := fes _ hsx; ⟨o, hg₂ _ _ d, d'⟩
    clear back₁ H₇ fz₂ hg₂ fes
    refine Xs.for (g := g₂) (n := ml - 2) (P := fun j v => IsI ((3 + j : Nat) : Int) v) (LDJ env.locals (env.locals + 4) [("places", .ref pl), ("suffixes", .ref sx), ("prices", .ref pt)] ch) ?hi ?ti ?fi (fun _ => rfl)
    case hi =>
      refine range2_ (a := 3) (m := ml - 2) hA.quiet H₈ (EvX.blt (bn_range G) N (by kernel_rfl) (by kernel_rfl)) (i := 3) (j := (ml : Int) + 1) (by walk_at "ev") (EvI.add (EvI.bd1 (by walk_at "ev") (by walk_at "ev") B rfl) (by walk_at "ev")) rfl (by omega) (by omega) rfl rfl fun it h₉ t₉ H₉ ok => ⟨_, ⟨c₀, vl, .int (o.getD a 0).toNat w₃, w₁, w₂, [], ?_, ?_⟩, H₉.weaken 0 rfl (OLoc.sub (l' := [("chosen", .ref c₀), ("places", .ref pl), ("suffixes", .ref sx), ("prices", .ref pt)]) (by walk_at "ls")), ok⟩
      · rw [ch0]; exact ⟨w₃, rfl⟩
      · rw [ch0]; rfl
    case ti =>
      clear H₈ back₂ osx hSn ch0 hSs hsx
      rintro j g₃ ms v h₉ t₉ hj kg ⟨cc, vl', pv, z₁, z₂, es₂, hpi, rfl⟩ ⟨ul, rfl⟩ H
      obtain ⟨ℓ, hℓ⟩ : ∃ ℓ, ℓ = 3 + j := ⟨_, rfl⟩
      have chj := chS j
      rw [← hℓ] at chj ⊢
      refine assign_cell 1 H N (by kernel_rfl) (d := env.locals + 4) (by rw [NC]; rfl) rfl fun h₁₀ H₁ => ?_
      dsimp only [List.set] at H₁
      obtain ⟨g₄, hg₄, H₂, fz, -⟩ := Led.split [(env.locals, _)] H₁
      have c4 : g₄.IsCell (env.locals + 4) (some (.int (ℓ : Nat) ul)) := fz (env.locals + 4, OCell (some (.int (ℓ : Nat) ul))) (by simp)
      have tch : IsTup g₄ cc [.int (ch j).1 z₁, .int (ch j).2.1 z₂, pv].toArray := isTup_of (fz (cc, OTup [.int (ch j).1 z₁, .int (ch j).2.1 z₂, pv]) (by simp))
      have back : ∀ {ms h}, Led g₄ ms h → Led g₃ (ms ++ (env.locals + 4, OCell (some (.int (ℓ : Nat) ul))) :: (cc, OTup [.int (ch j).1 z₁, .int (ch j).2.1 z₂, pv]) :: es₂) h := fun H => Led.thaw (keep := [(env.locals, OLoc [("chosen", .ref cc), ("places", .ref pl), ("suffixes", .ref sx), ("prices", .ref pt)])]) H₁ hg₄ fz H
      have kg₄ := stays_trans kg hg₄
      replace G := G.keeps kg₄
      replace P := P.keeps kg₄
      replace B := B.keeps kg₄
      replace c1 := c1.keeps kg₄
      replace c2 := c2.keeps kg₄
      replace c3 := c3.keeps kg₄
      replace lsx := stays_list kg₄ lsx
      replace lpl := stays_list kg₄ lpl
      replace sfx : ∀ j, j < i + 1 → ∃ r lr u ws, svs[j]? = some (.ref r) ∧ IsTup g₄ r [.int ((S i).getD j (0, [])).1 u, .ref lr].toArray ∧ (∃ o, g₂.get? lr = some o ∧ OList ws o) ∧ Parts es ws ((S i).getD j (0, [])).2 := fun j hj => by
        obtain ⟨r, lr, u, ws, a, b, d, e⟩ := sfx j hj
        exact ⟨r, lr, u, ws, a, IsTup.keeps b kg₄, d, e⟩
      have pll : pvs.length = ps.length := by rw [hpv.length]; simp
      clear H H₁ fz hg₄ kg kg₄
      refine Xs.comp (g := g₄) (cl := [("octets", env.locals + 1), ("length", env.locals + 4), ("bounds", env.locals + 2), ("at", env.locals + 3)]) (n := ps.length) (P := PlP ps)
        (LEJ env.locals [("chosen", .ref cc), ("places", .ref pl), ("suffixes", .ref sx), ("prices", .ref pt)] o a ml ℓ ps) (by rw [NC]; rfl) (by decide) rfl (by decide) rfl N psl ?hc ?tc (by kernel_rfl) (swaps_comp N (by kernel_rfl) (by kernel_rfl)) ?fc (fun _ => rfl)
      case hc =>
        refine EvV.w (P := fun v => v = .ref pl) (by walk_at "ev") H₂ ?_
        rintro _ h₁ t₁ rfl H₃
        refine iter_list hA.quiet H₃ (stays_list H₃.base lpl) (fun hm => ?_) fun it h₄ t₄ H₄ ok => ⟨_, ⟨.nil, rfl⟩, H₄, ok.mono pll fun i v e => plP_of hpv e⟩
        obtain ⟨o, e, _⟩ := lpl
        have := H₃.offm hm
        rw [e] at this; cases this
      case tc =>
        rintro i' ys g₅ ms v h₁ t₁ Cd cenv ecenv Nc hi' kg ⟨hI, rfl⟩ ⟨p, hp, ⟨up, rfl⟩⟩ H
        have hcc : cenv.cells = ([("octets", env.locals + 1), ("length", env.locals + 4), ("bounds", env.locals + 2), ("at", env.locals + 3)] : List (Str × Addr)) := by rw [ecenv]; rfl
        clear H₂ tch back
        replace G := G.keeps kg
        replace B := B.keeps kg
        replace c1 := c1.keeps kg
        replace c2 := c2.keeps kg
        replace c3 := c3.keeps kg
        replace c4 := c4.keeps kg
        have pp := hpl p (List.mem_of_getElem? hp)
        refine tests_one H (b := decide (((ℓ : Nat) : Int) ≤ comm o p a ml)) (.ints (EvV.fn (fa := 259) (P := IsI (comm o p a ml)) (EvX.glob (gn_law_common G) Nc (by kernel_rfl) (by kernel_rfl)) ⟨_, _, G.X 259 _ (by rfl), rfl⟩ (.cons (P := IsY o) (EvX.bytes (by walk_at "ev")) (.cons (P := IsI p) (by walk_at "ev") (.cons (P := IsI a) (by walk_at "ev") (.cons (P := IsI ml) (EvI.bd1 (by walk_at "ev") (by walk_at "ev") B rfl) .nil rfl) rfl) rfl) rfl) rfl ?_) (by walk_at "ev") rfl rfl) ?_
        · rintro Q E h t
          refine argsB_yiii fun v₁ v₂ v₃ v₄ H q => ?_
          exact law_common_ (G.keeps H.base) hA (by omega) pp.1 rfl rfl rfl fun h' t' u k => q _ h' t' k (isI _ _)
        have tk : ps.take (i' + 1) = ps.take i' ++ [p] := by rw [List.take_add_one, hp]; rfl
        intro h₂ t₂ H₂
        refine ⟨_, H₂, fun hb => ?_, fun hb => ⟨?_, rfl⟩⟩
        · rw [decide_eq_true_eq] at hb
          refine EvV.w (P := IsI p) (by walk_at "ev") H₂ ?_
          rintro _ h₃ t₃ ⟨u₃, rfl⟩ H₃
          refine ⟨_, H₃.weaken 0 rfl (OLoc.sub LocSub.nil), ?_, rfl⟩
          rw [tk, List.filter_append, List.map_append, List.filter_cons, if_pos (decide_eq_true (by omega))]
          exact hI.append (.cons _ _ .nil)
        · rw [decide_eq_false_iff_not] at hb
          rw [tk, List.filter_append, List.map_append, List.filter_cons, if_neg (by rw [decide_eq_true_eq]; omega), List.filter_nil, List.map_nil, List.append_nil]
          exact hI
      case fc =>
        rintro ys ms ⟨hI, rfl⟩ hys
        rw [List.take_length] at hI
        refine ⟨_, _, rfl, fun D h₁ t₁ H => ?_⟩
        unfold lcStep at chj
        have keepM : ∀ {h t}, ch (j + 1) = ch j → Led g₄ [(env.locals, OLoc [("chosen", .ref cc), ("places", .ref pl), ("suffixes", .ref sx), ("prices", .ref pt)])] h → LDM g₃ env.locals (env.locals + 4) [("places", .ref pl), ("suffixes", .ref sx), ("prices", .ref pt)] ch (j + 1) h t := fun e H => ⟨_, ⟨cc, _, pv, z₁, z₂, es₂, by rw [e]; exact hpi, by rw [e]; rfl⟩, back H⟩
        refine Xs.iteJ (LDM g₃ env.locals (env.locals + 4) [("places", .ref pl), ("suffixes", .ref sx), ("prices", .ref pt)] ch (j + 1)) H (Tst.neNil (by walk_at "ev") (fun _ H => isList_of (H.at 1 rfl)) hA.clim) ?_ ?_ ?_
        · intro hb h₂ t₂ H₃
          generalize hf : ps.filter (fun p => decide (ℓ ≤ comm o p a ml)) = fl at chj hI
          cases fl with
          | nil => cases hI; cases hb
          | cons p fl =>
            have hpf : p ∈ ps.filter (fun p => decide (ℓ ≤ comm o p a ml)) := by rw [hf]; exact List.mem_cons_self ..
            obtain ⟨hpp, hpc⟩ := List.mem_filter.mp hpf
            rw [decide_eq_true_eq] at hpc
            have pp := hpl p hpp
            have room := comm_room o ml p a
            have cle := comm_le o ml p a
            dsimp only at chj
            cases hI with
            | cons _ up hI =>
            generalize hd : a - p = d at chj
            generalize hpr : mPrice li di ℓ d + ((S i).getD (ℓ - 1) (0, [])).1 = pr at chj
            obtain ⟨r1, lr1, u1, ws1, e1, t1, -, -⟩ := sfx (ℓ - 1) (by omega)
            refine Xs.assignE (pair_ H₃ (P := IsI ℓ) (R := IsI d) (by walk_at "ev") (EvV.eq (n := (a : Int) - p) (EvI.sub (by walk_at "ev") (EvX.int (EvX.listAt (i := 0) (n := 0) (by walk_at "ev") (by walk_at "ev") (fun _ H => isList_of (H.at 1 rfl)) rfl rfl (by omega) rfl))) (by omega)) rfl rfl fun _ _ rp h₃ t₃ q₁ q₂ H₄ => ?_) rfl
            obtain ⟨x₁, rfl⟩ := q₁
            obtain ⟨x₂, rfl⟩ := q₂
            refine store_loc (H₄.up 1 rfl) N (by kernel_rfl) fun h₄ H₅ => ?_
            dsimp only [List.eraseIdx] at H₅
            replace H₅ := H₅.cut 2
            dsimp only [List.eraseIdx] at H₅
            refine Xs.assign H₅ (P := IsI pr) (hpr ▸ EvI.add (EvV.fn (fa := 280) (P := IsI (mPrice li di ℓ d)) (EvX.glob (gn_law_price G) N (by kernel_rfl) (by kernel_rfl)) ⟨_, _, G.X 280 _ (by rfl), rfl⟩ (.cons (P := fun v => v = .ref pt) (by walk_at "ev") (.cons (P := fun v => v = .ref rp) (by walk_at "ev") .nil rfl) rfl) rfl ?_)
              (EvI.tupG (i := 0) (n := 0) (EvX.gitem (i := (ℓ : Int) - 1) (n := ℓ - 1) (by walk_at "ev") (by walk_at "ev") lsx (by omega) e1 (by omega) rfl) (by walk_at "ev") t1 rfl rfl (Nat.le_of_ble_eq_true rfl) rfl)) N (by kernel_rfl) rfl ?_
            · rintro Q E h t
              refine argsB_xx fun H q => ?_
              exact law_price_ (p := .mat ℓ d) (G.keeps H.base) hA (P.keeps H.base) ⟨rp, x₁, x₂, rfl, isTup_of (H.at 1 rfl)⟩ ⟨by omega, by omega, by omega, by omega⟩ fun h' t' u k => q _ h' t' k (isI _ _)
            rintro _ h₅ t₅ ⟨u₅, rfl⟩ H₆
            clear H₃ H₄ H₅
            refine Xs.iteJ (LDM g₃ env.locals (env.locals + 4) [("places", .ref pl), ("suffixes", .ref sx), ("prices", .ref pt)] ch (j + 1)) H₆ (b := decide (pr < (ch j).1)) (.ints (by walk_at "ev") (EvI.tupG (i := 0) (n := 0) (by walk_at "ev") (by walk_at "ev") tch rfl rfl (Nat.le_of_ble_eq_true rfl) rfl) rfl rfl) ?_ ?_ ?_
            · intro hb2 h₆ t₆ H₇
              rw [decide_eq_true_eq] at hb2
              rw [if_pos hb2] at chj
              refine Xs.assignE (tup_ H₇ (.cons (P := fun v => v = .int pr u₅) (by walk_at "ev") (.cons (P := IsI ℓ) (by walk_at "ev") (.cons (P := fun v => v = .ref rp) (by walk_at "ev") .nil rfl) rfl) rfl) (fun vs r => by obtain ⟨_, _, rfl, _, _, _, rfl, _, _, _, rfl, _, rfl⟩ := r; exact Nat.le_of_ble_eq_true rfl) fun vs c₂ h₇ t₇ rv H₈ => ?_) rfl
              obtain ⟨_, _, rfl, rfl, _, _, rfl, ⟨x₄, rfl⟩, _, _, rfl, rfl, rfl⟩ := rv
              refine store_loc (H₈.up 1 rfl) N (by kernel_rfl) fun h₈ H₉ => ?_
              dsimp only [List.eraseIdx] at H₉
              replace H₉ := back (H₉.weaken 0 rfl (OLoc.sub (l' := [("chosen", .ref c₂), ("places", .ref pl), ("suffixes", .ref sx), ("prices", .ref pt)]) (by walk_at "ls")))
              refine Mid.nil ⟨_, ⟨c₂, some (.int ℓ ul), .ref rp, u₅, x₄, (rp, OTup [.int ℓ x₁, .int d x₂]) :: es₂, ?_, ?_⟩, (((H₉.up 3 rfl).swap).cut 4)⟩
              · rw [chj]; exact ⟨rp, x₁, x₂, rfl, List.mem_cons_self ..⟩
              · rw [chj]; rfl
            · intro hb2 h₆ t₆ H₇
              rw [decide_eq_false_iff_not] at hb2
              rw [if_neg hb2] at chj
              exact Mid.nil (keepM chj ((H₇.weaken 0 rfl (OLoc.sub (by walk_at "ls"))).cut 1))
            · rintro h₂ t₂ ⟨ms, jj, H₃⟩
              exact Xs.nil ⟨ms, jj, H₃⟩
        · intro hb h₂ t₂ H₃
          generalize hf : ps.filter (fun p => decide (ℓ ≤ comm o p a ml)) = fl at chj hI
          cases fl with
          | cons p fl => cases hI; cases hb
          | nil => exact Mid.nil (keepM chj ((H₃.weaken 0 rfl (OLoc.sub (by walk_at "ls"))).cut 1))
        · rintro h₂ t₂ ⟨ms, jj, H₃⟩
          exact Xs.nil ⟨ms, jj, H₃⟩
    case fi =>
      rintro ms h₉ t₉ ⟨cc, vl', pv, z₁, z₂, es₂, hpi, rfl⟩ H
      have chi := chI (ml - 2)
      obtain ⟨r1, lr1, u1, ws1, e1, t1, o1, P1⟩ := sfx ((ch (ml - 2)).2.1 - 1) (by omega)
      have wl : ws1.length ≤ i := by rw [P1.length]; exact hSp ..
      generalize ch (ml - 2) = cN at *
      refine Xs.assignE (.of (wpAny_BinOp (cps (list1E_ (pairE_ (EvV.w (P := IsI cN.1) (EvI.tupL (i := 0) (n := 0) 2 (by walk_at "ev") (by walk_at "ev") rfl rfl rfl (Nat.le_of_ble_eq_true rfl) rfl) H ?_) rfl rfl) rfl)))) rfl
      rintro _ h₁ t₁ ⟨y₁, rfl⟩ H₁
      refine .of (wpAny_BinOp (cps (list_ H₁ (.cons (P := fun v => v = pv) (EvX.tupAt (i := 2) (n := 2) (by walk_at "ev") (by walk_at "ev") (fun _ H => isTup_of (H.at 2 rfl)) rfl rfl (Nat.le_of_ble_eq_true rfl) rfl) .nil rfl) (fun vs r => by obtain ⟨_, _, rfl, _, rfl⟩ := r; exact Nat.le_of_ble_eq_true rfl) fun vs n1 h₂ t₂ r H₂ => ?_)))
      obtain ⟨pv1, _, rfl, hp1, rfl⟩ := r
      rw [hp1] at H₂
      refine cps (EvV.w (P := fun v => v = .ref lr1) (EvX.gtup (i := 1) (n := 1) (EvX.gitem (i := (cN.2.1 : Int) - 1) (n := cN.2.1 - 1) (by walk_at "ev") (EvI.sub (EvI.tupL (i := 1) (n := 1) 3 (by walk_at "ev") (by walk_at "ev") rfl rfl rfl (Nat.le_of_ble_eq_true rfl) rfl) (by walk_at "ev")) lsx (by omega) e1 (by omega) rfl) (by walk_at "ev") t1 rfl rfl (Nat.le_of_ble_eq_true rfl) rfl) H₂.swap ?_)
      rintro _ h₃ t₃ rfl H₃
      refine (addLists_ H₃ (H₃.at 1 rfl) (by obtain ⟨o, a, b⟩ := o1; exact ⟨o, H₃.base _ _ a, b⟩) (by show 1 + ws1.length ≤ _; omega) fun d h₄ t₄ H₄ => ?_).to
      refine ⟨_, _, H₄, fun qq h₅ t₅ H₅ => ⟨_, _, H₅, fun m h₆ t₆ H₆ => ?_⟩⟩
      refine cps (EvV.w (P := fun v => v = .ref sx) (by walk_at "ev") (H₆.up 3 rfl) ?_)
      rintro _ h₇ t₇ rfl H₇
      refine (addLists_ H₇ (H₇.at 1 rfl) (by obtain ⟨o, a, b⟩ := osx; exact ⟨o, H₇.base _ _ a, b⟩) (by show 1 + svs.length ≤ _; omega) fun sx' h₈ t₈ H₈ => ?_).to
      refine store_loc (H₈.up 1 rfl) N (by kernel_rfl) fun h' H' => ?_
      clear H H₁ H₂ H₃ H₄ H₅ H₆ H₇ H₈
      replace H' := ((H'.weaken 0 rfl (OLoc.sub (l' := [("suffixes", .ref sx'), ("prices", .ref pt)]) (by walk_at "ls"))).up 6 rfl).swap
      dsimp only [List.eraseIdx, List.set] at H'
      replace H' := (back₂ H').perm List.perm_middle
      refine Xs.nil ⟨_, ⟨sx', .ref qq :: svs, _, some (.int a u), vl', ?_, ?_, rfl⟩, Led.swap H'⟩
      · simp
      · rw [hSn]
        refine hSs.cons (fun e he => by simp [he]) ⟨qq, d, y₁, pv :: ws1, rfl, by simp [lcRow], by simp, ?_⟩
        exact .cons (hpi.mono fun e he => by simp [he]) (P1.mono fun e he => by simp [he])
end
end
section
open Sem (wp)
noncomputable abbrev bmF : List Value := [.ref 46, .type "Exception", .type "BaseException", .type "object"]
noncomputable abbrev excO (t : Addr) (dd : Option Addr) : Obj := { cls := .ref 59, dict := dd, data := .fields #[.ref t, .none, .none, .none, .bool false, .none] }
noncomputable abbrev clsF : Obj := excClassObj "FilterFault" "FilterFault" 59 58 [.ref 46] bmF true [] [] false none none (some (.ref 50)) none (some (.str "FilterFault" 236)) (some (.str "FilterFault" 244)) (some (.bool true)) "Exception.__new__"
theorem clsF_at {w : World} {h : Heap} (G : Gl w h) : h.get? 59 = some clsF := G.X 59 _ (by rfl)
section
variable {prog : Program} {w : World} {A : Around} {E : Value → Shared → Prop} {R : Result → Shared → Prop} {h : Heap} {g : Array GenState} {d : Drawn} {t : Nat} {os : OsState}
theorem exF_check_new {M : Model} {rest : List Value} {Q : Unit → Shared → Prop} (hC : h.get? 59 = some clsF)
    (hq : Q () ⟨h, g, d, t, os⟩) : wpAny M A (checkBuiltinCall "Exception.__new__" ⟨.ref 59 :: rest, []⟩) Q E ⟨h, g, d, t, os⟩ := by
  have Fn := PySem.F.excBase_Exception
  have hcont : (Value.ref 59 :: bmF).contains (.type "Exception") = true := by decide +kernel
  have hstar := Fn.noStar
  simp only [checkBuiltinCall, Fn.newKind, Fn.newSplit, Fn.newRow]
  repeat (first | refine wpAny_loadPart_at hC ?_ | (refine wpAny_isSubtype_exc hC ?_; rw [hcont]) | refine wpAny_staticBase_exc hC ?_ | refine wpAny_madeBy_exc hC ?_ | simp only [bne_self_eq_false, Bool.false_eq_true, if_false] | wp_step)
  exact hq
theorem exF_new {rest : List Value} (hC : h.get? 59 = some clsF)
    (hq : R (.ok (.ret (.ref (h.objs.size + 1)))) ⟨(h.push { cls := .type "tuple", data := .seq rest.toArray }).push (excO h.objs.size none), g, d, t, os⟩) (hrest : rest.length ≤ sizeLine := by size_fits) :
    codeAny (model prog w) A (.builtin "Exception.__new__" ⟨.ref 59 :: rest, []⟩) R ⟨h, g, d, t, os⟩ := by
  have Fn := PySem.F.excBase_Exception
  have hends := Fn.ends
  have hcB : (Value.ref 59 :: bmF).contains (.type "Exception") = true := by decide +kernel
  have hcA : (Value.ref 59 :: bmF).contains (.type "AttributeError") = false := by decide +kernel
  have hcN : (Value.ref 59 :: bmF).contains (.type "NameError") = false := by decide +kernel
  refine codeAny_builtinAt Fn.entry ?_
  unfold Builtin.«BaseException.__new__»
  refine PySem.wpAt_bind ?_
  show PySem.wpAt _ _ _ (stack >>= _) _ _ _
  refine PySem.wpAt_bind (PySem.wpAt_stack fun p below => PySem.wpAt_of_wpAny ?_)
  wp_walk
  refine PySem.wpAt_of_wpAny ?_
  rw [Fn.owner]
  repeat (first | with_reducible refine wpAny_madeHere_exc Fn.canon hC ?_ | with_reducible refine wpAny_loadPart_at hC ?_ | (with_reducible refine wpAny_isSubtype_exc hC ?_; first | rw [hcB] | rw [hcA] | rw [hcN]) | wp_step)
  show R _ _
  rw [Heap.size_push]
  exact hq
theorem exF_make {rest : List Value} (G : Gl w h) (hrest : rest.length ≤ sizeLine)
    (k : codeAny (model prog w) (A.under (.builtin "type.__call__" ⟨.ref 59 :: rest, []⟩)) (.call (.ref 36) ⟨.ref (h.objs.size + 1) :: rest, []⟩) (InitBack (h.objs.size + 1) R) ⟨(h.push { cls := .type "tuple", data := .seq rest.toArray }).push (excO h.objs.size none), g, d, t, os⟩) :
    codeAny (model prog w) A (.call (.ref 59) ⟨rest, []⟩) R ⟨h, g, d, t, os⟩ := by
  have hC := clsF_at G
  have f1 := tc_lookup
  have f2 := tc_bind (.ref 59)
  have hT : (⟨h, g, d, t, os⟩ : Shared).TypeIs (.ref 59) "type" := ⟨_, hC, rfl⟩
  refine codeAny_of_tree ?_
  show wpAny _ _ (callAny (.ref 59) _) _ _ _
  repeat (any_goals (first | assumption | with_reducible refine wpAny_loadPart_at hC ?_ | wp_step))
  refine ⟨rfl, ?_⟩
  refine codeAny_call_builtin_at (Code.quiet_builtin _ (by decide +kernel)) entry_typeCall (wpAny_check_type_call_sub hC ?_)
  have Fn := PySem.F.excBase_Exception
  repeat (first | with_reducible refine wpAny_loadPart_at hC ?_ | with_reducible refine wpAny_madeBy_exc hC ?_ | wp_step)
  refine codeAny_call_builtin_code (Code.quiet_builtin _ Fn.quiet) (exF_check_new hC ?_)
  refine exF_new hC ?_ hrest
  show wpAny _ _ _ _ _ _
  have kp : ∀ b o, h.get? b = some o → ((h.push { cls := .type "tuple", data := .seq rest.toArray }).push (excO h.objs.size none)).get? b = some o := fun b o e => Heap.get?_push_of_some _ (Heap.get?_push_of_some _ e)
  have hC₁ := kp _ _ hC
  have G₁ := G.keeps kp
  have hget : ((h.push { cls := .type "tuple", data := .seq rest.toArray }).push (excO h.objs.size none)).get? (h.objs.size + 1) = some (excO h.objs.size none) := by heap_get
  have hcC : (Value.ref 59 :: bmF).contains (.ref 59) = true := by decide +kernel
  unfold isInstance
  repeat (first | with_reducible refine wpAny_loadPart_at hget ?_ | (with_reducible refine wpAny_isSubtype_exc hC₁ ?_; rw [hcC]) | wp_step)
  refine (show wpAny _ _ (isSubtype (.ref 59) (.ref 59)) _ _ _ from wpAny_isSubtype_exc hC₁ ?_)
  rw [hcC]
  repeat (first | with_reducible refine wpAny_loadPart_at hget ?_ | wp_step)
  show wpAny _ _ (typeLookup (.ref 59) _) _ _ _
  refine (looks_findIn G₁.X (t := .ref 59) (name := "__init__") (r := some (.ref 36)) (by kernel_rfl)).here ?_
  refine wpAny_holding (wpAny_bind ((bind_fn G₁.X _ (by kernel_rfl)).here ?_))
  refine wpAny_bind (wpAny_call (codeAny_mono k fun r s' z => ?_))
  rcases r with e | (v | _ | _ | _) <;> first | exact z | exact z.elim | skip
  obtain ⟨rfl, z⟩ := z
  exact wpAny_pure (wpAny_pure z)
end
end
section
open PySem PySem.W PySem.Calls PyProof.Rows Builtin Builtin.ObjectAttr
open Sem (wp)
section
variable {c : Cx} {A : Around} {env : Env} {g : Heap} {ms : List Entry} {ns : List (Str × NameKind)} {E : Value → Heap → Nat → Prop} {h : Heap} {t : Nat} {rest : List Stmt} {l la : List (Str × Value)} {pos p : Pos}
variable {K : Frag} {C x dx : Addr} {name : Str} {v : Value} {i j : Nat}
theorem storeIn_ {tk : Tok} {R : PySem.Fin → Shared → Prop} {E' : Value → Shared → Prop} (H : Led g ms h) (hd : ms[j]? = some (dx, OAttr la)) (hl : la.lookup name = none) (hz : la.length ≤ 100)
    (q : ∀ h', Led g (ms.set j (dx, OAttr (la ++ [(name, v)]))) h' → R (.done (.ret .none)) (c.S h' (t + 1))) : wpAny c.M A (storeInDict dx (.str name tk) name v) R E' (c.S h t) := by
  obtain ⟨_, ed, es, n, rfl, hat⟩ := H.at j hd
  unfold storeInDict
  refine wpAny_bind (wpAny_pure (wpAny_bind ?_))
  unfold nsSet
  refine wpAny_bind (wpAny_bind (wpAny_askSetting (wpAny_pure (wpAny_bind (wpAny_mkText (wpAny_bind (wpAny_loadPart ed ?_)))))))
  have hno : es.toArray.any (·.refKey) = false := by
    have := hat.get name
    unfold getL at this
    rw [hl] at this
    split at this
    · cases this
    · split at this
      · cases this
      · rename_i z; rw [Bool.not_eq_true] at z; simpa using z
  have cc : (!es.toArray.any (·.key.isStr name) && es.toArray.any (·.refKey)) = false := by rw [hno, Bool.and_false]
  dsimp only
  rw [aRefKeyMayBeTheName_at, cc]
  refine wpAny_updatePart ed ?_
  have D' : (h.update dx (Obj.putName name (PyData.keyHash c.w.params name) (.str name t) v)).get? dx = some (dictOf (putL name (PyData.keyHash c.w.params name) (.str name t) v es) (putN name es n)) := by
    rw [← putName_dict]
    exact Heap.get?_update_self _ ed (by rw [putName_dict]; rfl)
  have hat' := hat.put name (PyData.keyHash c.w.params name) t v hl
  refine wpAny_bind (wpAny_lookBehind D' (pastItsLine_dict (by rw [List.size_toArray, sizeLine_eq, hat'.len, List.length_append, List.length_singleton]; omega)) ?_)
  exact wpAny_pure (q _ (H.put j hd (Heap.SameBut.update ..) ⟨_, D', _, _, rfl, hat'⟩))
theorem osa_openX {ox : Obj} {od : Option Obj} {cd : ClassData} {tk : Tok} {r : Option Value} {R : Result → Shared → Prop} {prog : Program} {w : World} {s : Shared} (X : K.In s.heap) (I : InstAt s.heap x ox C od) (hc : clsIn K C = some cd) (ne : cd.mro.isEmpty = false) (hob : cd.mro.contains (.type "object") = true)
    (hrf : refuseLoop (.ref x) "__setattr__" cd.mro = pure ()) (ht : takerIn K C name = some r)
    (h : ∀ b, wpAny (model prog w) A.in1 (match r with | some a => setByDescriptor a (.ref x) v | none => storeInOwnDict (.ref x) (.ref C) (.str name tk) name v b)
      (fun fin s' => match fin with | .done f => R (.ok f) s' | .again c' => c'.quiet = true ∧ codeAny (model prog w) A c' R s') (fun e s' => R (.error e) s') s) :
    codeAny (model prog w) A (.call (.builtin "object.__setattr__") ⟨[.ref x, .str name tk, v], []⟩) R s := by
  have SF := PySem.F.store_object
  have sub : Looks (model prog w) s.heap (isInstance (.ref x) (.type "object")) true := I.type.andThen (looks_mroIn X (by unfold mroIn; rw [hc, Option.bind_some, if_neg (by rw [ne]; decide), hob]))
  refine codeAny_call_builtin SF.slot.plain SF.entry (@check_slot (model prog w) _ _ s "object.__setattr__" "object" "__setattr__" (.ref x) [.str name tk, v] [] _ SF.kind SF.split sub (SF.args (.ref x) (.str name tk) v) ?_)
  obtain ⟨attr, ha, hr⟩ := Option.bind_eq_some_iff.mp ht
  have hm : Looks (model prog w) s.heap (mroOf (.ref C)) cd.mro := (looks_clsIn X hc).andThen .now
  have L3 : Looks (model prog w) s.heap (storeTaker? attr) r := by
    cases attr with
    | none => cases hr; exact .now
    | some a =>
      obtain ⟨b, hb, rfl⟩ := Option.map_eq_some_iff.mp hr
      refine (looks_takesIn X hb).andThen ?_
      cases b <;> exact .now
  rw [osa_eq, refuse_eq]
  refine wpAny_bind (wpAny_bind (I.type.here (wpAny_bind (hm.here ?_))))
  rw [hrf]
  exact wpAny_pure (wpAny_bind (I.type.here (wpAny_bind ((looks_findIn X ha).here (wpAny_bind (L3.here (h _)))))))
theorem setAttrD_ {fs : Array Value} {sl : Array (Option Value)} {Q : Unit → Heap → Nat → Prop} (H : Led g ms h) (X : K.In g) (hx : h.get? x = some { cls := .ref C, dict := some dx, data := .fields fs, slots := sl }) (hd : ms[j]? = some (dx, OAttr la))
    (hs : findIn K (.ref C) "__setattr__" = some (some (.builtin "object.__setattr__"))) {cd : ClassData} (hc : clsIn K C = some cd) (ne : cd.mro.isEmpty = false) (hob : cd.mro.contains (.type "object") = true) (hrf : ∀ x, refuseLoop (.ref x) "__setattr__" cd.mro = pure ()) (ht : takerIn K C name = some none) (hd' : cd.hasDict = true) (hl : la.lookup name = none) (hz : la.length ≤ 100)
    (q : ∀ h', Led g (ms.set j (dx, OAttr (la ++ [(name, v)]))) h' → Q () h' (t + 2)) : W c A (setAttr (.ref x) name v) Q E h t := by
  have X' := X.keeps H.base
  obtain ⟨_, ed, es, n, rfl, hat⟩ := H.at j hd
  have I : InstAt h x { cls := .ref C, dict := some dx, data := .fields fs, slots := sl } C (some (dictOf es n)) := ⟨hx, rfl, rfl, ed⟩
  refine .of (set_plain (s := c.S h t) X' I hs (osa_openX (s := c.S h (t + 1)) X' I hc ne hob (hrf x) ht fun b => ?_))
  refine wpAny_bind (wpAny_pure (wpAny_bind (wpAny_bind (wpAny_loadPart hx (wpAny_bind ((looks_clsIn X' hc).here ?_))))))
  rw [hd']
  refine wpAny_pure (a := some dx) ?_
  exact storeIn_ (j := j) H hd hl hz fun h' H' => ⟨h', _, rfl, q h' H'⟩
theorem setAttrN_ {fs : Array Value} {sl : Array (Option Value)} {Q : Unit → Heap → Nat → Prop} (H : Led g ms h) (X : K.In g) (hx : ms[i]? = some (x, OIs { cls := .ref C, dict := none, data := .fields fs, slots := sl }))
    (hs : findIn K (.ref C) "__setattr__" = some (some (.builtin "object.__setattr__"))) {cd : ClassData} (hc : clsIn K C = some cd) (ne : cd.mro.isEmpty = false) (hob : cd.mro.contains (.type "object") = true) (hrf : ∀ x, refuseLoop (.ref x) "__setattr__" cd.mro = pure ()) (ht : takerIn K C name = some none) (hd' : cd.hasDict = true)
    (q : ∀ dx h', Led g ((dx, OAttr [(name, v)]) :: ms.set i (x, OIs { cls := .ref C, dict := some dx, data := .fields fs, slots := sl })) h' → Q () h' (t + 2)) : W c A (setAttr (.ref x) name v) Q E h t := by
  have X' := X.keeps H.base
  obtain ⟨_, hxx, rfl⟩ := H.at i hx
  have I : InstAt h x { cls := .ref C, dict := none, data := .fields fs, slots := sl } C none := ⟨hxx, rfl, rfl, trivial⟩
  refine .of (set_plain (s := c.S h t) X' I hs (osa_openX (s := c.S h (t + 1)) X' I hc ne hob (hrf x) ht fun b => ?_))
  refine wpAny_bind (wpAny_pure (wpAny_bind (wpAny_bind (wpAny_loadPart hxx (wpAny_bind ((looks_clsIn X' hc).here ?_))))))
  rw [hd']
  have hfx : (h.push emptyDict).get? x = some { cls := .ref C, dict := none, data := .fields fs, slots := sl } := Heap.get?_push_of_some _ hxx
  refine (show wpAny _ _ ((alloc { cls := .type "dict", data := .dict #[] } >>= fun d => update x (fun o => { o with dict := some d }) >>= fun _ => pure (some d)) >>= _) _ _ _ from ?_)
  refine wpAny_bind (wpAny_bind (wpAny_alloc (wpAny_bind (wpAny_update hfx (wpAny_pure ?_)))))
  have H1 := H.push (P := OAttr []) emptyDict rfl ⟨[], 0, rfl, .nil⟩
  have hx1 : ((h.objs.size, OAttr []) :: ms)[i + 1]? = some (x, OIs { cls := .ref C, dict := none, data := .fields fs, slots := sl }) := hx
  have H2 := H1.put (P' := OIs { cls := .ref C, dict := some h.objs.size, data := .fields fs, slots := sl }) (i + 1) hx1 (Heap.SameBut.update (h.push emptyDict) x (fun o : Obj => { o with dict := some h.objs.size })) ⟨_, Heap.get?_update_self (fun o : Obj => { o with dict := some h.objs.size }) hfx rfl, rfl⟩
  rw [List.set_cons_succ] at H2
  refine wpAny_pure (a := some h.objs.size) ?_
  exact storeIn_ (c := c) (j := 0) H2 rfl rfl (Nat.zero_le _) fun h' H' => ⟨h', _, rfl, q h.objs.size h' H'⟩
end
end
section
open Sem (wp)
section
variable {prog : Program} {w : World} {A : Around} {E : Value → Shared → Prop} {s : Shared} {K : Frag} {name : Str} {v : Value}
theorem method_typeX {T : String} {pl : Sem Bool} {Q : Value × List Value → Shared → Prop} (X : K.In s.heap) (ht : typeOf (.type T) = pure (.type "type")) (hs : Manifest.isStub T = false)
    (e : findCls K (.type T) (.type "type") name = some (.val v)) (hh : handedIn v = true) (h : Q (v, []) { s with toks := s.toks + 1 }) : wpAny (model prog w) A (getMethod (.type T) name pl) Q E s := by
  have hstub : opaqueClassAbove (.type T) = pure none := by unfold opaqueClassAbove; dsimp only; rw [hs]; rfl
  have L0 : Looks (model prog w) s.heap (typeOf (.type T)) (.type "type") := Looks.of_pure ht
  have hg : findIn K (.type "type") "__getattribute__" = some (some (.builtin "type.__getattribute__")) := type_tga
  unfold getMethod specialOf
  refine wpAny_bind (wpAny_bind (L0.here ((looks_findIn X hg).here ?_)))
  dsimp only
  rw [if_pos canon_tga]
  refine wpAny_bind (wpAny_mono (Q := fun v => Q (v, [])) (E := E) ?_ (fun _ _ z => wpAny_pure z) fun _ _ z => z)
  exact cls_open X (Looks.of_pure hstub) L0 hg (looks_hook X (r := none) (by rfl)) (by show subIn K _ _ = _; rfl) e
    (wpAny_pure (by show wpAny _ _ (handedOut v) _ _ _; rw [handedOut_of hh]; exact wpAny_pure h))
end
section
variable {prog : Program} {w : World} {A : Around} {E : Value → Shared → Prop} {R : Result → Shared → Prop} {h : Heap} {g : Array GenState} {d : Drawn} {t : Nat} {os : OsState}
theorem exF_check_init {M : Model} {e t0 : Addr} {dd : Option Addr} {rest : List Value} {Q : Unit → Shared → Prop} (hC : h.get? 59 = some clsF) (he : h.get? e = some (excO t0 dd))
    (hq : Q () ⟨h, g, d, t, os⟩) : wpAny M A (checkBuiltinCall "Exception.__init__" ⟨.ref e :: rest, []⟩) Q E ⟨h, g, d, t, os⟩ := by
  have F := PySem.F.excBase_Exception
  have hcB : (Value.ref 59 :: bmF).contains (.type "Exception") = true := by decide +kernel
  have hshort := F.noStar
  simp only [checkBuiltinCall, F.initKind, F.initSplit, F.initRow]
  repeat (first | (with_reducible refine wpAny_loadPart_at he ?_) | with_reducible refine wpAny_loadPart_at hC ?_ | (with_reducible refine wpAny_isSubtype_exc hC ?_; rw [hcB]) | wp_step)
  refine wpAny_onRaise ?_
  rw [show ∀ (a b : String) (n : Nat), Bind.check ⟨.positional, "*", "Exception", .self, [⟨"args", .varPos, false⟩]⟩ a b n (List.map (fun x => x.fst) ({ pos := Value.ref e :: rest } : Args).kw) = pure () from
    fun a b n => check_star_args _ _ _ _ _ _]
  exact wpAny_pure hq
theorem exF_init {e t0 : Addr} {dd : Option Addr} {rest : List Value} {Q : Value → Shared → Prop} (hC : h.get? 59 = some clsF) (he : h.get? e = some (excO t0 dd)) (hz : rest.length ≤ sizeLine)
    (hq : Q .none ⟨(h.push { cls := .type "tuple", data := .seq rest.toArray }).update e (Obj.mapFields (·.setIfInBounds 0 (.ref h.objs.size))), g, d, t, os⟩) :
    wpAny (model prog w) A (call (.builtin "Exception.__init__") (.ref e :: rest)) Q E ⟨h, g, d, t, os⟩ := by
  have F := PySem.F.excBase_Exception
  have he' := Heap.get?_push_of_some { cls := .type "tuple", data := .seq rest.toArray } he
  refine wpAny_call (codeAny_call_builtin F.init.plain F.initEntry (exF_check_init hC he ?_))
  wp_walk
  exact hq
end
end
section
open Sem (wp)
noncomputable def cdF : ClassData := { name := "FilterFault", bases := [.ref 46], mro := .ref 59 :: bmF, ns := 58, qualname := "FilterFault" }
theorem refF (x : Addr) : refuseLoop (.ref x) "__setattr__" cdF.mro = pure () := by
  show refuseLoop (.ref x) "__setattr__" (.ref 59 :: .ref 46 :: [.type "Exception", .type "BaseException", .type "object"]) = pure ()
  rw [refuseLoop_ref, refuseLoop_ref]
  exact PySem.F.store_Exception.passes _
section
variable {w : World} {σ : Shared} {A : Around} {env : Env} {g : Heap} {ms : List Entry} {ns : List (Str × NameKind)} {E : Value → Heap → Nat → Prop} {h : Heap} {t n : Nat} {rest : List Stmt} {l la : List (Str × Value)} {pos p apos cpos : Pos} {id : Str}
theorem Xs.excInit {a₁ a₂ : Expr} {e t0 : Addr} {v : Value} {Q : Flow → Heap → Nat → Prop} {pl : Sem Bool} (i : Nat) (H : Led g ms h) (G : Gl w g) (hf : EvX (cx w σ) A env g ms (.Name id p) (.type "Exception")) (h₁ : EvX (cx w σ) A env g ms a₁ (.ref e)) (h₂ : EvX (cx w σ) A env g ms a₂ v)
    (hi : ms[i]? = some (e, OIs (excO t0 none))) (N : EnvN env ns) (k : ∀ t1 h' t', Led g (ms.set i (e, OIs (excO t1 none))) h' → Xs (cx w σ) A env rest Q E h' t') (s₁ : noStar a₁ = true) (s₂ : noStar a₂ = true)
    (hee : eval (.Call (.Attribute (.Name id p) "__init__" apos) [a₁, a₂] [] cpos) env = (do
      let ov ← eval (.Name id p) env
      standAt apos.atName
      let (f, first) ← holding [ov] (getMethod ov "__init__" pl)
      callWith cpos f first (backTo cpos (starEach [a₁, a₂] env)) [])) : Xs (cx w σ) A env (.Expr (.Call (.Attribute (.Name id p) "__init__" apos) [a₁, a₂] [] cpos) pos :: rest) Q E h t := by
  refine Xs.expr (.of (MethodCall_ (pl := pl) (cps (hf _ E h t H fun v h₃ t₃ H₃ q => ?_)) hee)) N rfl
  subst q
  refine method_typeX (s := (cx w σ).S h₃ t₃) (K := KK w) (v := .builtin "Exception.__init__") (G.X.keeps H₃.base) (by kernel_rfl) (by decide +kernel) (by kernel_rfl) (by decide +kernel) ?_
  refine callWith_builtin (anyStar (by simp [s₁, s₂])) ?_
  rw [starEach_cons s₁, backTo_cons, starEach_cons s₂, backTo_cons]
  refine evalArgs_plain (spliced_cons (cps (h₁ _ E h₃ (t₃ + 1) H₃ fun u₁ h₄ t₄ H₄ q₁ => spliced_cons (cps (h₂ _ E h₄ t₄ H₄ fun u₂ h₅ t₅ H₅ q₂ => spliced_nil ?_)))))
  subst q₁ q₂
  obtain ⟨_, he, rfl⟩ := H₅.at i hi
  refine exF_init (clsF_at (G.keeps H₅.base)) he (by show 1 ≤ sizeLine; rw [sizeLine_eq]; omega) ?_
  refine ⟨_, t₅, rfl, fun a e => (nomatch e), k h₅.objs.size _ t₅ ((H₅.push_drop { cls := .type "tuple", data := .seq [u₂].toArray }).put i hi (Heap.SameBut.update ..) ⟨_, Heap.get?_update_self _ (Heap.get?_push_of_some _ he) rfl, ?_⟩)⟩
  rfl
set_option maxHeartbeats 4000000 in
theorem paper_init_ {e t0 : Addr} {v : Value} {m : Int} {u : Tok} {Q : Value → Heap → Nat → Prop} {g₀ : Heap} (G₀ : Gl w g₀) (kg : g₀.StaysIn h) (eo : g₀.get? e = none) (hA : Room A (n + 1)) (he : h.get? e = some (excO t0 none))
    (q : ∀ dx t1 h' t', Led (hideAll h [e]) [(dx, OAttr [("what", v), ("at", .int m u)]), (e, OIs (excO t1 (some dx)))] h' → Q .none h' t') :
    codeAny (cx w σ).M A (.call (.ref 36) ⟨[.ref e, v, .int m u], []⟩) (Back (cx w σ) Q E) ((cx w σ).S h t) := by
  have G := G₀.keeps kg
  refine callFc [(e, OIs (excO t0 none))] (binds := [("self", _), ("what", _), ("at", _)]) (G.X 36 _ (by rfl)) (by rfl) (by rfl) (by rfl) hA G.lim (codeRec_of G.X (by kernel_rfl)) (by exact BindsTo.of_defaults rfl (G.X _ _ (by rfl)) rfl rfl rfl) (by decide) (locs rfl) rfl rfl rfl rfl rfl ?_ (by simp) ?_
  · rintro p hp
    rw [List.mem_singleton] at hp
    subst hp
    exact ⟨_, he, rfl⟩
  clear hA
  rintro A env h₀ t₀ hA N - H -
  dsimp only at N
  change Led (hideAll h [e]) [(env.locals, _), (e, OIs (excO t0 none))] h₀ at H
  have G' : Gl w (hideAll h [e]) := G₀.keeps fun b ob eb => hideAll_get _ (kg b ob eb) fun hm => by
    rw [List.mem_singleton] at hm
    rw [hm, eo] at eb; cases eb
  refine Xs.excInit 1 H G' (EvX.blt (bn_Exception G') N (by kernel_rfl) (by kernel_rfl)) (by walk_at "ev") (by walk_at "ev") rfl N (fun t1 h₁ t₁ H₁ => ?_) rfl rfl rfl
  dsimp only [List.set] at H₁
  refine Xs.setAttr (EvV.w (P := fun x => x = v) (by walk_at "ev") H₁ ?_) rfl
  rintro _ h₂ t₂ rfl H₂
  refine EvV.w (P := fun x => x = .ref e) (by walk_at "ev") H₂ ?_
  rintro _ h₃ t₃ rfl H₃
  refine setAttrN_ (K := KK w) (C := 59) (i := 1) H₃ G'.X rfl (by kernel_rfl) (cd := cdF) (by kernel_rfl) rfl (by decide +kernel) refF (by kernel_rfl) rfl fun dx h₄ H₄ => ?_
  dsimp only [List.set] at H₄
  replace H₄ := H₄.swap
  refine Xs.setAttr (EvV.w (P := fun x => x = .int m u) (by walk_at "ev") H₄ ?_) rfl
  rintro _ h₅ t₅ rfl H₅
  refine EvV.w (P := fun x => x = .ref e) (by walk_at "ev") H₅ ?_
  rintro _ h₆ t₆ rfl H₆
  refine setAttrD_ (K := KK w) (C := 59) (j := 1) H₆ G'.X (by obtain ⟨_, a, b⟩ := H₆.at 2 rfl; rw [a]; exact congrArg some b) rfl (by kernel_rfl) (cd := cdF) (by kernel_rfl) rfl (by decide +kernel) refF (by kernel_rfl) rfl (by with_unfolding_all rfl) (Nat.le_of_ble_eq_true rfl) fun h₇ H₇ => ?_
  dsimp only [List.set] at H₇
  exact Xs.nil (q dx t1 h₇ _ H₇.tail)
theorem fault_ {e₁ e₂ : Expr} {P : Value → Prop} {m : Int} {Q : Value → Heap → Nat → Prop} (H : Led g ms h) (G : Gl w g) (hA : Room A (n + 2)) (hf : EvX (cx w σ) A env g ms (.Name id p) (.ref 59)) (h₁ : EvV (cx w σ) A env g ms e₁ P) (h₂ : EvI (cx w σ) A env g ms e₂ m) (s₁ : noStar e₁ = true) (s₂ : noStar e₂ = true)
    (q : ∀ e dx t1 v u h' t', Led g ((dx, OAttr [("what", v), ("at", .int m u)]) :: (e, OIs (excO t1 (some dx))) :: ms) h' → Q (.ref e) h' t') :
    W (cx w σ) A (eval (.Call (.Name id p) [e₁, e₂] [] pos) env) Q E h t := by
  refine .of (wpAny_Call_Name_kw (cps (hf _ E h t H fun v h₃ t₃ H₃ q => ?_)))
  subst q
  refine callWith_of (P := fun h => (KK w).In h) (by show ((backTo pos (starEach [e₁, e₂] env)).any (·.1) || false) = false; rw [anyStar (by simp [s₁, s₂])]; rfl) (keeps_K (by kernel_rfl)) ?_
  rw [starEach_cons s₁, backTo_cons, starEach_cons s₂, backTo_cons]
  refine evalArgs_plain (spliced_cons (cps (h₁ _ E h₃ t₃ H₃ fun u₁ h₄ t₄ H₄ q₁ => spliced_cons (cps (h₂ _ E h₄ t₄ H₄ fun u₂ h₅ t₅ H₅ q₂ => spliced_nil ?_)))))
  obtain ⟨u, rfl⟩ := q₂
  refine ⟨G.X.keeps H₅.base, ?_⟩
  have H6 := (H₅.push_drop { cls := .type "tuple", data := .seq [u₁, .int m u].toArray }).push (P := OIs (excO h₅.objs.size none)) (excO h₅.objs.size none) rfl rfl
  rw [Heap.size_push] at H6
  refine wpAny_call (exF_make (G.keeps H₅.base) (by show 2 ≤ sizeLine; rw [sizeLine_eq]; omega) (codeAny_mono (paper_init_ (w := w) (σ := σ) (t := t₅) (E := E) (t0 := h₅.objs.size) (Q := fun v h' t' => v = .none ∧ Q (.ref (h₅.objs.size + 1)) h' t') G H6.base (H6.off 0 rfl) (Room.call hA) (by obtain ⟨_, a, b⟩ := H6.at 0 rfl; exact a.trans (congrArg some b)) fun dx t1 h' t' Hn => ⟨rfl, ?_⟩) fun r s' z => ?_))
  · have H7 := (H6.merge1 0 rfl Hn.swap).perm (List.perm_append_comm (l₁ := _) (l₂ := [_]))
    exact q _ dx t1 u₁ u h' t' H7
  · rcases r with e | f
    · exact z
    · cases f with
      | ret v =>
        obtain ⟨h', t', rfl, rfl, z⟩ := z
        exact ⟨rfl, h', t', rfl, z⟩
      | _ => exact (show False from z).elim
theorem Xs.raiseF {e : Expr} {Q : Flow → Heap → Nat → Prop} (hA : A.handled = none) (he : W (cx w σ) A (eval e env) (fun v h' t' => ∃ x t1 dx, v = .ref x ∧ h'.get? x = some (excO t1 (some dx)) ∧ Gl w h' ∧ E (.ref x) h' t') E h t) :
    Xs (cx w σ) A env (.Raise (some e) none pos :: rest) Q E h t := by
  refine Xs.cons (.of ?_)
  rw [arm_exec_Raise]
  rw [show evalOpt (some e) env = some (eval e env) from by with_unfolding_all rfl, show evalOpt none env = none from by with_unfolding_all rfl]
  dsimp only [Option.map]
  refine wpAny_bind (wpAny_standAt ?_)
  have hcB : (Value.ref 59 :: bmF).contains (.type "BaseException") = true := by decide +kernel
  unfold raiseStmt
  refine wpAny_bind (wpAny_bind (cps (he.mono (fun v h₁ t₁ q => wpAny_bind (wpAny_standAt (wpAny_pure ?_))) fun _ _ _ x => x)))
  obtain ⟨x, t1, dx, rfl, he, G, hE⟩ := q
  have hC := clsF_at G
  repeat (first | with_reducible refine wpAny_loadPart_at he ?_ | with_reducible refine wpAny_loadPart_at hC ?_ | (with_reducible refine wpAny_isSubtype_exc hC ?_; rw [hcB]) | wp_step)
  exact wpAny_raiseNew_none hA ⟨h₁, t₁, rfl, hE⟩
end
end
section
open Sem (wp)
noncomputable def TrD (h base : Heap) (e dd : Addr) (fl : Value) : Prop :=
  ∃ oe vs T oT ts, h.get? e = some oe ∧ oe.cls = .ref 59 ∧ oe.dict = some dd ∧ oe.data = .fields vs ∧ vs[1]? = some (.ref T) ∧ base.get? T = none ∧ T ≠ e ∧ h.get? T = some oT ∧ oT.data = .fields ts ∧ ts[3]? = some fl
noncomputable def Kp (S : List Addr) (h h' : Heap) : Prop := ∀ b o, h.get? b = some o → (∀ vs, o.data ≠ .fields vs) → ∃ sl, h'.get? b = some { o with slots := sl } ∧ (b ∉ S → sl = o.slots)
theorem Kp.trans {S : List Addr} {h h' h'' : Heap} (k : Kp S h h') (k' : Kp S h' h'') : Kp S h h'' := fun b o e n => by
  obtain ⟨sl, e1, n1⟩ := k b o e n
  obtain ⟨sl', e2, n2⟩ := k' b _ e1 n
  exact ⟨sl', e2, fun hb => (n2 hb).trans (n1 hb)⟩
theorem Kp.same {S : List Addr} {h h' : Heap} (k : ∀ b o, h.get? b = some o → (∀ vs, o.data ≠ .fields vs) → h'.get? b = some o) : Kp S h h' := fun b o e n => ⟨o.slots, k b o e n, fun _ => rfl⟩
noncomputable abbrev frs (l : List Env) : List Addr := l.filterMap (·.frame)
structure Fly (base : Heap) (l : List Env) (e dd : Addr) (fl : Value) (h : Heap) : Prop where
  stays : base.StaysIn h
  off : base.get? e = none
  fr : h.FunFrames base l
  tr : TrD h base e dd fl
section
variable {M : Model} {A : Around} {E : Value → Shared → Prop} {s : Shared} {base : Heap} {env : Env} {outer l : List Env} {L e dd : Addr} {fl : Value} {Q : Unit → Shared → Prop}
theorem entryD {oe : Obj} {vs : Array Value} {head : Value} {hadNext : Bool}
    (hfr : A.frames = some (env :: outer)) (hl : s.heap.FunFrames base (env :: outer)) (hf : env.frame = some L)
    (he : s.heap.get? e = some oe) (hc : oe.cls = .ref 59) (hdd : oe.dict = some dd) (hkb : base.StaysIn s.heap) (hen : base.get? e = none) (hd : oe.data = .fields vs) (hsz : 1 < vs.size)
    (h : ∀ h', Fly base (env :: outer) e dd (rawInt L) h' → Kp (frs (env :: outer)) s.heap h' → Q () { s with heap := h' }) :
    wpAny M A (do let a ← frameOf env; let pl ← entryPlaceOf L hadNext; let b ← EntryCells.newEntry head a .none (rawInt L) .none pl; setField (.ref e) 1 b) Q E s := by
  have hene : e ∉ (env :: outer).filterMap (·.frame) := fun hm => by
    obtain ⟨_, o, ho, hnf⟩ := hl.mem hm
    rw [he] at ho; injection ho with ho; subst ho; exact hnf vs hd
  refine wpAny_bind (wpAny_frameOf_fun hfr hl hf fun h₁ hs₁ => ?_)
  refine wpAny_bind (wpAny_entryPlaceOf fun pl hpl => ?_)
  unfold EntryCells.newEntry newFields
  refine wpAny_bind (wpAny_newObj_type ?_ (hpl.sizeOk5 _ _ _ _ _))
  have he₁ : h₁.get? e = some oe := (hs₁.2.1 e hene).trans he
  have kb₁ : base.StaysIn h₁ := fun b o hbo => (hs₁.2.1 b fun hm => by rw [(hl.mem hm).1] at hbo; cases hbo).trans (hkb b o hbo)
  have he₂ := Heap.get?_push_of_some (h := h₁) { cls := .type "traceback", dict := none, data := .fields ([head, .ref L, .none, rawInt L, .none] ++ (if pl.isEmpty then List.replicate 6 Value.none else pl)).toArray } he₁
  refine wpAny_setField he₂ hd hsz (h _ ?_ ?_)
  all_goals
    have hTe : h₁.objs.size ≠ e := Nat.ne_of_gt (Heap.lt_size he₁)
    have hd₃ := Obj.data_mapFields hd (·.setIfInBounds 1 (Value.ref h₁.objs.size))
    have he₃ := Heap.get?_update_self (Obj.mapFields (·.setIfInBounds 1 (Value.ref h₁.objs.size))) he₂ (Obj.isFreed_of_fields hd₃)
    have hT₃ := (Heap.get?_update_other (h₁.push { cls := .type "traceback", dict := none, data := .fields ([head, .ref L, .none, rawInt L, .none] ++ (if pl.isEmpty then List.replicate 6 Value.none else pl)).toArray })
      (Obj.mapFields (·.setIfInBounds 1 (Value.ref h₁.objs.size))) (Ne.symm hTe)).trans (Heap.get?_push_size h₁ rfl)
    have keep : ∀ b o, b ≠ e → h₁.get? b = some o →
        ((h₁.push { cls := .type "traceback", dict := none, data := .fields ([head, .ref L, .none, rawInt L, .none] ++ (if pl.isEmpty then List.replicate 6 Value.none else pl)).toArray }).update e (Obj.mapFields (·.setIfInBounds 1 (Value.ref h₁.objs.size)))).get? b = some o :=
      fun b o hbe hb => by
        rw [Heap.get?_update_other _ _ (Ne.symm hbe)]
        exact Heap.get?_push_of_some _ hb
    have noRecord : ∀ b o, s.heap.get? b = some o → (∀ vs, o.data ≠ .fields vs) → b ≠ e := fun b o hb hnf q => by
      rw [q, he] at hb; injection hb with hb; subst hb; exact hnf vs hd
  · refine ⟨fun b o hbo => keep b o (fun q => by rw [q, hen] at hbo; cases hbo) (kb₁ b o hbo), hen, hl.of_keeps fun b o hb hnf => ?_, ?_⟩
    · obtain ⟨sl, hs⟩ := hs₁.2.2 b o hb
      exact ⟨_, keep b _ (noRecord b o hb hnf) hs, rfl⟩
    · exact ⟨_, _, h₁.objs.size, _, _, he₃, by rw [Obj.cls_mapFields]; exact hc, by
        obtain ⟨c0, d0, dt0, s0⟩ := oe
        subst hd
        exact hdd, hd₃, by simp [hsz], kb₁.fresh, hTe, hT₃, rfl, by first | (simp; done) | (rcases hpl with rfl | ⟨_, _, _, _, _, _, _, rfl⟩ <;> simp)⟩
  · intro b o hb hnf
    by_cases hS : b ∈ frs (env :: outer)
    · obtain ⟨sl, hs⟩ := hs₁.2.2 b o hb
      exact ⟨sl, keep b _ (noRecord b o hb hnf) hs, fun n => absurd hS n⟩
    · exact ⟨o.slots, keep b o (noRecord b o hb hnf) ((hs₁.2.1 b hS).trans hb), fun _ => rfl⟩
theorem noteFirstD {t1 : Addr} (hfr : A.frames = some (env :: outer)) (hl : s.heap.FunFrames base (env :: outer)) (hf : env.frame = some L)
    (he : s.heap.get? e = some (excO t1 (some dd))) (hkb : base.StaysIn s.heap) (hen : base.get? e = none)
    (h : ∀ h', Fly base (env :: outer) e dd (rawInt L) h' → Kp (frs (env :: outer)) s.heap h' → Q () { s with heap := h' }) : wpAny M A (noteFrame (.ref e) env) Q E s := by
  unfold noteFrame
  simp only [hf]
  refine wpAny_bind (wpAny_field he rfl (x := .none) rfl ?_)
  rw [if_neg (by decide)]
  exact entryD hfr hl hf he rfl rfl hkb hen rfl (Nat.le_of_ble_eq_true rfl) h
theorem noteAgainD (hf : env.frame = some L) (ht : Fly base l e dd (rawInt L) s.heap) (h : Q () s) : wpAny M A (noteFrame (.ref e) env) Q E s := by
  obtain ⟨oe, vs, T, oT, ts, he, -, -, hd, h1, hnT, hTe, hT, hdT, h3⟩ := ht.tr
  unfold noteFrame
  simp only [hf]
  refine wpAny_bind (wpAny_field he hd h1 ?_)
  rw [if_pos (show (Value.ref T != Value.none) = true from by simp)]
  refine wpAny_bind (wpAny_field hT hdT h3 ?_)
  rw [if_pos (show (rawInt L == rawInt L) = true from by simp)]
  exact wpAny_pure h
theorem flightD (f : Option Addr) (ht : Fly base l e dd fl s.heap)
    (h : ∀ h', Fly base l e dd (f.elim .none fun a => rawInt a) h' → Kp (frs l) s.heap h' → Q () { s with heap := h' }) : wpAny M A (setFlight (.ref e) f) Q E s := by
  obtain ⟨k1, k2, k3, oe, vs, T, oT, ts, he, hc, hdd, hd, h1, hnT, hTe, hT, hdT, h3⟩ := ht
  have hsz3 : 3 < ts.size := (Array.getElem?_eq_some_iff.mp h3).1
  have other : ∀ b, b ≠ T → (s.heap.update T (Obj.mapFields (·.setIfInBounds 3 (f.elim Value.none fun a => rawInt a)))).get? b = s.heap.get? b := fun b hb => Heap.get?_update_other _ _ (Ne.symm hb)
  have noRecord : ∀ b o, s.heap.get? b = some o → (∀ vs, o.data ≠ .fields vs) → b ≠ T := fun b o hb hnf q => by
    rw [q, hT] at hb; injection hb with hb; subst hb; exact hnf ts hdT
  unfold setFlight
  refine wpAny_bind (wpAny_field he hd h1 ?_)
  rw [if_pos (show (Value.ref T != Value.none) = true from by simp)]
  refine wpAny_setField hT hdT hsz3 (h _ ⟨fun b o hbo => (other b fun q => by rw [q, hnT] at hbo; cases hbo).trans (k1 b o hbo), k2,
    k3.of_keeps fun b o hb hnf => ⟨o, (other b (noRecord b o hb hnf)).trans hb, rfl⟩, ?_⟩ (Kp.same fun b o hb hnf => (other b (noRecord b o hb hnf)).trans hb))
  exact ⟨oe, vs, T, _, _, (other e (Ne.symm hTe)).trans he, hc, hdd, hd, h1, hnT, hTe, Heap.get?_update_self _ hT (Obj.isFreed_of_fields (Obj.data_mapFields hdT _)), Obj.data_mapFields hdT _, by simp [hsz3]⟩
theorem noteNextD (hfr : A.frames = some (env :: outer)) (hf : env.frame = some L) (ht : Fly base (env :: outer) e dd .none s.heap)
    (h : ∀ h', Fly base (env :: outer) e dd (rawInt L) h' → Kp (frs (env :: outer)) s.heap h' → Q () { s with heap := h' }) : wpAny M A (noteFrame (.ref e) env) Q E s := by
  obtain ⟨k1, k2, k3, oe, vs, T, oT, ts, he, hc, hdd, hd, h1, hnT, hTe, hT, hdT, h3⟩ := ht
  unfold noteFrame
  simp only [hf]
  refine wpAny_bind (wpAny_field he hd h1 ?_)
  rw [if_pos (show (Value.ref T != Value.none) = true from by simp)]
  refine wpAny_bind (wpAny_field hT hdT h3 ?_)
  rw [if_neg (show ¬ ((Value.none == rawInt L) = true) from by simp [rawInt])]
  refine wpAny_bind (wpAny_setField hT hdT (Array.getElem?_eq_some_iff.mp h3).1 ?_)
  have other : ∀ b, b ≠ T → (s.heap.update T (Obj.mapFields (·.setIfInBounds 3 Value.none))).get? b = s.heap.get? b := fun b hb => Heap.get?_update_other _ _ (Ne.symm hb)
  have noRecord : ∀ b o, s.heap.get? b = some o → (∀ vs, o.data ≠ .fields vs) → b ≠ T := fun b o hb hnf q => by
    rw [q, hT] at hb; injection hb with hb; subst hb; exact hnf ts hdT
  refine entryD hfr (k3.of_keeps fun b o hb hnf => ⟨o, (other b (noRecord b o hb hnf)).trans hb, rfl⟩) hf ((other e (Ne.symm hTe)).trans he) hc hdd
    (fun b o hbo => (other b fun q => by rw [q, hnT] at hbo; cases hbo).trans (k1 b o hbo)) k2 hd (Array.getElem?_eq_some_iff.mp h1).1 fun h' x y => h h' x ?_
  exact Kp.trans (Kp.same fun b o hb hnf => (other b (noRecord b o hb hnf)).trans hb) y
end
end
section
open Sem (wp)
noncomputable def FrOk (l : List Env) (ms : List Entry) : Prop := ∀ env ∈ l, env.scope.kind ≠ .module ∧ ∃ L ll, env.frame = some L ∧ (L, OLoc ll) ∈ ms
theorem FrOk.mono {l : List Env} {ms ms' : List Entry} (F : FrOk l ms) (k : ∀ q ∈ ms, q ∈ ms') : FrOk l ms' := fun env he => let ⟨a, L, ll, b, d⟩ := F env he; ⟨a, L, ll, b, k _ d⟩
theorem FrOk.fun {l : List Env} {g h : Heap} {ms : List Entry} (H : Led g ms h) (F : FrOk l ms) : h.FunFrames g l := by
  induction l with
  | nil => trivial
  | cons env l ih =>
    obtain ⟨a, L, ll, b, d⟩ := F env (List.mem_cons_self ..)
    obtain ⟨o, ho, es, ep, hd, -⟩ := H.mem d
    exact ⟨a, ⟨L, o, b, (H.own _ d).1, ho, fun vs e => by rw [hd] at e; cases e⟩, ih fun env he => F env (List.mem_cons_of_mem _ he)⟩
theorem FrOk.frs {l : List Env} {ms : List Entry} (F : FrOk l ms) {a : Addr} (h : a ∈ frs l) : a ∈ ms.map (·.1) := by
  obtain ⟨env, he, e⟩ := List.mem_filterMap.mp h
  obtain ⟨-, L, ll, b, d⟩ := F env he
  rw [b] at e; cases e
  exact List.mem_map_of_mem (f := (·.1)) d
noncomputable def RawE (g : Heap) (N : Nat) (Wo : List Entry) (e : Value) (h : Heap) (_ : Nat) : Prop := ∃ x dx t1 v u, e = .ref x ∧ Led g ((dx, OAttr [("what", v), ("at", .int N u)]) :: (x, OIs (excO t1 (some dx))) :: Wo) h
structure FaultAt (g : Heap) (l : List Env) (N : Nat) (Wo : List Entry) (x dx : Addr) (fl : Value) (h : Heap) : Prop where
  fly : Fly g l x dx fl h
  attr : ∃ v u o, h.get? dx = some o ∧ OAttr [("what", v), ("at", .int N u)] o
  dxo : g.get? dx = none
  dxn : dx ∉ frs l
  xn : x ∉ Wo.map (·.1)
  dn : dx ∉ Wo.map (·.1)
  ne : dx ≠ x
  own : ∀ q ∈ Wo, ∃ ll, q.2 = OLoc ll ∧ ∃ o, h.get? q.1 = some o ∧ OLoc ll o
theorem FaultAt.step {g h h' : Heap} {l l' : List Env} {N : Nat} {Wo : List Entry} {x dx : Addr} {fl fl' : Value} (F : FaultAt g l N Wo x dx fl h) (y : Fly g l' x dx fl' h') (k : Kp (frs l) h h') (hl : ∀ a ∈ frs l', a ∈ frs l) : FaultAt g l' N Wo x dx fl' h' := by
  obtain ⟨v, u, o, ho, ha⟩ := F.attr
  have hnf : ∀ vs, o.data ≠ .fields vs := by
    obtain ⟨es, n, rfl, -⟩ := ha
    exact fun vs e => nomatch e
  obtain ⟨sl, e1, e2⟩ := k dx o ho hnf
  rw [e2 F.dxn] at e1
  refine ⟨y, ⟨v, u, o, e1, ha⟩, F.dxo, fun hm => F.dxn (hl _ hm), F.xn, F.dn, F.ne, fun q hq => ?_⟩
  obtain ⟨ll, e, o', ho', es, ep, hd, r⟩ := F.own q hq
  obtain ⟨sl', e1', -⟩ := k q.1 o' ho' fun vs e => by rw [hd] at e; cases e
  exact ⟨ll, e, _, e1', es, ep, hd, r⟩
noncomputable def FlyE (g : Heap) (l : List Env) (N : Nat) (Wo : List Entry) (fl : Value) (e : Value) (h : Heap) (_ : Nat) : Prop := ∃ x dx, e = .ref x ∧ FaultAt g l N Wo x dx fl h
section
variable {c : Cx} {A : Around} {env : Env} {outer : List Env} {g h : Heap} {t N : Nat} {Wo : List Entry} {l0 : List (Str × Value)}
theorem raw_fly {Ef : Value → Heap → Nat → Prop} (kf : ∀ e h t, FlyE g (env :: outer) N ((env.locals, OLoc l0) :: Wo) (rawInt env.locals) e h t → Ef e h t) (hfr : A.frames = some (env :: outer)) (hf : env.frame = some env.locals) (hk : env.scope.kind = .function) (F : FrOk outer Wo) (hW : ∀ q ∈ Wo, ∃ ll, q.2 = OLoc ll) {e : Value} {s : Shared}
    (x : c.E (RawE g N ((env.locals, OLoc l0) :: Wo)) e s) : notedBy c.M A env (cameBackBy c.M A env (c.E Ef)) e s := by
  obtain ⟨h, t, rfl, x, dx, t1, v, u, rfl, H⟩ := x
  have Fr : FrOk (env :: outer) ((env.locals, OLoc l0) :: Wo) := fun z hz => by
    rcases List.mem_cons.mp hz with rfl | hz
    · exact ⟨(by rw [hk]; intro e; cases e), _, _, hf, List.mem_cons_self ..⟩
    · exact F.mono (fun q hq => List.mem_cons_of_mem _ hq) z hz
  have Fr2 : FrOk (env :: outer) ((dx, OAttr [("what", v), ("at", .int N u)]) :: (x, OIs (excO t1 (some dx))) :: (env.locals, OLoc l0) :: Wo) := Fr.mono fun q hq => List.mem_cons_of_mem _ (List.mem_cons_of_mem _ hq)
  obtain ⟨ox, hx, rfl⟩ := H.at 1 rfl
  have nd := H.nd
  rw [List.map_cons, List.map_cons, List.nodup_cons, List.nodup_cons] at nd
  have dxn : dx ∉ frs (env :: outer) := fun hm => nd.1 (List.mem_cons_of_mem _ (Fr.frs hm))
  refine noteFirstD (s := c.S h t) hfr (Fr2.fun H) hf hx H.base (H.off 1 rfl) fun h' y k => ?_
  have F0 : FaultAt g (env :: outer) N ((env.locals, OLoc l0) :: Wo) x dx (rawInt env.locals) h' := by
    obtain ⟨o, ho, ha⟩ := H.at 0 rfl
    have hnf : ∀ vs, o.data ≠ .fields vs := by
      obtain ⟨es, n, rfl, -⟩ := ha
      exact fun vs e => nomatch e
    obtain ⟨sl, e1, e2⟩ := k dx o ho hnf
    rw [e2 dxn] at e1
    refine ⟨y, ⟨v, u, o, e1, ha⟩, H.off 0 rfl, dxn, nd.2.1, fun hm => nd.1 (List.mem_cons_of_mem _ hm), fun e => nd.1 (by rw [e]; exact List.mem_cons_self ..), fun q hq => ?_⟩
    have : ∃ ll, q.2 = OLoc ll := by
      rcases List.mem_cons.mp hq with rfl | hq
      · exact ⟨_, rfl⟩
      · exact hW q hq
    obtain ⟨ll, e⟩ := this
    obtain ⟨o', ho', ho2⟩ := (H.own q (List.mem_cons_of_mem _ (List.mem_cons_of_mem _ hq))).2
    rw [e] at ho2
    obtain ⟨es, ep, hd, r⟩ := ho2
    obtain ⟨sl', e1', -⟩ := k q.1 o' ho' fun vs e => by rw [hd] at e; cases e
    exact ⟨ll, e, _, e1', es, ep, hd, r⟩
  show wpAny _ _ _ _ _ _
  obtain ⟨oe, vs, T, oT, ts, he, -, -, hd, h1, -⟩ := y.tr
  refine wpAny_bind (wpAny_field he hd h1 ?_)
  rw [if_neg (show ¬ ((Value.ref T == Value.none) = true) from Bool.false_ne_true), hf]
  refine flightD (s := c.S h' t) (some env.locals) y fun h'' y' k' => ⟨h'', t, rfl, kf _ _ _ ⟨x, dx, rfl, F0.step y' k' fun _ z => z⟩⟩
theorem fly_leave (hf : env.frame = some env.locals) {e : Value} {h : Heap} {t : Nat} (x : FlyE g (env :: outer) N ((env.locals, OLoc l0) :: Wo) (rawInt env.locals) e h t) :
    W c A (leaving env e) (fun _ h' t' => FlyE g outer N Wo .none e h' t') (FlyE g outer N Wo .none) h t := by
  obtain ⟨x, dx, rfl, F⟩ := x
  refine .of ?_
  unfold leaving
  refine wpAny_bind (noteAgainD (s := c.S h t) hf F.fly ?_)
  refine flightD (s := c.S h t) none F.fly fun h' y k => ⟨h', t, rfl, x, dx, rfl, ?_⟩
  have F' := F.step y k fun _ z => z
  exact ⟨⟨y.stays, y.off, y.fr.2.2, y.tr⟩, F'.attr, F'.dxo, fun hm => F'.dxn (by rw [show frs (env :: outer) = env.locals :: frs outer by unfold frs; rw [List.filterMap_cons, hf]]; exact List.mem_cons_of_mem _ hm),
    fun hm => F'.xn (List.mem_cons_of_mem _ hm), fun hm => F'.dn (List.mem_cons_of_mem _ hm), F'.ne, fun q hq => F'.own q (List.mem_cons_of_mem _ hq)⟩
end
end
section
noncomputable def copyS (out : List UInt8) (d : Nat) : Nat → List UInt8
  | 0 => out
  | k + 1 => copyS out d k ++ [(copyS out d k).getD ((copyS out d k).length - d) 0]
theorem copyS_len (out : List UInt8) (d : Nat) : ∀ k, (copyS out d k).length = out.length + k
  | 0 => rfl
  | k + 1 => by unfold copyS; rw [List.length_append, copyS_len out d k]; rfl
noncomputable def expStep (out : List UInt8) : Part → List UInt8
  | .lit b => out ++ [b.toUInt8]
  | .mat ℓ d => copyS out d ℓ
noncomputable def expS (ps : List Part) : List UInt8 := ps.foldl expStep []
theorem expS_snoc {ps : List Part} {i : Nat} {p : Part} (e : ps[i]? = some p) : expS (ps.take (i + 1)) = expStep (expS (ps.take i)) p := by
  unfold expS; rw [List.take_add_one, e, List.foldl_append]; rfl
noncomputable def okP (out : List UInt8) : Part → Bool
  | .lit _ => true
  | .mat _ d => decide (1 ≤ d) && decide (d ≤ out.length)
noncomputable def EXJ (L ob pr : Addr) (ps : List Part) (K : Nat) (Wo : List Entry) (i : Nat) (ms : List Entry) : Prop := i ≤ K ∧ ms = (L, OLoc [("out", .ref ob), ("parts", .ref pr)]) :: (ob, OBytes (expS (ps.take i))) :: Wo
noncomputable def CPJ (L ob pr : Addr) (out : List UInt8) (d : Nat) (w₂ : Tok) (Wo : List Entry) (k : Nat) (ms : List Entry) : Prop := ms = (L, OLoc [("distance", .int d w₂), ("out", .ref ob), ("parts", .ref pr)]) :: (ob, OBytes (copyS out d k)) :: Wo
noncomputable def PaP (g : Heap) (ps : List Part) (i : Nat) (v : Value) : Prop := ∃ p, ps[i]? = some p ∧ PAt g v p
noncomputable def RawK (K n : Nat) (g : Heap) (N : Nat) (Wo : List Entry) (e : Value) (h : Heap) (t : Nat) : Prop := K < n ∧ RawE g N Wo e h t
noncomputable def FlyK (K n : Nat) (g : Heap) (l : List Env) (N : Nat) (Wo : List Entry) (fl : Value) (e : Value) (h : Heap) (t : Nat) : Prop := K < n ∧ FlyE g l N Wo fl e h t
section
variable {w : World} {σ : Shared} {A : Around} {E : Value → Heap → Nat → Prop} {h : Heap} {t n : Nat} {Q : Value → Heap → Nat → Prop}
set_option maxHeartbeats 8000000 in
theorem expanded_ {g : Heap} {pr : Addr} {vs : List Value} {ps : List Part} {Wo : List Entry} {outer : List Env} (K : Nat) (G : Gl w g) (kg : g.StaysIn h) (hoff : ∀ q ∈ Wo, g.get? q.1 = none) (hA : Room A (n + 4)) (hl : g.IsList pr vs.toArray) (hp : PsAt g vs ps)
    (hWo : ∀ p ∈ Wo, ∃ o, h.get? p.1 = some o ∧ p.2 o) (hnd : (Wo.map (·.1)).Nodup) (hlit : ∀ b, .lit b ∈ ps → b < 256) (hmat : ∀ ℓ d, .mat ℓ d ∈ ps → ℓ ≤ 1000) (hn : ps.length ≤ 1000) (hK : K ≤ ps.length)
    (ok : ∀ i p, i < K → ps[i]? = some p → okP (expS (ps.take i)) p = true) (hz : ∀ i, i ≤ K → (expS (ps.take i)).length ≤ 1000)
    (hq : K = ps.length → ∀ u h' t', Led (hideAll h (Wo.map (·.1))) Wo h' → Q (.bytes (expS ps).toArray u) h' t')
    (hbad : K < ps.length → (∀ p, ps[K]? = some p → okP (expS (ps.take K)) p = false) ∧ A.frames = some outer ∧ FrOk outer Wo ∧ (∀ q ∈ Wo, ∃ ll, q.2 = OLoc ll) ∧
      ∀ e h' t', FlyE (hideAll h (Wo.map (·.1))) outer (expS (ps.take K)).length Wo .none e h' t' → E e h' t') :
    V (cx w σ) A (call (.ref 167) [.ref pr]) Q E h t := by
  have kh : g.StaysIn (hideAll h (Wo.map (·.1))) := fun b ob eb => hideAll_get _ (kg b ob eb) fun hm => by
    obtain ⟨q, hq, rfl⟩ := List.mem_map.mp hm
    rw [hoff q hq] at eb; cases eb
  have Gh := G.keeps kg
  refine callVc (A := A) Wo (fun env => FlyK K ps.length (hideAll h (Wo.map (·.1))) (env :: outer) (expS (ps.take K)).length ((env.locals, OLoc [("parts", .ref pr)]) :: Wo) (rawInt env.locals)) (binds := [("parts", _)]) (Gh.X 167 _ (by rfl)) (by rfl) (by rfl) (by rfl) hA Gh.lim (codeRec_of Gh.X (by kernel_rfl)) (BindsTo.of_eq rfl) (by decide) (locs rfl) rfl rfl rfl rfl rfl hWo hnd ?_ ?_
  · intro env h₀ t₀ hA N NC hf H
    dsimp only at N
    change Led _ ((env.locals, OLoc [("parts", .ref pr)]) :: Wo) h₀ at H
    replace G := G.keeps kh
    replace hl := stays_list kh hl
    replace hp := hp.keeps kh
    have hk : env.scope.kind = .function := N.kind
    have hfr : K < ps.length → (A.deeper env).frames = some (env :: outer) := fun hlt => Around.frames_deeper (hbad hlt).2.1
    replace hbad : K < ps.length → (∀ p, ps[K]? = some p → okP (expS (ps.take K)) p = false) ∧ FrOk outer Wo ∧ ∀ q ∈ Wo, ∃ ll, q.2 = OLoc ll := fun hlt => ⟨(hbad hlt).1, (hbad hlt).2.2.1, (hbad hlt).2.2.2.1⟩
    clear kh Gh kg hoff hWo hnd
    generalize hideAll h (Wo.map (·.1)) = g at *
    generalize A.deeper env = A at *
    refine Vs.assignV (bytearray_ H (EvX.blt (bn_bytearray G) N (by kernel_rfl) (by kernel_rfl)) fun ob h₁ t₁ H₁ => ?_) rfl
    refine store_loc H₁.swap N (by kernel_rfl) fun h₂ H₂ => ?_
    clear H H₁
    have hpn := hp.1
    refine Vs.forE (g := g) (n := ps.length) (P := PaP g ps) (EXJ env.locals ob pr ps K Wo) (RawK K ps.length g (expS (ps.take K)).length ((env.locals, OLoc [("parts", .ref pr)]) :: Wo)) ?he ?turn ?fin ?hE (fun _ => rfl)
    case hE =>
      rintro e s ⟨h, t, rfl, hlt, raw⟩
      exact raw_fly (fun e h t x => ⟨hlt, x⟩) (hfr hlt) hf hk (hbad hlt).2.1 (hbad hlt).2.2 ⟨h, t, rfl, raw⟩
    case he =>
      refine EvV.w (P := fun v => v = .ref pr) (by walk_at "ev") H₂ ?_
      rintro _ h₃ t₃ rfl H₃
      refine iter_list hA.quiet H₃ (stays_list H₃.base hl) (fun hm => ?_) fun it h₄ t₄ H₄ ok => ⟨_, ⟨Nat.zero_le _, rfl⟩, H₄, ok.mono hpn fun i v e => ?_⟩
      · obtain ⟨o, e, _⟩ := hl
        have := H₃.offm hm
        rw [e] at this; cases this
      · have hi : i < ps.length := by rw [← hpn]; exact (List.getElem?_eq_some_iff.mp e).1
        obtain ⟨v', e', pa⟩ := hp.2 i _ (List.getElem?_eq_getElem hi)
        rw [e] at e'; cases e'
        exact ⟨_, List.getElem?_eq_getElem hi, pa⟩
    case fin =>
      rintro ms h₃ t₃ ⟨hi, rfl⟩ H₃
      have hKn : K = ps.length := by omega
      rw [List.take_length] at H₃
      refine Vs.retV (.w (EvV.w (EvY.ofB 1 (EvX.blt (bn_bytes G) N (by kernel_rfl) (by kernel_rfl)) (by walk_at "ev") rfl ?_ rfl) H₃ ?_))
      · have := hz K (Nat.le_refl _)
        rw [hKn, List.take_length] at this
        omega
      · rintro _ h₄ t₄ ⟨u, rfl⟩ H₄
        exact hq hKn u h₄ t₄ (H₄.cut 1).tail
    case turn =>
      rintro i g' ms v h₃ t₃ hi kg ⟨hiK, rfl⟩ ⟨p, hpi, pa⟩ H₃
      have G' := G.keeps kg
      have pa' := pa.keeps kg
      have snoc := expS_snoc hpi
      have hzi := hz i hiK
      have oki : i < K → okP (expS (ps.take i)) p = true := fun hlt => ok i p hlt hpi
      have bdi : i = K → okP (expS (ps.take i)) p = false := fun e => by subst e; exact (hbad hi).1 p hpi
      have hiE : i = K → (expS (ps.take K)).length = (expS (ps.take i)).length := fun e => by rw [e]
      generalize hout : expS (ps.take i) = out at *
      refine assign_loc H₃ N (by kernel_rfl) fun h₄ t₄ H₄ => ?_
      refine Vs.ite H₄ (b := isMat p) (Tst.boolVal (EvB.isTup (EvX.blt (bn_isinstance G') N (by kernel_rfl) (by kernel_rfl)) (by walk_at "ev") (EvX.blt (bn_tuple G') N (by kernel_rfl) (by kernel_rfl)) pa' rfl) rfl) ?_ ?_
      · intro hb h₅ t₅ H₅
        cases p with
        | lit b => cases hb
        | mat ℓ d =>
          have hℓ := hmat ℓ d (List.mem_of_getElem? hpi)
          obtain ⟨r, w₁, w₂, rfl, ht⟩ := pa'
          refine Vs.step (Xs.unpackC hA (EvV.w (P := fun v => v = .ref r) (by walk_at "ev") H₅ ?_) rfl rfl rfl)
          rintro _ h₆ t₆ rfl H₆
          refine ⟨r, _, rfl, IsTup.keeps ht H₆.base, rfl, fun h₇ k₇ => ?_⟩
          refine InOrder.loc (H₆.ext k₇) N (by kernel_rfl) fun h₈ t₈ H₈ => InOrder.loc H₈ N (by kernel_rfl) fun h₉ t₉ H₉ => InOrder.nil (Xs.vs ?_)
          clear H₃ H₄ H₅ H₆ H₈ k₇
          have hd : okP out (.mat ℓ d) = (decide (1 ≤ d) && decide (d ≤ out.length)) := rfl
          refine Vs.ite H₉ (b := decide ((d : Int) < 1) || decide ((out.length : Int) < d)) (.all (.or (.ints (by walk_at "ev") (by walk_at "ev") rfl rfl) fun _ => .or1 (.ints (by walk_at "ev") (EvI.lenB 1 (EvX.blt (bn_len G') N (by kernel_rfl) (by kernel_rfl)) (by walk_at "ev") rfl (by omega) rfl) rfl rfl))) ?_ ?_
          · intro hb2 h₁₀ t₁₀ HA
            rw [Bool.or_eq_true, decide_eq_true_eq, decide_eq_true_eq] at hb2
            have hiK' : i = K := by
              rcases Nat.lt_or_ge i K with h | h
              · have := oki h
                rw [hd, Bool.and_eq_true, decide_eq_true_eq, decide_eq_true_eq] at this
                omega
              · omega
            refine Vs.step (Xs.raiseF hA.quiet (fault_ HA G' (n := n + 1) (hA.mono (by omega)) (EvX.glob (gn_FilterFault G') N (by kernel_rfl) (by kernel_rfl)) (P := fun _ => True) (fun Q E h t H k => .of (wpAny_Constant_str ⟨h, t + 1, rfl, k _ h _ H trivial⟩)) (EvI.lenB 1 (EvX.blt (bn_len G') N (by kernel_rfl) (by kernel_rfl)) (by walk_at "ev") rfl (by omega) rfl) rfl rfl fun x dx t1 vv uu h' t' H' => ?_))
            refine ⟨x, t1, dx, rfl, ?_, G'.keeps H'.base, by omega, x, dx, t1, vv, uu, rfl, ?_⟩
            · obtain ⟨_, a, b⟩ := H'.at 1 rfl
              exact a.trans (congrArg some b)
            · rw [hiE hiK']
              exact (((H'.cut 3).weaken 2 rfl (OLoc.sub (l' := [("parts", .ref pr)]) (by walk_at "ls"))).stays kg)
          · intro hb2 h₁₀ t₁₀ HA
            rw [← Bool.not_eq_true, Bool.or_eq_true, decide_eq_true_eq, decide_eq_true_eq] at hb2
            have hlt : i < K := by
              rcases Nat.lt_or_ge i K with h | h
              · exact h
              · have := bdi (by omega)
                rw [hd, ← Bool.not_eq_true, Bool.and_eq_true, decide_eq_true_eq, decide_eq_true_eq] at this
                omega
            refine Vs.nilT ?_
            refine Vs.for (g := g') (n := ℓ) (P := fun k v => IsI k v) (CPJ env.locals ob pr out d w₂ Wo) ?he2 ?t2 ?f2 (fun _ => rfl)
            case he2 =>
              exact range1_ (m := ℓ) hA.quiet HA (EvX.blt (bn_range G') N (by kernel_rfl) (by kernel_rfl)) (i := (ℓ : Int)) (by walk_at "ev") rfl (by omega) rfl fun it h t H ok => ⟨_, rfl, H.weaken 0 rfl (OLoc.sub (by walk_at "ls")), ok⟩
            case t2 =>
              rintro k g'' ms v h₁₁ t₁₁ hk' kg' rfl ⟨uk, rfl⟩ HB
              have G'' := G'.keeps kg'
              have cl := copyS_len out d k
              refine assign_loc HB N (by kernel_rfl) fun h₁₂ t₁₂ HC => ?_
              refine Vs.append 1 HC (by walk_at "ev") rfl (by omega) (EvI.itemB (n := (copyS out d k).length - d) 1 (by walk_at "ev") (i := ((copyS out d k).length : Int) - d) (EvI.sub (EvI.lenB 1 (EvX.blt (bn_len G'') N (by kernel_rfl) (by kernel_rfl)) (by walk_at "ev") rfl (by omega) rfl) (by walk_at "ev")) rfl (by omega) (by omega) (by omega) rfl) (UInt8.toNat_lt _) N (fun h₁₃ t₁₃ HD => ?_) rfl rfl
              dsimp only [List.set] at HD
              refine Vs.nil ⟨_, rfl, ?_⟩
              have e : ((copyS out d k).getD ((copyS out d k).length - d) 0).toNat.toUInt8 = (copyS out d k).getD ((copyS out d k).length - d) 0 := UInt8.ofNat_toNat
              rw [e] at HD
              exact HD.weaken 0 rfl (OLoc.sub (by walk_at "ls"))
            case f2 =>
              rintro ms h₁₁ t₁₁ rfl HB
              refine Vs.nil (Vs.nil ⟨_, ⟨by omega, rfl⟩, ?_⟩)
              rw [snoc]
              exact HB.weaken 0 rfl (OLoc.sub (by walk_at "ls"))
      · intro hb h₅ t₅ H₅
        cases p with
        | mat ℓ d => cases hb
        | lit b =>
          have hb8 := hlit b (List.mem_of_getElem? hpi)
          obtain ⟨u, rfl⟩ := pa'
          have hlt : i < K := by
            rcases Nat.lt_or_ge i K with h | h
            · exact h
            · have := bdi (by omega)
              cases this
          refine Vs.append 1 H₅ (by walk_at "ev") rfl (by omega) (n := b) (by walk_at "ev") hb8 N (fun h₆ t₆ H₆ => ?_) rfl rfl
          dsimp only [List.set] at H₆
          refine Vs.nil (Vs.nil ⟨_, ⟨by omega, rfl⟩, ?_⟩)
          rw [snoc]
          exact H₆.weaken 0 rfl (OLoc.sub (by walk_at "ls"))
  · rintro env e h' t' hk hf ⟨hlt, x⟩
    exact (fly_leave hf x).mono (fun _ h'' t'' z => (hbad hlt).2.2.2.2 e h'' t'' z) fun e' h'' t'' z => (hbad hlt).2.2.2.2 e' h'' t'' z
end
end
section
open PySem PySem.W PySem.Calls PyProof.Rows Builtin Builtin.ObjectAttr
open Sem (wp)
section
variable {prog : Program} {w : World} {A : Around} {E : Value → Shared → Prop} {h : Heap} {g : Array GenState} {d : Drawn} {t : Nat} {os : OsState} {x dx : Addr} {ox : Obj} {v : Value}
theorem exF_check_ga {M : Model} {nameV : Value} {Q : Unit → Shared → Prop} (hC : h.get? 59 = some clsF) (hx : h.get? x = some ox) (hc : ox.cls = .ref 59) (hq : Q () ⟨h, g, d, t, os⟩) :
    wpAny M A (checkBuiltinCall "BaseException.__getattribute__" ⟨[.ref x, nameV], []⟩) Q E ⟨h, g, d, t, os⟩ := by
  have hk : builtinKind "BaseException.__getattribute__" = some .slot := by decide +kernel
  have hsplit : splitId "BaseException.__getattribute__" = some ("BaseException", "__getattribute__") := by decide +kernel
  have hcB : (Value.ref 59 :: bmF).contains (.type "BaseException") = true := by decide +kernel
  have ha := F.args_bexc_ga (.ref x) nameV
  simp only [checkBuiltinCall, hk, hsplit]
  refine wpAny_bind ?_
  unfold isInstance
  repeat (first | (with_reducible refine wpAny_loadPart_at hx ?_; rw [hc]) | (with_reducible refine wpAny_isSubtype_exc hC ?_; rw [hcB]) | wp_step)
  exact hq
theorem exF_at {expr : Bool} {l : List (Str × Value)} {n : Nat} {es : List DictEntry} {Q : Value → Shared → Prop} (G : Gl w h) (hx : h.get? x = some ox) (hc : ox.cls = .ref 59) (hno : notCls ox = true) (hd : ox.dict = some dx) (ed : h.get? dx = some (dictOf es n)) (hat : Attrs l es) (hl : l.lookup ("at" : Str) = some v) (hv : handedIn v = true)
    (hq : Q v ⟨h, g, d, t + 1, os⟩) : wpAny (model prog w) A (getAttr (.ref x) "at" expr) Q E ⟨h, g, d, t, os⟩ := by
  have hC := clsF_at G
  have I : InstAt h x ox 59 (some (dictOf es n)) := ⟨hx, hc, hno, by rw [hd]; exact ed⟩
  have L0 := I.type (M := model prog w)
  have L1 := looks_findIn (M := model prog w) (K := KK w) G.X (t := .ref 59) (name := "__getattribute__") (r := some (.builtin "BaseException.__getattribute__")) (by kernel_rfl)
  have L2 := looks_findIn (M := model prog w) (K := KK w) G.X (t := .ref 59) (name := "__getattr__") (r := none) (by kernel_rfl)
  have L3 := looks_find (M := model prog w) (K := KK w) G.X I (findObj_own (K := KK w) (C := 59) (name := "at") (attr := none) (by kernel_rfl) (by kernel_rfl) rfl (by rw [lookIn_dict, hat.get, hl]))
  have SB := PySem.F.excBase_Exception
  unfold getAttr getAttrBy
  refine wpAny_bind (wpAny_mkText (wpAny_holding (wpAny_bind (L0.at (wpAny_bind (L1.at ?_))))))
  have hx1 : (onTheHeap (Value.ref 59) && Value.builtin "BaseException.__getattribute__" == Value.builtin "object.__getattribute__") = false := by decide +kernel
  dsimp only
  rw [hx1, if_neg (by decide)]
  unfold getAttrByItsOwn hookBefore
  refine wpAny_bind ?_
  rw [if_pos (show onTheHeap (.ref 59) = true from rfl)]
  refine L2.at (wpAny_bind (wpAny_attempt (wpAny_holding ?_)))
  unfold callGetattribute
  rw [if_neg (by cases expr <;> decide)]
  unfold boundAndCalled
  have hb : bindSpecial (.builtin "BaseException.__getattribute__") (.ref x) = pure (.builtin "BaseException.__getattribute__", [.ref x]) := (PySem.F.attr_Exception).ga.bind _
  rw [hb]
  refine wpAny_bind (wpAny_pure ?_)
  refine wpAny_call (codeAny_call_builtin (PySem.F.attr_Exception).ga.plain PySem.F.entry_bexc_ga (exF_check_ga hC hx hc ?_))
  refine (show wpAny _ _ (typeOf (.ref x) >>= fun tp => find (.ref x) tp "at" >>= _) _ _ _ from wpAny_bind (L0.at (wpAny_bind (L3.at ?_))))
  refine wpAny_pure ?_
  show wpAny _ _ (handedOut v) _ _ _
  rw [handedOut_of hv]; exact wpAny_pure hq
end
end
section
open Sem (wp)
section
variable {c : Cx} {A : Around} {env : Env} {g : Heap} {ms : List Entry} {ns : List (Str × NameKind)} {Q : Flow → Heap → Nat → Prop} {E Eb : Value → Heap → Nat → Prop} {h : Heap} {t : Nat} {rest : List Stmt} {l : List (Str × Value)} {pos : Pos}
theorem Vs.tryE {body orelse : List Stmt} {h₀ : ExceptHandler} {hs : List ExceptHandler} (hb : V c A (execs body env) (fun _ _ _ => False) Eb h t)
    (hh : ∀ e s, c.E Eb e s → wpAny c.M A (noteFrame e env) (fun _ s₂ => wpAny c.M A (setFlight e none) (fun _ s₃ => wpAny c.M A (handleBy e env (h₀ :: hs)) (fun f s => ∃ h' t', s = c.S h' t' ∧ VThen c A env rest Q E f h' t') (c.E E) s₃) (c.E E) s₂) (c.E E) s) :
    Vs c A env (.Try body (h₀ :: hs) orelse [] pos :: rest) Q E h t := by
  refine Vs.cons (.of ?_)
  rw [arm_exec_Try]
  refine q_standAt ?_
  unfold tryStmt
  simp only [List.isEmpty_nil, if_true, List.isEmpty_cons, Bool.false_and, Bool.false_eq_true, if_false]
  refine q_bind (q_attempt (q_mono hb.to (fun f s₁ h₁ => ?_) fun e s₁ h₁ => ?_))
  · obtain ⟨_, _, _, z⟩ := h₁
    exact z.elim
  · exact q_of (wpAny_bind (wpAny_mono (hh e s₁ h₁) (fun _ _ h₂ => wpAny_bind h₂) fun _ _ x => x))
end
section
variable {w : World} {σ : Shared} {A : Around} {E : Value → Heap → Nat → Prop} {h : Heap} {t n : Nat} {Q : Value → Heap → Nat → Prop}
theorem ns_same {h h' : Heap} {a b : Addr} {o : Obj} (k : Heap.SameBut a h h') (hb : b ≠ a) (e : h.get? b = some o) : h'.get? b = some o := (k.2 b hb).trans e
set_option maxHeartbeats 8000000 in
theorem fault_place_ {g : Heap} {pr : Addr} {vs : List Value} {ps : List Part} {Wo : List Entry} {outer : List Env} (K : Nat) (G : Gl w g) (kg : g.StaysIn h) (hoff : ∀ q ∈ Wo, g.get? q.1 = none) (hA : Room A (n + 5)) (hl : g.IsList pr vs.toArray) (hp : PsAt g vs ps)
    (hWo : ∀ p ∈ Wo, ∃ o, h.get? p.1 = some o ∧ p.2 o) (hnd : (Wo.map (·.1)).Nodup) (hlit : ∀ b, .lit b ∈ ps → b < 256) (hmat : ∀ ℓ d, .mat ℓ d ∈ ps → ℓ ≤ 1000) (hn : ps.length ≤ 1000) (hK : K < ps.length)
    (ok : ∀ i p, i < K → ps[i]? = some p → okP (expS (ps.take i)) p = true) (hz : ∀ i, i ≤ K → (expS (ps.take i)).length ≤ 1000)
    (bad : ∀ p, ps[K]? = some p → okP (expS (ps.take K)) p = false) (hfr : A.frames = some outer) (hFr : FrOk outer Wo) (hLoc : ∀ q ∈ Wo, ∃ ll, q.2 = OLoc ll)
    (q : ∀ u h' t', Led (hideAll h (Wo.map (·.1))) Wo h' → Q (.int (expS (ps.take K)).length u) h' t') :
    V (cx w σ) A (call (.ref 292) [.ref pr]) Q E h t := by
  have kh : g.StaysIn (hideAll h (Wo.map (·.1))) := fun b ob eb => hideAll_get _ (kg b ob eb) fun hm => by
    obtain ⟨q, hq, rfl⟩ := List.mem_map.mp hm
    rw [hoff q hq] at eb; cases eb
  have Gh := G.keeps kg
  refine callVc (A := A) Wo (fun _ => NoE) (binds := [("parts", _)]) (Gh.X 292 _ (by rfl)) (by rfl) (by rfl) (by rfl) hA Gh.lim (codeRec_of Gh.X (by kernel_rfl)) (BindsTo.of_eq rfl) (by decide) (locs rfl) rfl rfl rfl rfl rfl hWo hnd ?_ (fun _ _ _ _ _ _ f => f.elim)
  intro env h₀ t₀ hA N NC hf H
  dsimp only at N
  change Led _ ((env.locals, OLoc [("parts", .ref pr)]) :: Wo) h₀ at H
  replace G := G.keeps kh
  replace hl := stays_list kh hl
  replace hp := hp.keeps kh
  have hk : env.scope.kind = .function := N.kind
  have hfr : (A.deeper env).frames = some (env :: outer) := Around.frames_deeper hfr
  have hFr' : FrOk (env :: outer) ((env.locals, OLoc [("parts", .ref pr)]) :: Wo) := fun z hz => by
    rcases List.mem_cons.mp hz with rfl | hz
    · exact ⟨(by rw [hk]; intro e; cases e), _, _, hf, List.mem_cons_self ..⟩
    · exact hFr.mono (fun q hq => List.mem_cons_of_mem _ hq) z hz
  clear kh Gh kg hoff hWo hnd
  generalize hideAll h (Wo.map (·.1)) = g at *
  generalize A.deeper env = A at *
  generalize hN : (expS (ps.take K)).length = m at *
  refine Vs.tryE (Eb := fun e h t => ∃ gb, g.StaysIn gb ∧ (∀ q ∈ (env.locals, OLoc [("parts", .ref pr)]) :: Wo, gb.get? q.1 = none) ∧ FlyE gb (env :: outer) m ((env.locals, OLoc [("parts", .ref pr)]) :: Wo) .none e h t) ?_ ?_
  · refine Vs.exprV (call_fnV H (EvX.glob (gn_expanded G) N (by kernel_rfl) (by kernel_rfl)) ⟨_, _, G.X 167 _ (by rfl), rfl⟩ (.cons (P := fun v => v = .ref pr) (by walk_at "ev") .nil rfl) rfl ?_) N rfl
    rintro vs h₁ t₁ H₁ ⟨_, _, rfl, rfl, rfl⟩
    have hgb : g.StaysIn (hideAll h₁ (((env.locals, OLoc [("parts", .ref pr)]) :: Wo).map (·.1))) := fun b ob eb => hideAll_get _ (H₁.base b ob eb) fun hm => by rw [H₁.offm hm] at eb; cases eb
    refine expanded_ (g := g) (Wo := (env.locals, OLoc [("parts", .ref pr)]) :: Wo) (outer := env :: outer) K G H₁.base (fun q hq => (H₁.own q hq).1) hA hl hp (fun q hq => (H₁.own q hq).2) H₁.nd hlit hmat hn (Nat.le_of_lt hK) ok hz (fun e => absurd hK (by omega)) fun _ => ⟨bad, hfr, hFr', ?_, ?_⟩
    · intro q hq
      rcases List.mem_cons.mp hq with rfl | hq
      · exact ⟨_, rfl⟩
      · exact hLoc q hq
    · intro e h' t' x
      rw [hN] at x
      exact ⟨_, hgb, fun q hq => hideAll_none _ (List.mem_map_of_mem hq), x⟩
  · rintro e s ⟨h₁, t₁, rfl, gb, kgb, offb, x, dx, rfl, F⟩
    have nd := H.nd
    clear H
    refine noteNextD (s := (cx w σ).S h₁ t₁) hfr hf F.fly fun h₂ y₂ k₂ => ?_
    have F₂ := F.step y₂ k₂ fun _ z => z
    clear F y₂ k₂
    refine flightD (s := (cx w σ).S h₂ t₁) none F₂.fly fun h₃ y₃ k₃ => ?_
    have F₃ := F₂.step y₃ k₃ fun _ z => z
    clear F₂ y₃ k₃
    have G₃ := G.keeps (stays_trans kgb F₃.fly.stays)
    refine wpAny_handleBy_cons (codeAny_handlers_test ?_) (by intro q; cases q)
    obtain ⟨mg, ga, gb'⟩ := gn_FilterFault G₃
    refine Name_function_global N.kind (N.of (by kernel_rfl)) (loadGlobal_global (s := (cx w σ).S h₃ t₁) (N.glob ▸ ga) gb' ?_) (by kernel_rfl)
    obtain ⟨oe, fs, T, oT, ts, he, hc, hdd, hd, -⟩ := id F₃.fly.tr
    refine wpAny_excMatches_sub_self (clsF_at G₃) he hc (by decide +kernel) ?_
    clear he hc hdd hd
    refine codeAny_handlers_suite_as ?_
    refine flightD (s := (cx w σ).S h₃ t₁) none F₃.fly fun h₄ y₄ k₄ => ?_
    have F₄ := F₃.step y₄ k₄ fun _ z => z
    clear F₃ y₄ k₄ G₃
    have hW4 := F₄.own
    obtain ⟨ll, ell, hloc⟩ := hW4 _ (List.mem_cons_self ..)
    obtain ⟨mm, hns, -⟩ := ns_of hloc
    refine wpAny_storeName_local (s := (cx w σ).S h₄ t₁) (N.of (by kernel_rfl)) hns (fun h₅ hns₅ sb₅ => ?_) N.notMod
    obtain ⟨oe, fs, T, oT, ts, he, hc, hdd, hd, -⟩ := F₄.fly.tr
    obtain ⟨v, u, o', ho', es, nn, rfl, hat⟩ := F₄.attr
    have xL : x ≠ env.locals := fun e => F₄.xn (by rw [e]; exact List.mem_cons_self ..)
    have dL : dx ≠ env.locals := fun e => F₄.dn (by rw [e]; exact List.mem_cons_self ..)
    have st₅ : gb.StaysIn h₅ := fun b ob eb => ns_same sb₅ (fun e => by rw [e, offb _ (List.mem_cons_self ..)] at eb; cases eb) (F₄.fly.stays b ob eb)
    have G₅ := G.keeps (stays_trans kgb st₅)
    refine wpAny_execs_cons (wpAny_Return_some (Attribute_any_ (wpAny_Name (wpAny_loadName_local N.kind (N.of (by kernel_rfl)) hns₅ (if_pos rfl) ?_) (by kernel_rfl))))
    refine exF_at (l := [("what", v), ("at", .int m u)]) G₅ (ns_same sb₅ xL he) hc (by unfold notCls; rw [hd]) hdd (ns_same sb₅ dL ho') hat (by with_unfolding_all rfl) rfl ?_
    show wpAny _ _ _ _ _ _
    refine wpAny_nameGoes (N.of (by kernel_rfl)) hns₅ N.notMod fun h₆ m₆ hns₆ sb₆ => ?_
    refine ⟨h₆, _, rfl, q u h₆ _ ⟨fun b ob eb => ?_, fun z hz => ?_, (List.nodup_cons.mp nd).2⟩⟩
    · have e1 := kgb b ob eb
      exact ns_same sb₆ (fun e => by rw [e, offb _ (List.mem_cons_self ..)] at e1; cases e1) (st₅ b ob e1)
    · have zL : z.1 ≠ env.locals := fun e => (List.nodup_cons.mp nd).1 (by rw [← e]; exact List.mem_map_of_mem (f := (·.1)) hz)
      obtain ⟨l2, e2, o2, ho2, hq2⟩ := hW4 z (List.mem_cons_of_mem _ hz)
      refine ⟨?_, o2, ns_same sb₆ zL (ns_same sb₅ zL ho2), by rw [e2]; exact hq2⟩
      cases ez : g.get? z.1 with
      | none => rfl
      | some ob => have := kgb _ _ ez; rw [offb z (List.mem_cons_of_mem _ hz)] at this; cases this
end
end
section
section
variable {c : Cx} {A : Around} {g h : Heap} {W : List Entry} {ns : List (Str × NameKind)} {E : Value → Heap → Nat → Prop} {t : Nat}
theorem cells_led {env : Env} {s₁ : Shared} {binds : List (Str × Value)} {cs : Addr → List (Str × Addr)} {ll : List (Str × Value)} {es : Addr → List Entry} (Hc : Led g W h)
    (x : InCallC (c.S h t) env.locals (bindL env.kindOf binds fun _ => none) env.cells (bindC env.kindOf binds fun _ => none) s₁) (eL : env.locals = h.objs.size) (eC : env.cells = cs env.locals) (hko : env.kindOf = fun x => ns.lookup x)
    (hll : ∀ y v, ll.lookup y = some v → bindL (fun x => ns.lookup x) binds (fun _ => none) y = some v)
    (hes : ∀ L, (cs L).map (fun p => ((p.2, OCell (bindC (fun x => ns.lookup x) binds (fun _ => none) p.1)) : Entry)) = es L) (hnd : ∀ L, ((cs L).map (·.1)).Nodup) :
    ∃ h₁ t₁, s₁ = c.S h₁ t₁ ∧ Led g ((env.locals, OLoc ll) :: (es env.locals ++ W)) h₁ := by
  rw [hko] at x
  obtain ⟨⟨⟨h₁, t₁, rfl⟩, hn, keep, lo⟩, cell, apart, above⟩ := x
  have hnone : ∀ b, h.objs.size ≤ b → h.get? b = none := fun b hb => by
    cases q : h.get? b with
    | none => rfl
    | some o => exact absurd (Heap.lt_size q) (Nat.not_lt.mpr hb)
  have hg : ∀ b, h.objs.size ≤ b → g.get? b = none := fun b hb => by
    cases q : g.get? b with
    | none => rfl
    | some o => have := Hc.base _ _ q; rw [hnone b hb] at this; cases this
  have hW : ∀ b, h.objs.size ≤ b → b ∉ W.map (·.1) := fun b hb hm => by
    obtain ⟨o, ho⟩ := Hc.alive hm
    rw [hnone b hb] at ho; cases ho
  have K := Hc.ext (h' := h₁) fun b o e => keep b o e
  have hin : ∀ q ∈ es env.locals, ∃ y d, q = (d, OCell (bindC (fun x => ns.lookup x) binds (fun _ => none) y)) ∧ (y, d) ∈ env.cells := fun q hq => by
    rw [← hes] at hq
    obtain ⟨⟨y, d⟩, hy, rfl⟩ := List.mem_map.mp hq
    exact ⟨y, d, rfl, by rw [eC]; exact hy⟩
  refine ⟨h₁, t₁, rfl, K.base, fun q hq => ?_, ?_⟩
  · rcases List.mem_cons.mp hq with rfl | hq
    · exact ⟨hg _ (by rw [eL]; exact Nat.le_refl _), of_ns hn fun y v e => hll y v e⟩
    · rcases List.mem_append.mp hq with hq | hq
      · obtain ⟨y, d, rfl, hy⟩ := hin q hq
        have ab := above y d hy
        rw [eL] at ab
        refine ⟨hg _ (Nat.le_of_lt ab), ?_⟩
        have hlk : env.cells.lookup y = some d := by
          have nd := hnd env.locals
          rw [← eC] at nd
          revert hy nd
          generalize env.cells = z
          intro hq hn
          induction z with
          | nil => cases hq
          | cons a r ih =>
            rw [List.map_cons, List.nodup_cons] at hn
            rw [List.lookup_cons]
            rcases List.mem_cons.mp hq with e | hq
            · rw [← e]; simp
            · have : y ≠ a.1 := fun e => hn.1 (e ▸ List.mem_map_of_mem (f := (·.1)) hq)
              simp only [beq_eq_false_iff_ne.mpr this]
              exact ih hq hn.2
        exact cell y d hlk
      · exact K.own q hq
  · rw [List.map_cons, List.map_append, List.nodup_cons, List.nodup_append]
    have hes' : (es env.locals).map (·.1) = env.cells.map (·.2) := by rw [← hes, List.map_map, eC]; rfl
    refine ⟨fun hm => ?_, ?_, Hc.nd, fun a ha b hb e => ?_⟩
    · rcases List.mem_append.mp hm with hm | hm
      · rw [hes'] at hm
        obtain ⟨⟨y, d⟩, hq, e⟩ := List.mem_map.mp hm
        have ab := above y d hq
        have e' : d = env.locals := e
        rw [e'] at ab
        exact absurd ab (Nat.lt_irrefl _)
      · exact hW _ (by rw [eL]; exact Nat.le_refl _) hm
    · rw [hes', List.nodup_iff_pairwise_ne, List.pairwise_map]
      exact apart.imp fun h => h
    · subst e
      rw [hes'] at ha
      obtain ⟨⟨y, d⟩, hq, e⟩ := List.mem_map.mp ha
      have ab := above y d hq
      have e' : d = a := e
      rw [e', eL] at ab
      exact hW _ (Nat.le_of_lt ab) hb
theorem callC3 {fa : Addr} {o : Obj} {fd : FuncData} {body : List Stmt} {vals : List Value} {binds : List (Str × Value)} {Q : Value → Heap → Nat → Prop} {n : Nat} (cs : Addr → List (Str × Addr)) (ll : List (Str × Value)) (es : Addr → List Entry) (Hc : Led g W h)
    (ho : h.get? fa = some o) (hd : o.data = .func fd) (hb : fd.body = .stmts body) (hns : fd.scope.names = ns) (hr : Room A (n + 1)) (hl : h.NoLimit) (hc : h.CodeRec fd.code fd.qualname) (hbind : BindsTo (c.S h t) fd ⟨vals, []⟩ binds)
    (hclo : fd.closure = []) (hcs : ∀ L, cellsFrom (L + 1) ns [] = cs L) (hkind : (binds.all fun y => ns.lookup y.1 == some .local || ns.lookup y.1 == some .cell) = true)
    (hll : ∀ y v, ll.lookup y = some v → bindL (fun x => ns.lookup x) binds (fun _ => none) y = some v)
    (hes : ∀ L, (cs L).map (fun p => ((p.2, OCell (bindC (fun x => ns.lookup x) binds (fun _ => none) p.1)) : Entry)) = es L) (hnd : ∀ L, ((cs L).map (·.1)).Nodup)
    (hk : fd.scope.kind = .function) (hco : fd.scope.isCoroutine = false) (hgen : fd.scope.isGenerator = false) (hg : fd.globals = mainGlobals) (hbu : fd.builtins = builtinsNs)
    (k : ∀ A' env h' t', Room A' n → EnvN env ns → env.cells = cs env.locals → env.code = fd.code → Led g ((env.locals, OLoc ll) :: (es env.locals ++ W)) h' → Xs c A' env body (fun f h t => Q (flowVal f) h t) NoE h' t') :
    Mine.W c A (call (.ref fa) vals) Q E h t := by
  subst hns
  refine .of (wpAny_call (codeAny_call_function (s := c.S h t) hr.lim ho hd hco hgen hb hc (hbind _ _ _ _ ?_)))
  rw [hclo]
  refine wpAny_newFunctionEnv_cells hk (kindsX hkind _) fun env he s₁ x => ?_
  have he' : env = callEnvC fd h.objs.size fa := he
  subst he'
  refine ⟨hl.keeps x.toInCall.keep, codeAny_func ?_⟩
  obtain ⟨h₁, t₁, rfl, H⟩ := cells_led (c := c) (cs := cs) Hc x rfl (hcs _) (by funext x; rfl) hll hes hnd
  refine cpsN ((k (A.deeper (callEnvC fd h.objs.size fa)) (callEnvC fd h.objs.size fa) h₁ _ hr.deeper ⟨hk, hg, hbu, rfl⟩ (hcs _) rfl H).mono (fun f h' t' q => ?_) fun _ _ _ x => x)
  cases f <;> exact ⟨h', t', rfl, q⟩
theorem callCV {fa : Addr} {o : Obj} {fd : FuncData} {body : List Stmt} {vals : List Value} {binds : List (Str × Value)} {Q : Value → Heap → Nat → Prop} {n : Nat} (cs : Addr → List (Str × Addr)) (ll : List (Str × Value)) (es : Addr → List Entry) (Hc : Led g W h)
    (ho : h.get? fa = some o) (hd : o.data = .func fd) (hb : fd.body = .stmts body) (hns : fd.scope.names = ns) (hr : Room A (n + 1)) (hl : h.NoLimit) (hc : h.CodeRec fd.code fd.qualname) (hbind : BindsTo (c.S h t) fd ⟨vals, []⟩ binds)
    (hclo : fd.closure = []) (hcs : ∀ L, cellsFrom (L + 1) ns [] = cs L) (hkind : (binds.all fun y => ns.lookup y.1 == some .local || ns.lookup y.1 == some .cell) = true)
    (hll : ∀ y v, ll.lookup y = some v → bindL (fun x => ns.lookup x) binds (fun _ => none) y = some v)
    (hes : ∀ L, (cs L).map (fun p => ((p.2, OCell (bindC (fun x => ns.lookup x) binds (fun _ => none) p.1)) : Entry)) = es L) (hnd : ∀ L, ((cs L).map (·.1)).Nodup)
    (hk : fd.scope.kind = .function) (hco : fd.scope.isCoroutine = false) (hgen : fd.scope.isGenerator = false) (hg : fd.globals = mainGlobals) (hbu : fd.builtins = builtinsNs)
    (k : ∀ env h' t', Room (A.deeper env) n → EnvN env ns → env.cells = cs env.locals → env.frame = some env.locals → Led g ((env.locals, OLoc ll) :: (es env.locals ++ W)) h' → Vs c (A.deeper env) env body (fun f h t => Q (flowVal f) h t) NoE h' t') :
    V c A (call (.ref fa) vals) Q E h t := by
  subst hns
  refine .of (q_call (codeQ_of_tree ?_))
  show wpQ _ A.in1 (callAny (.ref fa) ⟨vals, []⟩) _ _ _
  simp only [callAny]
  refine q_bindA (wpAny_load (s := c.S h t) ho ?_)
  obtain ⟨cd, oc, vs, tq, hcd, hoc, hdc, hq⟩ := hc
  simp only [hd, callFunction, hco, hgen, hb, hcd]
  refine q_bindA (m := field (.ref cd) 1) (wpAny_field hoc hdc hq (q_bindA (wpAny_pure ?_)))
  refine q_bindA (hbind _ _ _ _ ?_)
  rw [hclo]
  refine q_bindA (wpAny_newFunctionEnv_cells hk (kindsX hkind _) fun env he s₁ x => ?_)
  have he' : env = callEnvC fd h.objs.size fa := by rw [he, ← hcd]; rfl
  subst he'
  refine q_bindA (wpAny_enterFrame (hl.keeps x.toInCall.keep) hr.lim (q_pure ⟨rfl, rfl, codeQ_func ?_⟩))
  obtain ⟨h₁, t₁, rfl, H⟩ := cells_led (c := c) (cs := cs) Hc x rfl (hcs _) (by funext x; rfl) hll hes hnd
  refine q_mono (k (callEnvC fd h.objs.size fa) h₁ _ hr.deeper ⟨hk, hg, hbu, rfl⟩ (hcs _) rfl H).to ?_ ?_
  · rintro f s ⟨h', t', rfl, q⟩
    cases f <;> exact ⟨h', t', rfl, q⟩
  · rintro e s ⟨h', t', rfl, q⟩
    exact q.elim
end
end
section
section
variable {c : Cx} {A : Around} {env : Env} {g : Heap} {ms : List Entry} {ns : List (Str × NameKind)} {E : Value → Heap → Nat → Prop} {h : Heap} {t : Nat} {rest : List Stmt} {l la : List (Str × Value)} {pos p p' : Pos} {x y id : Str}
theorem EvI.fdiv {l r : Expr} {a b : Int} (hl : EvI c A env g ms l a) (hr : EvI c A env g ms r b) (hb : b ≠ 0) (hs : b.natAbs.log2 < 9000) : EvI c A env g ms (.BinOp l .FloorDiv r pos) (a.fdiv b) :=
  .bin hl hr fun Q _ s _ _ _ k => by with_reducible exact PyProof.Rows.floordiv_int (Q := Q) hb k (Or.inl (PyProof.noPylong_of_log2 hs))
theorem EvI.powS {l r : Expr} {a b : Int} (hl : EvI c A env g ms l a) (hr : EvI c A env g ms r b) (h0 : 0 ≤ b) (hb : b ≤ 1000000) (ha : a.natAbs < 2 ^ 64) : EvI c A env g ms (.BinOp l .Pow r pos) (a ^ b.toNat) :=
  .bin hl hr fun Q _ s _ _ _ k => by with_reducible exact PyProof.Rows.pow_int_small (Q := Q) h0 hb ha k
theorem EvX.gf {x : Str} {d : Addr} {v : Value} {cs : List (Str × Addr)} (N : EnvN env ns) (hx : ns.lookup x = some .free) (hcs : env.cells = cs) (hc : cs.lookup x = some d) (hi : g.IsCell d (some v)) (hd : (x == ("__debug__" : Str)) = false) (hn : (x == ("__classdict__" : Str)) = false) :
    EvX c A env g ms (.Name x pos) v := .gfree N hx (hcs ▸ hc) hi hd hn
end
end
section
noncomputable def OCode (qual : Str) (o : Obj) : Prop := ∃ vs t, o.data = .fields vs ∧ vs[1]? = some (.str qual t)
noncomputable def OTab (o : Obj) : Prop := ∃ ps, o = tabObj ps
section
variable {c : Cx} {A : Around} {env : Env} {g : Heap} {ms : List Entry} {ns : List (Str × NameKind)} {E : Value → Heap → Nat → Prop} {h : Heap} {t : Nat} {rest : List Stmt} {l la : List (Str × Value)} {pos p p' : Pos} {x y id : Str}
theorem Xs.defn {name : Str} {params : Arguments} {body : List Stmt} {scope : Scope} {P cd : Addr} {mg : Str → Option Value} {cl : List (Str × Addr)} {Q : Flow → Heap → Nat → Prop} (i : Nat) (H : Led g ms h) (N : EnvN env ns) (hcode : env.code = .ref cd) (C : CodeHd g cd P) (hg : g.Ns mainGlobals mg) (B : g.BuiltinsAt mg P) (hgP : mainGlobals ≠ P)
    (hi : ms[i]? = some (P, OIs (tabObj #[]))) (hcl : clOf env.cells scope.names [] = some cl) (hd0 : params.defaults = []) (hk0 : params.kw_defaults = []) (ha : annTrees params none env = [])
    (k : ∀ f c' qual doc pm ctv h' t', Led g ((f, OIs (fnMade name qual params body scope cl doc pm c' ctv)) :: (c', OCode qual) :: ms.set i (P, OTab)) h' → W c A (storeName env name (.ref f)) (fun _ h t => Xs c A env rest Q E h t) E h' t') :
    Xs c A env (.FunctionDef name params body [] none [] scope none name pos :: rest) Q E h t := by
  refine Xs.cons (.of (nestDef_K hd0 hk0 ha ?_))
  obtain ⟨_, hP, rfl⟩ := H.at i hi
  have hB : h.BuiltinsAt mg P := by
    obtain ⟨bm, ob, a, b, d, e, f, r⟩ := B
    exact ⟨bm, ob, a, b, d, e, H.base _ _ f, r⟩
  refine makeFunction_K (s := c.S h t) (mg := mg) (closureFor_of hcl) N.glob (hg.keeps H.base) hcode (C.keeps H.base) hP trivial rfl hgP hB fun c' ctv doc h' tk hx hge hlt hrec htb => ?_
  obtain ⟨c₂, oc, vs, tt, e2, hoc, hd, hv⟩ := hrec
  cases e2
  have none_ : ∀ b, h.objs.size ≤ b → h.get? b = none := fun b hb => by
    cases q : h.get? b with
    | none => rfl
    | some o => exact absurd (Heap.lt_size q) (Nat.not_lt.mpr hb)
  have hPg : g.get? P = none := H.off i hi
  have H₁ : Led g (ms.set i (P, OTab)) h' := by
    refine ⟨fun b o e => hx b o (fun q => by rw [q, hPg] at e; cases e) (H.base b o e), fun q hq => ?_, by rw [map_fst_set _ _ _ _ _ hi]; exact H.nd⟩
    obtain ⟨j, hj⟩ := List.getElem?_of_mem hq
    rw [List.getElem?_set] at hj
    by_cases hij : i = j
    · subst hij
      rw [if_pos rfl] at hj
      split at hj
      · cases hj; exact ⟨hPg, _, htb, _, rfl⟩
      · cases hj
    · rw [if_neg hij] at hj
      obtain ⟨a, o, h1, h2⟩ := H.own q (List.mem_of_getElem? hj)
      exact ⟨a, o, hx _ _ (nodup_ne H.nd hi hj hij) h1, h2⟩
  have hc0 : g.get? c' = none := by
    cases q : g.get? c' with
    | none => rfl
    | some o => have := H.base _ _ q; rw [none_ _ hge] at this; cases this
  have H₂ : Led g ((c', OCode _) :: ms.set i (P, OTab)) h' := H₁.add (fun hm => by
    rw [map_fst_set _ _ _ _ _ hi] at hm
    obtain ⟨o, ho⟩ := H.alive hm
    rw [none_ _ hge] at ho; cases ho) hc0 ⟨oc, hoc, vs, tt, hd, hv⟩
  refine cps ((k _ c' _ doc _ ctv _ tk (H₂.push _ rfl rfl)).mono (fun _ h'' t'' q => ?_) fun _ _ _ e => e)
  exact ⟨h'', t'', rfl, q⟩
end
end
section
noncomputable def takeSt : Stmt := match stAt 27 with
  | .FunctionDef _ _ b .. => b.getD 3 (.Pass default)
  | s => s
noncomputable def takeO (pa ca c' : Addr) (qual : Str) (doc pm ctv : Value) : Obj := match takeSt with
  | .FunctionDef n a b _ _ _ sc _ _ _ => fnMade n qual a b sc [("place", pa), ("cells", ca)] doc pm c' ctv
  | _ => { cls := .none, data := .seq #[] }
structure TakeF (g : Heap) (f pl : Addr) (cs : List Int) : Prop where
  ex : ∃ pa ca ce vs c' qual doc pm ctv, g.get? f = some (takeO pa ca c' qual doc pm ctv) ∧ g.IsCell pa (some (.ref pl)) ∧ g.IsCell ca (some (.ref ce)) ∧ g.IsList ce vs.toArray ∧ IntsAre vs cs ∧ g.CodeRec (.ref c') qual
  one : 1 ≤ cs.length
  most : cs.length ≤ 63
theorem TakeF.keeps {g g' : Heap} {f pl : Addr} {cs : List Int} (T : TakeF g f pl cs) (k : g.StaysIn g') : TakeF g' f pl cs := by
  obtain ⟨⟨pa, ca, ce, vs, c', qual, doc, pm, ctv, a, b, d, e, i, r⟩, o, m⟩ := T
  exact ⟨⟨pa, ca, ce, vs, c', qual, doc, pm, ctv, k _ _ a, b.keeps k, d.keeps k, stays_list k e, i, r.keeps k⟩, o, m⟩
theorem pow_log (lv : Nat) (h : lv ≤ 100) : ((720720 : Int) ^ lv).natAbs.log2 < 9000 := by
  rw [Int.natAbs_pow]
  refine (Nat.log2_lt (Nat.ne_of_gt (Nat.pow_pos (by decide)))).mpr ?_
  refine Nat.lt_of_le_of_lt (m := (2 ^ 20) ^ lv) (Nat.pow_le_pow_left (by decide) lv) ?_
  rw [← Nat.pow_mul]
  exact Nat.pow_lt_pow_right (by decide) (by omega)
theorem fmod_nat (x : Int) {lim : Nat} (h : 1 ≤ lim) : ∃ r : Nat, x.fmod lim = r ∧ r < lim := by
  rw [Int.fmod_eq_emod_of_nonneg _ (by omega)]
  have h1 := Int.emod_nonneg x (show (lim : Int) ≠ 0 by omega)
  have h2 := Int.emod_lt_of_pos x (show (0 : Int) < lim by omega)
  exact ⟨(x % lim).toNat, by omega, by omega⟩
section
variable {w : World} {σ : Shared} {A : Around} {E : Value → Heap → Nat → Prop} {h : Heap} {t n : Nat} {Q : Value → Heap → Nat → Prop}
set_option maxHeartbeats 4000000 in
theorem take_ {g : Heap} {f pl : Addr} {cs : List Int} {k lim : Nat} {i : Int} {u y : Tok} (G : Gl w g) (kg : g.StaysIn h) (hA : Room A (n + 1)) (T : TakeF g f pl cs) (po : g.get? pl = none) (hp : ∃ o, h.get? pl = some o ∧ OSeq [.int k u] o) (hk : k ≤ 100) (e : i = lim) (hl : 1 ≤ lim)
    (q : ∀ r u u' h' t', (r : Nat) < lim → Led (hideAll h [pl]) [(pl, OSeq [.int (k + 1 : Nat) u'])] h' → Q (.int r u) h' t') :
    W (cx w σ) A (call (.ref f) [.int i y]) Q E h t := by
  subst e
  have kh : g.StaysIn (hideAll h [pl]) := fun b ob eb => hideAll_get _ (kg b ob eb) fun hm => by
    rw [List.mem_singleton] at hm
    rw [hm, po] at eb; cases eb
  obtain ⟨⟨pa, ca, ce, vs, c', qual, doc, pm, ctv, ho, hpa, hca, hce, hvs, hcd⟩, h1, h63⟩ := T
  have Gh := G.keeps kg
  refine callF [(pl, OSeq [.int k u])] (binds := [("limit", _)]) (kg _ _ ho) (by rfl) (by rfl) (by rfl) hA Gh.lim (hcd.keeps kg) (BindsTo.of_eq rfl) (by dsimp only; decide) (locs rfl) rfl rfl rfl rfl rfl ?_ (by simp) ?_
  · rintro p hq
    rw [List.mem_singleton] at hq
    subst hq
    exact hp
  clear hA
  rintro A env h₀ t₀ hA N NC H -
  dsimp only at N
  change env.cells = ([("place", pa), ("cells", ca)] : List (Str × Addr)) at NC
  change Led (hideAll h [pl]) [(env.locals, _), (pl, OSeq [.int k u])] h₀ at H
  have G' := G.keeps kh
  replace hpa := hpa.keeps kh
  replace hca := hca.keeps kh
  replace hce := stays_list kh hce
  clear kh Gh G kg ho hcd hp
  generalize hideAll h [pl] = g at *
  have vl : vs.length = cs.length := hvs.length
  refine Xs.assign H (P := IsI k) (EvX.int (EvX.listAt (i := 0) (n := 0) (EvX.gf N (by kernel_rfl) NC (by with_unfolding_all rfl) hpa (by kernel_rfl) (by kernel_rfl)) (by walk_at "ev") (fun _ H => isList_ofS (H.at 1 rfl)) rfl rfl (Nat.le_of_ble_eq_true rfl) rfl)) N (by kernel_rfl) rfl ?_
  rintro _ h₁ t₁ ⟨u₁, rfl⟩ H₁
  refine Xs.setSub H₁ (P := IsI ((k + 1 : Nat) : Int)) (EvV.eq (n := (k : Int) + 1) (by walk_at "ev") (by omega)) (ov := .ref pl) (EvX.gf N (by kernel_rfl) NC (by with_unfolding_all rfl) hpa (by kernel_rfl) (by kernel_rfl)) (R := IsI 0) (by walk_at "ev") rfl ?_
  rintro _ _ h₂ t₂ H₂ ⟨u₂, rfl⟩ ⟨u₃, rfl⟩
  refine setItem_ 1 H₂ rfl (n := 0) rfl (Nat.lt_succ_self 0) (Nat.le_of_ble_eq_true rfl) fun h₃ H₃ => ?_
  dsimp only [List.set] at H₃
  have hlen : ∀ {ms : List Entry} {A : Around} {p pos p' : Pos}, EvI (cx w σ) A env g ms (.Call (.Name "len" p) [.Name "cells" p'] [] pos) cs.length := fun {ms A p pos p'} => by
    rw [← vl]
    exact EvI.lenG (EvX.blt (bn_len G') N (by kernel_rfl) (by kernel_rfl)) (EvX.gf N (by kernel_rfl) NC (by with_unfolding_all rfl) hca (by kernel_rfl) (by kernel_rfl)) hce (by omega) rfl
  refine Xs.assign H₃ (P := IsI ((k / cs.length : Nat) : Int)) (EvV.eq (n := (k : Int).fdiv cs.length) (EvI.fdiv (by walk_at "ev") hlen (by omega) (Nat.lt_of_le_of_lt (Nat.log2_le_self _) (by rw [Int.natAbs_natCast]; omega))) (by rw [Int.natCast_ediv]; exact Int.fdiv_eq_ediv_of_nonneg _ (by omega))) N (by kernel_rfl) rfl ?_
  rintro _ h₄ t₄ ⟨u₄, rfl⟩ H₄
  have hlv : k / cs.length ≤ 100 := Nat.le_trans (Nat.div_le_self ..) hk
  generalize k / cs.length = lv at *
  have hm : k % cs.length < cs.length := Nat.mod_lt _ h1
  have hp0 : (720720 : Int) ^ lv ≠ 0 := Int.pow_ne_zero (by decide)
  have hpow : ((720720 : Int) ^ lv).natAbs.log2 < 9000 := pow_log lv hlv
  refine Xs.ret H₄ (P := IsI (((cs.getD (k % cs.length) 0).fdiv ((720720 : Int) ^ lv) + (lv : Int) * (7 * k + 3)).fmod lim))
    (EvI.mod (EvI.add (EvI.fdiv (EvI.gint (k % cs.length) (EvX.gf N (by kernel_rfl) NC (by with_unfolding_all rfl) hca (by kernel_rfl) (by kernel_rfl)) (i := (k : Int).fmod cs.length) (EvI.mod (by walk_at "ev") hlen (by omega)) hce hvs (by rw [Int.natCast_emod]; exact Int.fmod_eq_emod_of_nonneg _ (by omega)) hm (by omega) rfl)
      (EvI.powS (b := (lv : Int)) (by walk_at "ev") (by walk_at "ev") (by omega) (by omega) (by decide)) hp0 hpow) (EvI.mulS (by walk_at "ev") (EvI.add (EvI.mulS (by walk_at "ev") (by walk_at "ev") (by decide)) (by walk_at "ev")) (by omega))) (by walk_at "ev") (by omega)) ?_
  rintro _ h₅ t₅ ⟨u₅, rfl⟩ H₅
  obtain ⟨r, er, hr⟩ := fmod_nat ((cs.getD (k % cs.length) 0).fdiv ((720720 : Int) ^ lv) + (lv : Int) * (7 * k + 3)) hl
  rw [er]
  exact q r u₅ u₂ h₅ t₅ hr H₅.tail
end
end
section
noncomputable def TkM (g : Heap) (L : Addr) (h : Heap) (t : Nat) : Prop := ∃ ce ws cs, IntsAre ws cs ∧ 1 ≤ cs.length ∧ cs.length ≤ 63 ∧
  Led g [(ce, OList ws), (L, OLoc []), (L + 2, OCell none), (L + 1, OCell (some (.ref ce))), (242, OIs (tabObj #[]))] h
theorem IntsAre.take : ∀ {vs : List Value} {is : List Int}, IntsAre vs is → ∀ k, IntsAre (vs.take k) (is.take k)
  | _, _, _, 0 => .nil
  | _, _, .nil, _ + 1 => .nil
  | _, _, .cons n t r, k + 1 => .cons n t (IntsAre.take r k)
section
variable {w : World} {σ : Shared} {A : Around} {E : Value → Heap → Nat → Prop} {h : Heap} {t n : Nat} {Q : Value → Heap → Nat → Prop}
set_option maxHeartbeats 4000000 in
theorem law_taker_ {g : Heap} {sr : Addr} {vs : List Value} {is : List Int} {mg : Str → Option Value} (G : Gl w g) (kg : g.StaysIn h) (off : g.get? 242 = none) (hT : h.get? 242 = some (tabObj #[])) (hg : g.Ns mainGlobals mg) (B : g.BuiltinsAt mg 242) (hA : Room A (n + 1)) (hl : g.IsList sr vs.toArray) (hv : IntsAre vs is) (hz : is.length ≤ 1000)
    (q : ∀ f pl pa ca ce ws cs c' qual doc pm ctv u h' t', IntsAre ws cs → 1 ≤ cs.length → cs.length ≤ 63 → Led (hideAll h [242]) [(242, OTab), (pl, OSeq [.int 0 u]), (f, OIs (takeO pa ca c' qual doc pm ctv)), (c', OCode qual), (ce, OList ws), (pa, OCell (some (.ref pl))), (ca, OCell (some (.ref ce)))] h' → Q (.ref f) h' t') :
    W (cx w σ) A (call (.ref 247) [.ref sr]) Q E h t := by
  have kh : g.StaysIn (hideAll h [242]) := fun b ob eb => hideAll_get _ (kg b ob eb) fun hm => by
    rw [List.mem_singleton] at hm
    rw [hm, off] at eb; cases eb
  have Gh := G.keeps kg
  refine callC3 (W := [(242, OIs (tabObj #[]))]) (fun L => [("place", L + 2), ("cells", L + 1)]) [("script", .ref sr)] (fun L => [(L + 2, OCell none), (L + 1, OCell none)])
    (Led.start h [(242, OIs (tabObj #[]))] (fun p hp => by rw [List.mem_singleton] at hp; subst hp; exact ⟨_, hT, rfl⟩) (by simp))
    (binds := [("script", _)]) (Gh.X 247 _ (by rfl)) (by rfl) (by rfl) (by rfl) hA Gh.lim (codeRec_of Gh.X (by kernel_rfl)) (BindsTo.of_eq rfl) (by rfl) (fun L => by rfl) (by rfl) ?_ (fun L => by rfl) (fun L => by show List.Nodup [("place" : Str), "cells"]; decide) rfl rfl rfl rfl rfl ?_
  · exact ll_of (by rintro p hp; simp only [List.mem_cons, List.not_mem_nil, or_false] at hp; rcases hp with rfl; rfl)
  clear hA
  rintro A env h₀ t₀ hA N NC hcode H
  dsimp only at N NC hcode
  change Led (hideAll h [242]) [(env.locals, OLoc [("script", .ref sr)]), (env.locals + 2, OCell none), (env.locals + 1, OCell none), (242, OIs (tabObj #[]))] h₀ at H
  replace G := G.keeps kh
  replace hl := stays_list kh hl
  replace hg := hg.keeps kh
  replace B : (hideAll h [242]).BuiltinsAt mg 242 := by
    obtain ⟨bm, ob, a, b, d, e, f, r⟩ := B
    exact ⟨bm, ob, a, b, d, e, kh _ _ f, r⟩
  clear kh kg off Gh
  generalize hideAll h [242] = g at *
  have vl := hv.length
  refine Xs.assignE (takeL_ (n := 63) (i := 63) H (by walk_at "ev") (fun _ H => stays_list H.base hl) (by walk_at "ev") rfl (by omega) fun r h₁ t₁ H₁ => ?_) rfl
  refine store_cell 3 H₁ N (by kernel_rfl) (d := env.locals + 1) (by rw [NC]; rfl) rfl fun h₂ H₂ => ?_
  dsimp only [List.set] at H₂
  refine Xs.iteJ (TkM g env.locals) H₂ (Tst.eqNil (EvX.cell 3 N (by kernel_rfl) (d := env.locals + 1) (by rw [NC]; rfl) rfl (by kernel_rfl)) (fun _ H => isList_of (H.at 0 rfl)) hA.clim) ?_ ?_ ?_
  · intro hb h₃ t₃ H₃
    refine Xs.assignE (list_ H₃ (.cons (P := IsI 1) (by walk_at "ev") .nil rfl) (fun vs r => by obtain ⟨_, _, rfl, _, rfl⟩ := r; exact Nat.le_of_ble_eq_true rfl) fun ws ce h₄ t₄ r H₄ => ?_) rfl
    obtain ⟨_, _, rfl, ⟨u, rfl⟩, rfl⟩ := r
    refine store_cell 4 H₄ N (by kernel_rfl) (d := env.locals + 1) (by rw [NC]; rfl) rfl fun h₅ H₅ => ?_
    dsimp only [List.set] at H₅
    exact Mid.nil ⟨ce, _, [1], .cons 1 u .nil, Nat.le_refl _, by decide, (H₅.cut 1).weaken 1 rfl (OLoc.sub (by walk_at "ls"))⟩
  · intro hb h₃ t₃ H₃
    refine Mid.nil ⟨r, _, is.take 63, hv.take 63, ?_, by rw [List.length_take]; omega, H₃.weaken 1 rfl (OLoc.sub (by walk_at "ls"))⟩
    rw [← (hv.take 63).length]
    cases e : vs.take 63 with
    | nil => rw [e] at hb; cases hb
    | cons a b => exact Nat.succ_le_succ (Nat.zero_le _)
  clear H H₁ H₂ hl hv hz vl
  rintro h₃ t₃ ⟨ce, ws, cs, hw, h1, h63, H₃⟩
  refine Xs.assignE (list_ H₃ (.cons (P := IsI 0) (by walk_at "ev") .nil rfl) (fun vs r => by obtain ⟨_, _, rfl, _, rfl⟩ := r; exact Nat.le_of_ble_eq_true rfl) fun zs pl h₄ t₄ r H₄ => ?_) rfl
  obtain ⟨_, _, rfl, ⟨u, rfl⟩, rfl⟩ := r
  refine store_cell 3 H₄ N (by kernel_rfl) (d := env.locals + 2) (by rw [NC]; rfl) rfl fun h₅ H₅ => ?_
  dsimp only [List.set] at H₅
  refine Xs.defn 5 H₅ N hcode (codeHd_of_K (K := KK w) (c := 246) (P := 242) G.X (by kernel_rfl)) hg B (by decide) rfl (cl := [("place", env.locals + 2), ("cells", env.locals + 1)]) (by rw [NC]; rfl) rfl rfl rfl ?_
  intro f c' qual doc pm ctv h₆ t₆ H₆
  dsimp only [List.set] at H₆
  refine store_loc (H₆.up 4 rfl) N (by kernel_rfl) fun h₇ H₇ => ?_
  dsimp only [List.eraseIdx] at H₇
  refine Xs.ret H₇ (P := fun v => v = .ref f) (by walk_at "ev") ?_
  rintro _ h₈ t₈ rfl H₈
  refine q f pl (env.locals + 2) (env.locals + 1) ce ws cs c' qual doc pm ctv u h₈ t₈ hw h1 h63 ?_
  exact ((((H₈.tail.up 6 rfl).weaken 3 rfl OList.seq).up 3 rfl).up 1 rfl)
end
end
section
section
variable {c : Cx} {A : Around} {env : Env} {g : Heap} {ms : List Entry} {ns : List (Str × NameKind)} {E : Value → Heap → Nat → Prop} {h : Heap} {t : Nat} {rest : List Stmt} {l la : List (Str × Value)} {pos p p' : Pos} {x y id : Str}
theorem spl_nil {Q : List Value → Heap → Nat → Prop} (q : Q [] h t) : W c A (spliced (backTo pos (starEach [] env))) Q E h t := .of (spliced_nil ⟨h, t, rfl, q⟩)
theorem spl_ {e : Expr} {es : List Expr} {Q : List Value → Heap → Nat → Prop} (he : W c A (eval e env) (fun v h₁ t₁ => W c A (spliced (backTo pos (starEach es env))) (fun r h t => Q (v :: r) h t) E h₁ t₁) E h t) (hs : noStar e = true) :
    W c A (spliced (backTo pos (starEach (e :: es) env))) Q E h t := by
  rw [starEach_cons hs, backTo_cons]
  exact .of (spliced_cons (cps (he.mono (fun v h₁ t₁ q => cps (q.mono (fun r h₂ t₂ q => ⟨h₂, t₂, rfl, q⟩) fun _ _ _ e => e)) fun _ _ _ e => e)))
theorem tupE_ {elts : List Expr} {k : Nat} {Q : Value → Heap → Nat → Prop} (ha : W c A (spliced (backTo pos (starEach elts env))) (fun vs h₁ t₁ => vs.length ≤ 1000 ∧ ∃ g ms, Led g ms h₁ ∧ ∀ a h' t', Led g ((a, OTup vs) :: ms) h' → Q (.ref a) h' t') E h t) :
    W c A (eval (.Tuple elts k pos) env) Q E h t :=
  .of (Tuple_ (cps (ha.mono (fun vs h₁ t₁ ⟨hz, g, ms, H, q⟩ => wpAny_newObj_type ⟨_, t₁, rfl, q _ _ t₁ (H.push { cls := .type "tuple", data := .seq vs.toArray } rfl ⟨rfl, 0, rfl⟩)⟩ (by
    show vs.toArray.size ≤ sizeLine
    rw [List.size_toArray, sizeLine_eq]; omega)) fun _ _ _ e => e)))
theorem binE_ {l r : Expr} {op : Operator} {Q : Value → Heap → Nat → Prop} (hl : W c A (eval l env) (fun a h₁ t₁ => W c A (eval r env) (fun b h₂ t₂ => W c A (binaryOp op a b) Q E h₂ t₂) E h₁ t₁) E h t) : W c A (eval (.BinOp l op r pos) env) Q E h t :=
  .of (wpAny_BinOp (cps (hl.mono (fun a h₁ t₁ q => cps (q.mono (fun b h₂ t₂ q => q.to) fun _ _ _ e => e)) fun _ _ _ e => e)))
theorem addI_ {a b : Int} {u u' : Tok} {Q : Value → Heap → Nat → Prop} (q : Q (.int (a + b) t) h (t + 1)) : W c A (binaryOp .Add (.int a u) (.int b u')) Q E h t :=
  .of (by with_reducible exact PyProof.Rows.add_int (s := c.S h t) ⟨h, t + 1, rfl, q⟩)
theorem subsE_ {value slice : Expr} {Q : Value → Heap → Nat → Prop} (hv : W c A (eval value env) (fun o h₁ t₁ => W c A (eval slice env) (fun i h₂ t₂ => W c A (subscriptTail value slice o i) Q E h₂ t₂) E h₁ t₁) E h t) : W c A (eval (.Subscript value slice pos) env) Q E h t :=
  .of (Subscript_ (cps (hv.mono (fun a h₁ t₁ q => cps (q.mono (fun b h₂ t₂ q => q.to) fun _ _ _ e => e)) fun _ _ _ e => e)))
theorem tupItem_ {value slice : Expr} {o : Addr} {vs : List Value} {n : Nat} {v : Value} {u : Tok} {Q : Value → Heap → Nat → Prop} (ht : ∃ ob, h.get? o = some ob ∧ OTup vs ob) (hx : vs[n]? = some v) (hz : vs.length ≤ 1000) (q : Q v h t) (hp : notSlice slice = true) : W c A (subscriptTail value slice (.ref o) (.int n u)) Q E h t := by
  have hlt : n < vs.length := (List.getElem?_eq_some_iff.mp hx).1
  exact .of (item_tupleT (s := c.S h t) (x := v) (j := n) (isTup_of ht) (by omega) (by omega) (seqIndex_nat hlt) hx ⟨h, t, rfl, q⟩ (subscripted_of hp _ _))
theorem fnE_ {fa : Addr} {o : Obj} {fd : FuncData} {e : Expr} {es : List Expr} {Q : Value → Heap → Nat → Prop} (H : Led g ms h) (hf : EvX c A env g ms (.Name id p) (.ref fa)) (hd : o.data = .func fd) (hs : noStar e = true)
    (ha : ∀ h₁ t₁, Led g ms h₁ → W c A (spliced (backTo pos (starEach (e :: es) env))) (fun vs h' t' => h'.get? fa = some o ∧ W c A (call (.ref fa) vs) Q E h' t') E h₁ t₁) : W c A (eval (.Call (.Name id p) (e :: es) [] pos) env) Q E h t := by
  refine .of (wpAny_Call_Name_kw (cps (hf _ E h t H fun v h₁ t₁ H₁ q => ?_)))
  subst q
  refine callWith_function (o := o) (fd := fd) ?_
  have ha' := ha h₁ t₁ H₁
  rw [starEach_cons hs, backTo_cons] at ha' ⊢
  exact evalArgs_plain (cps (ha'.mono (fun vs h₂ t₂ q => ⟨⟨q.1, hd⟩, q.2.to⟩) fun _ _ _ e => e))
theorem tyE_ {T : String} {e : Expr} {es : List Expr} {Q : Value → Heap → Nat → Prop} (H : Led g ms h) (hf : EvX c A env g ms (.Name id p) (.type T)) (hs : (e :: es).all noStar = true)
    (ha : ∀ h₁ t₁, Led g ms h₁ → W c A (spliced (backTo pos (starEach (e :: es) env))) (fun vs h' t' => W c A (call (.type T) vs) Q E h' t') E h₁ t₁) : W c A (eval (.Call (.Name id p) (e :: es) [] pos) env) Q E h t := by
  refine .of (wpAny_Call_Name_kw (cps (hf _ E h t H fun v h₁ t₁ H₁ q => ?_)))
  subst q
  refine PyProof.Rows.callWith_type (anyStar hs) ?_
  have hs1 : noStar e = true := by rw [List.all_cons, Bool.and_eq_true] at hs; exact hs.1
  have ha' := ha h₁ t₁ H₁
  rw [starEach_cons hs1, backTo_cons] at ha' ⊢
  exact evalArgs_plain (cps (ha'.mono (fun vs h₂ t₂ q => q.to) fun _ _ _ e => e))
theorem bltE_ {b : String} {e : Expr} {es : List Expr} {Q : Value → Heap → Nat → Prop} (H : Led g ms h) (hf : EvX c A env g ms (.Name id p) (.builtin b)) (hs : (e :: es).all noStar = true)
    (ha : ∀ h₁ t₁, Led g ms h₁ → W c A (spliced (backTo pos (starEach (e :: es) env))) (fun vs h' t' => W c A (call (.builtin b) vs) Q E h' t') E h₁ t₁) : W c A (eval (.Call (.Name id p) (e :: es) [] pos) env) Q E h t := by
  refine .of (wpAny_Call_Name_kw (cps (hf _ E h t H fun v h₁ t₁ H₁ q => ?_)))
  subst q
  refine callWith_builtin (anyStar hs) ?_
  have hs1 : noStar e = true := by rw [List.all_cons, Bool.and_eq_true] at hs; exact hs.1
  have ha' := ha h₁ t₁ H₁
  rw [starEach_cons hs1, backTo_cons] at ha' ⊢
  exact evalArgs_plain (cps (ha'.mono (fun vs h₂ t₂ q => q.to) fun _ _ _ e => e))
theorem bytes_ {a : Addr} {vs : List Value} {ns : List Int} {Q : Value → Heap → Nat → Prop} (hA : A.handled = none) (H : Led g ms h) (hl : h.IsList a vs.toArray) (hi : IntsAre vs ns) (hr : ∀ n ∈ ns, 0 ≤ n ∧ n < 256) (hz : ns.length ≤ 1000)
    (q : ∀ u h' t', Led g ms h' → Q (.bytes (ns.map fun n => n.toNat.toUInt8).toArray u) h' t') : W c A (call (.type "bytes") [.ref a]) Q E h t :=
  .of (call_bytes_ints (s := c.S h t) hl hi hr (by rw [hi.length, sizeLine_eq]; omega) hA fun h' u t' hk => ⟨h', t', rfl, q u h' t' (H.ext hk)⟩)
theorem sum_ {a : Addr} {vs : List Value} {ns : List Int} {Q : Value → Heap → Nat → Prop} (hA : A.handled = none) (H : Led g ms h) (hl : h.IsList a vs.toArray) (hi : IntsAre vs ns)
    (q : ∀ u h' t', Led g ms h' → Q (.int ns.sum u) h' t') : W c A (call (.builtin "sum") [.ref a]) Q E h t := by
  obtain ⟨xs, hx⟩ := hi.allInts.items
  have e1 : ns = xs.toList.map (·.1) := by
    rw [← nums_intItems, ← hx]
    exact (show numsOf vs.toArray.toList = ns from hi.numsOf).symm
  have e2 : preSum (numAt xs) xs.size = ns.sum := by
    rw [preSum_eq, List.take_of_length_le (by simp), e1]
  exact .of (sum_intListG (s := c.S h t) hA (hx ▸ hl) fun h' tk t' hk => ⟨h', tk, rfl, e2 ▸ q t' h' tk (H.ext hk)⟩)
end
noncomputable def OPl (k : Nat) (o : Obj) : Prop := ∃ u, OSeq [.int k u] o
section
variable {w : World} {σ : Shared} {A : Around} {env : Env} {g : Heap} {ms : List Entry} {E : Value → Heap → Nat → Prop} {h : Heap} {t n : Nat} {Q : Value → Heap → Nat → Prop} {pos p p' : Pos} {id : Str}
theorem takeE_ {f pl : Addr} {cs : List Int} {k lim kk : Nat} {i : Int} (j : Nat) (G : Gl w g) (hA : Room A (n + 1)) (T : TakeF g f pl cs) (H : Led g ms h) (hf : EvX (cx w σ) A env g ms (.Name id p) (.ref f)) (hj : ms[j]? = some (pl, OPl k)) (hk : k ≤ 100) (e : i = lim) (hl : 1 ≤ lim)
    (q : ∀ r u h' t', (r : Nat) < lim → Led g (ms.set j (pl, OPl (k + 1))) h' → Q (.int r u) h' t') : W (cx w σ) A (eval (.Call (.Name id p) [.Constant (.int i) kk p'] [] pos) env) Q E h t := by
  obtain ⟨pa, ca, ce, vs, c', qual, doc, pm, ctv, ho, -⟩ := T.ex
  refine fnE_ H hf (o := takeO pa ca c' qual doc pm ctv) (by rfl) rfl fun h₁ t₁ H₁ => spl_ (EvV.w (P := IsI i) (by walk_at "ev") H₁ ?_) rfl
  rintro _ h₂ t₂ ⟨u, rfl⟩ H₂
  refine spl_nil ⟨H₂.base _ _ ho, ?_⟩
  obtain ⟨ob, hob, u', hs⟩ := H₂.at j hj
  refine take_ G H₂.base hA T (H₂.off j hj) ⟨ob, hob, hs⟩ hk e hl fun r v v' h' t' hr H' => q r v h' t' hr ?_
  exact H₂.call1 j hj H'.done (let ⟨o, a, b⟩ := H'.at 0 rfl; ⟨o, a, v', b⟩)
end
end
section
noncomputable def lawBody : List Stmt := match stAt 35 with
  | .FunctionDef _ _ b .. => b
  | _ => []
noncomputable def lawNames : List (Str × NameKind) := match stAt 35 with
  | .FunctionDef _ _ _ _ _ _ sc .. => sc.names
  | _ => []
noncomputable abbrev lawCells (L : Addr) : List (Str × Addr) := [("step", L + 3), ("signs", L + 2), ("take", L + 1)]
section
variable {w : World} {σ : Shared} {A : Around} {E : Value → Heap → Nat → Prop} {h : Heap} {t n : Nat} {Q : Flow → Heap → Nat → Prop} {env : Env} {g : Heap}
set_option maxHeartbeats 4000000 in
theorem law_1 {sr : Addr} {vs : List Value} {is : List Int} {mg : Str → Option Value} (G : Gl w g) (hg : g.Ns mainGlobals mg) (B : g.BuiltinsAt mg 242) (hA : Room A (n + 1)) (hl : g.IsList sr vs.toArray) (hv : IntsAre vs is) (hz : is.length ≤ 1000)
    (N : EnvN env lawNames) (NC : env.cells = lawCells env.locals) (H : Led g [(env.locals, OLoc [("script", .ref sr)]), (env.locals + 3, OCell none), (env.locals + 2, OCell none), (env.locals + 1, OCell none), (242, OIs (tabObj #[]))] h)
    (q : ∀ g' f pl cs h t, g.StaysIn g' → TakeF g' f pl cs → g'.IsCell (env.locals + 1) (some (.ref f)) → Led g' [(env.locals, OLoc []), (env.locals + 3, OCell none), (env.locals + 2, OCell none), (242, OTab), (pl, OPl 0)] h → Vs (cx w σ) A env (lawBody.drop 1) Q E h t) :
    Vs (cx w σ) A env (lawBody.drop 0) Q E h t := by
  refine Vs.step (Xs.assignE (call_fn H (EvX.glob (gn_law_taker G) N (by kernel_rfl) (by kernel_rfl)) ⟨_, _, G.X 247 _ (by rfl), rfl⟩ (.cons (P := fun v => v = .ref sr) (by walk_at "ev") .nil rfl) rfl ?_) rfl)
  rintro _ h₁ t₁ H₁ ⟨_, _, rfl, rfl, rfl⟩
  obtain ⟨_, hT, rfl⟩ := H₁.at 4 rfl
  refine law_taker_ G H₁.base (H₁.off 4 rfl) hT hg B hA hl hv hz ?_
  intro f pl pa ca ce ws cs c' qual doc pm ctv u h₂ t₂ hw h1 h63 Hn
  have H₂ := H₁.merge1 4 rfl Hn
  dsimp only [List.set, List.cons_append, List.nil_append] at H₂
  refine store_cell 3 H₂ N (by kernel_rfl) (d := env.locals + 1) (by rw [NC]; rfl) rfl fun h₃ H₃ => Xs.vs ?_
  dsimp only [List.set] at H₃
  obtain ⟨g', hg', H₄, fz, -⟩ := Led.split [(env.locals, _), (env.locals + 3, _), (env.locals + 2, _), (242, _), (pl, _)] ((H₃.up 3 rfl).mv 5)
  obtain ⟨_, ho, rfl⟩ := fz (f, OIs (takeO pa ca c' qual doc pm ctv)) (by simp)
  obtain ⟨oc, hoc, ov, ot, hcd, hc1⟩ := fz (c', OCode qual) (by simp)
  refine q g' f pl cs h₃ _ hg' ⟨⟨pa, ca, ce, ws, c', qual, doc, pm, ctv, ho, fz (pa, OCell (some (.ref pl))) (by simp), fz (ca, OCell (some (.ref ce))) (by simp), isList_of (fz (ce, OList ws) (by simp)), hw, c', oc, ov, ot, rfl, hoc, hcd, hc1⟩, h1, h63⟩ (fz (env.locals + 1, OCell (some (.ref f))) (by simp)) ?_
  exact (H₄.weaken 0 rfl (OLoc.sub LocSub.nil)).weaken 4 rfl fun o ho => ⟨u, ho⟩
end
end
section
theorem addN_ {c : Cx} {A : Around} {E : Value → Heap → Nat → Prop} {h : Heap} {t : Nat} {i : Int} {a b : Nat} {u u' : Tok} {Q : Value → Heap → Nat → Prop} (e : i = a) (q : Q (.int ((a + b : Nat) : Int) t) h (t + 1)) : W c A (binaryOp .Add (.int i u) (.int (b : Int) u')) Q E h t := by
  subst e
  exact addI_ (by rw [← Int.natCast_add]; exact q)
section
variable {w : World} {σ : Shared} {A : Around} {E : Value → Heap → Nat → Prop} {h : Heap} {t n : Nat} {Q : Flow → Heap → Nat → Prop} {env : Env} {g : Heap}
set_option maxHeartbeats 4000000 in
theorem law_2 {f pl : Addr} {cs : List Int} (G : Gl w g) (hA : Room A (n + 1)) (T : TakeF g f pl cs) (hc : g.IsCell (env.locals + 1) (some (.ref f)))
    (N : EnvN env lawNames) (NC : env.cells = lawCells env.locals) (H : Led g [(env.locals, OLoc []), (env.locals + 3, OCell none), (env.locals + 2, OCell none), (242, OTab), (pl, OPl 0)] h)
    (q : ∀ g' (m b₀ b₁ b₂ s : Nat) bd sg u v v' v'' h t, g.StaysIn g' → m < 15 → b₀ < 16 → b₁ < 5 → b₂ < 6 → s < 256 → Bds g' bd (1 + b₀) (3 + b₁) b₂ → g'.IsCell (env.locals + 2) (some (.ref sg)) → IsTup g' sg [.int 97 v, .int s v', .int 98 v''].toArray →
      Led g' [(env.locals, OLoc [("bounds", .ref bd), ("many", .int m u)]), (env.locals + 3, OCell none), (242, OTab), (pl, OPl 5)] h → Vs (cx w σ) A env (lawBody.drop 4) Q E h t) :
    Vs (cx w σ) A env (lawBody.drop 1) Q E h t := by
  have hf : ∀ ms p, EvX (cx w σ) A env g ms (.Name "take" p) (.ref f) := fun ms p => EvX.gc N (by kernel_rfl) NC (by with_unfolding_all rfl) hc (by kernel_rfl)
  refine Vs.step (Xs.assignE (takeE_ 4 G hA T H (hf _ _) rfl (k := 0) (by omega) (lim := 15) rfl (by omega) fun m u h₁ t₁ hm H₁ => ?_) rfl)
  dsimp only [List.set] at H₁
  refine store_loc H₁ N (by kernel_rfl) fun h₂ H₂ => Xs.vs ?_
  refine Vs.step (Xs.assignE (tupE_ (spl_ (binE_ (EvV.w (P := IsI 1) (by walk_at "ev") H₂ ?_)) rfl)) rfl)
  rintro _ h₃ t₃ ⟨u₃, rfl⟩ H₃
  refine takeE_ 4 G hA T H₃ (hf _ _) rfl (k := 1) (by omega) (lim := 16) rfl (by omega) fun b₀ u₄ h₄ t₄ l₀ H₄ => addN_ (a := 1) rfl (spl_ (binE_ (EvV.w (P := IsI 3) (by walk_at "ev") H₄ ?_)) rfl)
  rintro _ h₅ t₅ ⟨u₅, rfl⟩ H₅
  dsimp only [List.set] at H₅
  refine takeE_ 4 G hA T H₅ (hf _ _) rfl (k := 2) (by omega) (lim := 5) rfl (by omega) fun b₁ u₆ h₆ t₆ l₁ H₆ => addN_ (a := 3) rfl (spl_ ?_ rfl)
  dsimp only [List.set] at H₆
  refine takeE_ 4 G hA T H₆ (hf _ _) rfl (k := 3) (by omega) (lim := 6) rfl (by omega) fun b₂ u₇ h₇ t₇ l₂ H₇ => spl_nil ⟨Nat.le_of_ble_eq_true rfl, _, _, H₇, fun bd h₈ t₈ H₈ => ?_⟩
  dsimp only [List.set] at H₈
  refine store_loc H₈.swap N (by kernel_rfl) fun h₉ H₉ => Xs.vs ?_
  refine Vs.step (Xs.assignE (tupE_ (spl_ (EvV.w (P := IsI 97) (by walk_at "ev") H₉ ?_) rfl)) rfl)
  rintro _ h₁₀ t₁₀ ⟨v, rfl⟩ HA
  refine spl_ (takeE_ 5 G hA T HA (hf _ _) rfl (k := 4) (by omega) (lim := 256) rfl (by omega) fun s v' h₁₁ t₁₁ ls HB => spl_ (EvV.w (P := IsI 98) (by walk_at "ev") HB ?_) rfl) rfl
  rintro _ h₁₂ t₁₂ ⟨v'', rfl⟩ HC
  dsimp only [List.set] at HC
  refine spl_nil ⟨Nat.le_of_ble_eq_true rfl, _, _, HC, fun sg h₁₃ t₁₃ HD => ?_⟩
  refine store_cell 4 HD N (by kernel_rfl) (d := env.locals + 2) (by rw [NC]; rfl) rfl fun h₁₄ HE => Xs.vs ?_
  dsimp only [List.set] at HE
  replace HE := ((HE.mv 6).up 1 rfl |>.mv 6).up 2 rfl |>.mv 6
  dsimp only [ins, List.eraseIdx] at HE
  obtain ⟨g', hg', HF, fz, -⟩ := Led.split [(env.locals, _), (env.locals + 3, _), (242, _), (pl, _)] HE
  exact q g' m b₀ b₁ b₂ s bd sg u v v' v'' h₁₄ _ hg' hm l₀ l₁ l₂ ls ⟨_, _, _, isTup_of (fz (bd, OTup [.int ((1 + b₀ : Nat) : Int) t₄, .int ((3 + b₁ : Nat) : Int) t₆, .int b₂ u₇]) (by simp))⟩ (fz (env.locals + 2, OCell (some (.ref sg))) (by simp)) (isTup_of (fz (sg, OTup [.int 97 v, .int s v', .int 98 v'']) (by simp))) HF
end
end
section
noncomputable def NatsB (ys : List Value) (i : Nat) : Prop := ∃ ns : List Int, ns.length = i ∧ (∀ n ∈ ns, 0 ≤ n ∧ n < 256) ∧ IntsAre ys ns
theorem NatsB.snoc {ys : List Value} {i x : Nat} {u : Tok} (N : NatsB ys i) (hx : x < 256) : NatsB (ys ++ [.int x u]) (i + 1) := by
  obtain ⟨ns, a, b, d⟩ := N
  refine ⟨ns ++ [(x : Int)], by rw [List.length_append, a]; rfl, fun n hn => ?_, d.append (.cons _ _ .nil)⟩
  rcases List.mem_append.mp hn with h | h
  · exact b n h
  · rw [List.mem_singleton] at h; omega
noncomputable def OcJ (L : Addr) (l : List (Str × Value)) (d pl : Addr) (i : Nat) (ys : List Value) (ms : List Entry) : Prop := NatsB ys i ∧ ms = [(L, OLoc l), (d, OCell none), (242, OTab), (pl, OPl (5 + i))]
section
variable {w : World} {σ : Shared} {A : Around} {E : Value → Heap → Nat → Prop} {h : Heap} {t n : Nat} {Q : Flow → Heap → Nat → Prop} {env : Env} {g : Heap}
set_option maxHeartbeats 4000000 in
theorem law_3 {f pl bd sg : Addr} {cs : List Int} {m s : Nat} {u v v' v'' : Tok} (G : Gl w g) (hA : Room A (n + 1)) (T : TakeF g f pl cs) (hc : g.IsCell (env.locals + 1) (some (.ref f))) (hs : g.IsCell (env.locals + 2) (some (.ref sg))) (hm : m < 15) (ls : s < 256)
    (ht : IsTup g sg [.int 97 v, .int s v', .int 98 v''].toArray) (N : EnvN env lawNames) (NC : env.cells = lawCells env.locals) (H : Led g [(env.locals, OLoc [("bounds", .ref bd), ("many", .int m u)]), (env.locals + 3, OCell none), (242, OTab), (pl, OPl 5)] h)
    (q : ∀ (o : List UInt8) yo h t, o.length = m → Led g [(env.locals, OLoc [("octets", .bytes o.toArray yo), ("bounds", .ref bd), ("many", .int m u)]), (env.locals + 3, OCell none), (242, OTab), (pl, OPl (5 + m))] h → Vs (cx w σ) A env (lawBody.drop 5) Q E h t) :
    Vs (cx w σ) A env (lawBody.drop 4) Q E h t := by
  refine Vs.step (Xs.assignE (tyE_ H (EvX.blt (bn_bytes G) N (by kernel_rfl) (by kernel_rfl)) rfl fun h₁ t₁ H₁ => spl_ ?_ rfl) rfl)
  refine comp_ (g := g) (cl := [("take", env.locals + 1), ("signs", env.locals + 2)]) (n := m) (P := fun i v => IsI i v) (OcJ env.locals [("bounds", .ref bd), ("many", .int m u)] (env.locals + 3) pl)
    (by rw [NC]; rfl) (by decide) rfl (by decide) rfl N (by omega) ?he ?turn ?fin (fun _ => rfl)
  case he =>
    exact range1_ (m := m) hA.quiet H₁ (EvX.blt (bn_range G) N (by kernel_rfl) (by kernel_rfl)) (i := (m : Int)) (by walk_at "ev") rfl (by omega) rfl fun it h t H ok => ⟨_, ⟨⟨[], rfl, (by simp), IntsAre.nil⟩, rfl⟩, H, ok⟩
  case turn =>
    rintro i ys g' ms v h₂ t₂ Cd cenv ecenv Nc hi kg ⟨hI, rfl⟩ ⟨uu, rfl⟩ H₂
    have hcc : cenv.cells = ([("take", env.locals + 1), ("signs", env.locals + 2)] : List (Str × Addr)) := by rw [ecenv]; rfl
    have G' := G.keeps kg
    have T' := T.keeps kg
    have hc' := hc.keeps kg
    have hs' := hs.keeps kg
    have ht' := IsTup.keeps ht kg
    refine tests_nil ⟨_, H₂, fun _ => ?_, fun h => nomatch h⟩
    refine subsE_ (EvV.w (P := fun v => v = .ref sg) (EvX.gc Nc (by kernel_rfl) hcc (by with_unfolding_all rfl) hs' (by kernel_rfl)) H₂ ?_)
    rintro _ h₃ t₃ rfl H₃
    refine subsE_ (tup_ H₃ (.cons (P := IsI 0) (by walk_at "ev") (.cons (P := IsI 0) (by walk_at "ev") (.cons (P := IsI 2) (by walk_at "ev") (.cons (P := IsI 1) (by walk_at "ev") .nil rfl) rfl) rfl) rfl) (fun vs r => by obtain ⟨_, _, rfl, _, _, _, rfl, _, _, _, rfl, _, _, _, rfl, _, rfl⟩ := r; exact Nat.le_of_ble_eq_true rfl) ?_)
    rintro vs a h₄ t₄ ⟨_, _, rfl, ⟨u₁, rfl⟩, _, _, rfl, ⟨u₂, rfl⟩, _, _, rfl, ⟨u₃, rfl⟩, _, _, rfl, ⟨u₄, rfl⟩, rfl⟩ H₄
    refine takeE_ 5 G' hA T' H₄ (EvX.gc Nc (by kernel_rfl) hcc (by with_unfolding_all rfl) hc' (by kernel_rfl)) rfl (k := 5 + i) (by omega) (lim := 4) rfl (by omega) fun x ux h₅ t₅ hx H₅ => ?_
    dsimp only [List.set] at H₅
    have h1 : ∃ (y : Nat) (uy : Tok), ([.int 0 u₁, .int 0 u₂, .int 2 u₃, .int 1 u₄] : List Value)[x]? = some (.int y uy) ∧ y < 3 := by
      match x, hx with
      | 0, _ => exact ⟨0, _, rfl, by decide⟩
      | 1, _ => exact ⟨0, _, rfl, by decide⟩
      | 2, _ => exact ⟨2, _, rfl, by decide⟩
      | 3, _ => exact ⟨1, _, rfl, by decide⟩
    obtain ⟨y, uy, hy, hy3⟩ := h1
    have h2 : ∃ (z : Nat) (uz : Tok), ([.int 97 v, .int s v', .int 98 v''] : List Value)[y]? = some (.int z uz) ∧ z < 256 := by
      match y, hy3 with
      | 0, _ => exact ⟨97, _, rfl, by decide⟩
      | 1, _ => exact ⟨s, _, rfl, ls⟩
      | 2, _ => exact ⟨98, _, rfl, by decide⟩
    obtain ⟨z, uz, hz, hz3⟩ := h2
    refine tupItem_ (H₅.at 0 rfl) hy (Nat.le_of_ble_eq_true rfl) ?_ rfl
    refine tupItem_ (vs := [.int 97 v, .int s v', .int 98 v'']) (let ⟨o, a, b⟩ := IsTup.keeps ht' H₅.base; ⟨o, a, b⟩) hz (Nat.le_of_ble_eq_true rfl) ?_ rfl
    exact ⟨_, H₅.tail.weaken 0 rfl (OLoc.sub LocSub.nil), hI.snoc hz3, rfl⟩
  case fin =>
    rintro ys ms D h₂ t₂ ⟨⟨ns, hn, hb, hi⟩, rfl⟩ hys H₂
    refine spl_nil (bytes_ hA.quiet H₂ (isList_of (H₂.at 0 rfl)) hi hb (by omega) fun yo h₃ t₃ H₃ => ?_)
    refine store_loc H₃.tail N (by kernel_rfl) fun h₄ H₄ => Xs.vs ?_
    exact q _ yo h₄ _ (by rw [List.length_map]; exact hn) H₄
end
end
section
noncomputable def IJ (es : Nat → List Entry) (i : Nat) (ys : List Value) (ms : List Entry) : Prop := (∃ ns : List Int, ns.length = i ∧ IntsAre ys ns) ∧ ms = es i
noncomputable abbrev takeSc : Scope := { kind := .function, names := [(".0", .local), ("turn", .local), ("take", .free)], isGenerator := false, isCoroutine := false }
noncomputable abbrev octSc : Scope := { kind := .function, names := [(".0", .local), ("octet", .local), ("step", .free)], isGenerator := false, isCoroutine := false }
section
variable {w : World} {σ : Shared} {A : Around} {E : Value → Heap → Nat → Prop} {h : Heap} {t n : Nat} {env : Env} {g : Heap} {p p₀ p₁ p₂ p₃ p₄ p₅ p₆ p₇ p₈ p₉ pos : Pos} {kk k₂ k₃ : Nat}
set_option maxHeartbeats 4000000 in
theorem takes_ {f pl : Addr} {cs : List Int} {Q : Value → Heap → Nat → Prop} {lim cnt : Nat} {i₁ i₂ : Int} (pre : List Entry) (k : Nat) (G : Gl w g) (hA : Room A (n + 1)) (T : TakeF g f pl cs) (hc : g.IsCell (env.locals + 1) (some (.ref f)))
    (N : EnvN env lawNames) (NC : env.cells = lawCells env.locals) (H : Led g (pre ++ [(pl, OPl k)]) h) (e₁ : i₁ = lim) (hl : 1 ≤ lim) (e₂ : i₂ = cnt) (hk : k + cnt ≤ 100)
    (q : ∀ D ys h t, (∃ ns : List Int, ns.length = cnt ∧ IntsAre ys ns) → Led g ((D, OList ys) :: (pre ++ [(pl, OPl (k + cnt))])) h → Q (.ref D) h t) :
    W (cx w σ) A (eval (.ListComp (.Call (.Name "take" p₁) [.Constant (.int i₁) kk p₂] [] p₃) [⟨.Name "turn" p₄, .Call (.Name "range" p₅) [.Constant (.int i₂) k₂ p₆] [] p₇, [], 0⟩] takeSc pos) env) Q E h t := by
  subst e₁ e₂
  refine comp_ (g := g) (cl := [("take", env.locals + 1)]) (n := cnt) (P := fun i v => IsI i v) (IJ fun i => pre ++ [(pl, OPl (k + i))])
    (by rw [NC]; rfl) (by decide) rfl (by decide) rfl N (by omega) ?he ?turn ?fin (fun _ => rfl)
  case he =>
    exact range1_ (m := cnt) hA.quiet H (EvX.blt (bn_range G) N (by kernel_rfl) (by kernel_rfl)) (i := (cnt : Int)) (by walk_at "ev") rfl (by omega) rfl fun it h t H ok => ⟨_, ⟨⟨[], rfl, IntsAre.nil⟩, rfl⟩, H, ok⟩
  case turn =>
    rintro i ys g' ms v h₂ t₂ Cd cenv ecenv Nc hi kg ⟨⟨ns, hn, hI⟩, rfl⟩ ⟨uu, rfl⟩ H₂
    have hcc : cenv.cells = ([("take", env.locals + 1)] : List (Str × Addr)) := by rw [ecenv]; rfl
    have G' := G.keeps kg
    have T' := T.keeps kg
    have hc' := hc.keeps kg
    refine tests_nil ⟨_, H₂, fun _ => ?_, fun h => nomatch h⟩
    refine takeE_ (pre.length + 1) G' hA T' H₂ (EvX.gc Nc (by kernel_rfl) hcc (by with_unfolding_all rfl) hc' (by kernel_rfl)) (by simp) (k := k + i) (by omega) (lim := lim) rfl hl fun x ux h₅ t₅ hx H₅ => ?_
    rw [List.set_cons_succ, List.set_append_right _ _ (Nat.le_refl _), Nat.sub_self] at H₅
    exact ⟨_, H₅.weaken 0 rfl (OLoc.sub LocSub.nil), ⟨ns ++ [(x : Int)], by rw [List.length_append, hn]; rfl, hI.append (.cons _ _ .nil)⟩, rfl⟩
  case fin =>
    rintro ys ms D h₂ t₂ ⟨hn, rfl⟩ hys H₂
    exact q D ys h₂ t₂ hn H₂
set_option maxHeartbeats 4000000 in
theorem octs_ {Q : Value → Heap → Nat → Prop} {ms : List Entry} {st : Nat} {us : Tok} (G : Gl w g) (hA : Room A (n + 1)) (hc : g.IsCell (env.locals + 3) (some (.int st us)))
    (N : EnvN env lawNames) (NC : env.cells = lawCells env.locals) (H : Led g ms h)
    (q : ∀ D ys h t, (∃ ns : List Int, ns.length = 256 ∧ IntsAre ys ns) → Led g ((D, OList ys) :: ms) h → Q (.ref D) h t) :
    W (cx w σ) A (eval (.ListComp (.BinOp (.BinOp (.BinOp (.Name "octet" p₁) .Mult (.Name "step" p₂) p₃) .Add (.Constant (.int 5) kk p₄) p₅) .Mod (.Constant (.int 11) k₂ p₆) p₇) [⟨.Name "octet" p, .Call (.Name "range" p₈) [.Constant (.int 256) k₃ p₉] [] p₀, [], 0⟩] octSc pos) env) Q E h t := by
  refine comp_ (g := g) (cl := [("step", env.locals + 3)]) (n := 256) (P := fun i v => IsI i v) (IJ fun i => ms)
    (by rw [NC]; rfl) (by decide) rfl (by decide) rfl N (by omega) ?he ?turn ?fin (fun _ => rfl)
  case he =>
    exact range1_ (m := 256) hA.quiet H (EvX.blt (bn_range G) N (by kernel_rfl) (by kernel_rfl)) (i := 256) (by walk_at "ev") rfl (by omega) rfl fun it h t H ok => ⟨_, ⟨⟨[], rfl, IntsAre.nil⟩, rfl⟩, H, ok⟩
  case turn =>
    rintro i ys g' ms v h₂ t₂ Cd cenv ecenv Nc hi kg ⟨⟨ns, hn, hI⟩, rfl⟩ ⟨uu, rfl⟩ H₂
    have hcc : cenv.cells = ([("step", env.locals + 3)] : List (Str × Addr)) := by rw [ecenv]; rfl
    have hc' := hc.keeps kg
    refine tests_nil ⟨_, H₂, fun _ => ?_, fun h => nomatch h⟩
    refine EvV.w (P := IsI (((i : Int) * (st : Int) + 5).fmod 11)) (EvI.mod (EvI.add (EvI.mulS (by walk_at "ev") (by walk_at "ev") (by omega)) (by walk_at "ev")) (by walk_at "ev") (by decide)) H₂ ?_
    rintro _ h₃ t₃ ⟨u₃, rfl⟩ H₃
    exact ⟨_, H₃.weaken 0 rfl (OLoc.sub LocSub.nil), ⟨ns ++ [_], by rw [List.length_append, hn]; rfl, hI.append (.cons _ _ .nil)⟩, rfl⟩
  case fin =>
    rintro ys ms D h₂ t₂ ⟨hn, rfl⟩ hys H₂
    exact q D ys h₂ t₂ hn H₂
theorem nines_ {Q : Value → Heap → Nat → Prop} {ms : List Entry} {i : Int} {cnt : Nat} (H : Led g ms h) (e : i = cnt) (hz : cnt ≤ 1000)
    (q : ∀ D ys h t, (∃ ns : List Int, ns.length = cnt ∧ IntsAre ys ns) → Led g ((D, OList ys) :: ms) h → Q (.ref D) h t) :
    W (cx w σ) A (eval (.BinOp (.List [.Constant (.int 9) kk p₁] p₂) .Mult (.Constant (.int i) k₂ p₃) pos) env) Q E h t := by
  subst e
  refine binE_ (list_ H (.cons (P := IsI 9) (by walk_at "ev") .nil rfl) (fun vs r => by obtain ⟨_, _, rfl, _, rfl⟩ := r; exact Nat.le_of_ble_eq_true rfl) fun vs a h₁ t₁ r H₁ => ?_)
  obtain ⟨_, _, rfl, ⟨u, rfl⟩, rfl⟩ := r
  refine EvV.w (P := IsI (cnt : Int)) (by walk_at "ev") H₁ ?_
  rintro _ h₂ t₂ ⟨u₂, rfl⟩ H₂
  refine mulOne_ (n := cnt) 0 H₂ rfl rfl (by omega) fun b h₃ t₃ H₃ => q b _ h₃ t₃ ⟨List.replicate cnt 9, List.length_replicate .., ?_⟩ (H₃.cut 1)
  clear H₁ H₂ H₃ hz q
  induction cnt with
  | zero => exact .nil
  | succ k ih => exact .cons 9 u ih
end
end
section
noncomputable def OInts (n : Nat) (o : Obj) : Prop := ∃ ys ns, OList ys o ∧ IntsAre ys ns ∧ (ns : List Int).length = n
theorem OInts.add {c : Cx} {A : Around} {E : Value → Heap → Nat → Prop} {g h : Heap} {t n k : Nat} {ms : List Entry} {a b : Addr} {Q : Value → Heap → Nat → Prop} (H : Led g ((b, OInts k) :: (a, OInts n) :: ms) h) (hn : n + k ≤ 1000)
    (q : ∀ d h t, Led g ((d, OInts (n + k)) :: ms) h → Q (.ref d) h t) : W c A (binaryOp .Add (.ref a) (.ref b)) Q E h t := by
  obtain ⟨o, ho, ys, ns, hl, hi, e⟩ := H.at 1 rfl
  obtain ⟨o', ho', ys', ns', hl', hi', e'⟩ := H.at 0 rfl
  refine addLists_ H ⟨o, ho, hl⟩ ⟨o', ho', hl'⟩ (by rw [hi.length, hi'.length]; omega) fun d h' t' H' => q d h' t' ((H'.cut 1).cut 1 |>.weaken 0 rfl fun o ho => ⟨ys ++ ys', ns ++ ns', ho, hi.append hi', by rw [List.length_append, e, e']⟩)
theorem OInts.mk {g h : Heap} {ms : List Entry} {D : Addr} {ys : List Value} {n : Nat} (H : Led g ((D, OList ys) :: ms) h) (e : ∃ ns : List Int, ns.length = n ∧ IntsAre ys ns) : Led g ((D, OInts n) :: ms) h :=
  H.weaken 0 rfl fun o ho => let ⟨ns, a, b⟩ := e; ⟨ys, ns, ho, b, a⟩
section
variable {w : World} {σ : Shared} {A : Around} {E : Value → Heap → Nat → Prop} {h : Heap} {t n : Nat} {Q : Flow → Heap → Nat → Prop} {env : Env} {g : Heap}
set_option maxHeartbeats 4000000 in
theorem law_5 {f pl bd : Addr} {cs : List Int} {k : Nat} {u yo : Tok} {o : List UInt8} {m : Nat} (G : Gl w g) (hA : Room A (n + 1)) (T : TakeF g f pl cs) (hc : g.IsCell (env.locals + 1) (some (.ref f))) (hk : k ≤ 20)
    (N : EnvN env lawNames) (NC : env.cells = lawCells env.locals) (H : Led g [(env.locals, OLoc [("octets", .bytes o.toArray yo), ("bounds", .ref bd), ("many", .int m u)]), (env.locals + 3, OCell none), (242, OTab), (pl, OPl k)] h)
    (q : ∀ g' la ld h t, g.StaysIn g' → (∃ ob, g'.get? la = some ob ∧ OInts 286 ob) → (∃ ob, g'.get? ld = some ob ∧ OInts 30 ob) → Led g' [(env.locals, OLoc [("distances", .ref ld), ("literals", .ref la), ("octets", .bytes o.toArray yo), ("bounds", .ref bd), ("many", .int m u)]), (242, OTab)] h → Vs (cx w σ) A env (lawBody.drop 8) Q E h t) :
    Vs (cx w σ) A env (lawBody.drop 5) Q E h t := by
  have hf : ∀ ms p, EvX (cx w σ) A env g ms (.Name "take" p) (.ref f) := fun ms p => EvX.gc N (by kernel_rfl) NC (by with_unfolding_all rfl) hc (by kernel_rfl)
  refine Vs.step (Xs.assignE (binE_ (EvV.w (P := IsI 1) (by walk_at "ev") H ?_)) rfl)
  rintro _ h₁ t₁ ⟨u₁, rfl⟩ H₁
  refine takeE_ 3 G hA T H₁ (hf _ _) rfl (k := k) (by omega) (lim := 5) rfl (by omega) fun r u₂ h₂ t₂ hr H₂ => addN_ (a := 1) rfl ?_
  dsimp only [List.set] at H₂
  refine store_cell 1 H₂ N (by kernel_rfl) (d := env.locals + 3) (by rw [NC]; rfl) rfl fun h₃ H₃ => Xs.vs ?_
  dsimp only [List.set] at H₃
  replace H₃ := (H₃.up 1 rfl).mv 3
  dsimp only [ins, List.eraseIdx] at H₃
  obtain ⟨g₁, kg, H₄, fz, -⟩ := Led.split [(env.locals, _), (242, _), (pl, _)] H₃
  have hst : g₁.IsCell (env.locals + 3) (some (.int ((1 + r : Nat) : Int) t₂)) := fz (env.locals + 3, OCell (some (.int ((1 + r : Nat) : Int) t₂))) (by simp)
  have q' : ∀ g' la ld h t, g₁.StaysIn g' → (∃ ob, g'.get? la = some ob ∧ OInts 286 ob) → (∃ ob, g'.get? ld = some ob ∧ OInts 30 ob) → Led g' [(env.locals, OLoc [("distances", .ref ld), ("literals", .ref la), ("octets", .bytes o.toArray yo), ("bounds", .ref bd), ("many", .int m u)]), (242, OTab)] h → Vs (cx w σ) A env (lawBody.drop 8) Q E h t :=
    fun g' la ld h t k a b H => q g' la ld h t (stays_trans kg k) a b H
  clear q H H₁ H₂ H₃ fz hf
  replace G := G.keeps kg
  replace T := T.keeps kg
  replace hc := hc.keeps kg
  clear kg
  refine Vs.step (Xs.assignE (binE_ (binE_ (binE_ (octs_ G hA hst N NC H₄ fun D ys h₅ t₅ e H₅ => ?_)))) rfl)
  replace H₅ := OInts.mk H₅ e
  refine list_ H₅ (.cons (P := IsI 1) (by walk_at "ev") .nil rfl) (fun vs r => by obtain ⟨_, _, rfl, _, rfl⟩ := r; exact Nat.le_of_ble_eq_true rfl) fun vs b h₆ t₆ r₆ H₆ => ?_
  obtain ⟨_, _, rfl, ⟨u₆, rfl⟩, rfl⟩ := r₆
  replace H₆ := OInts.mk (n := 1) H₆ ⟨[1], rfl, .cons 1 u₆ .nil⟩
  refine OInts.add H₆ (by omega) fun d h₇ t₇ H₇ => ?_
  refine takes_ (cnt := 5) (lim := 8) [(d, OInts (256 + 1)), (env.locals, OLoc [("octets", .bytes o.toArray yo), ("bounds", .ref bd), ("many", .int m u)]), (242, OTab)] (k + 1) G hA T hc N NC H₇ rfl (by omega) rfl (by omega) fun D ys h₈ t₈ e H₈ => ?_
  replace H₈ := OInts.mk H₈ e
  refine OInts.add H₈ (by omega) fun d h₉ t₉ H₉ => ?_
  refine nines_ (cnt := 24) H₉ rfl (by omega) fun D ys h₁₀ t₁₀ e HA => ?_
  replace HA := OInts.mk HA e
  refine OInts.add HA (by omega) fun la h₁₁ t₁₁ HB => ?_
  refine store_loc HB.swap N (by kernel_rfl) fun h₁₂ HC => Xs.vs ?_
  clear H₄ H₅ H₆ H₇ H₈ H₉ HA HB
  refine Vs.step (Xs.assignE (binE_ (takes_ (cnt := 8) (lim := 7) [(env.locals, OLoc [("literals", .ref la), ("octets", .bytes o.toArray yo), ("bounds", .ref bd), ("many", .int m u)]), (la, OInts (256 + 1 + 5 + 24)), (242, OTab)] (k + 1 + 5) G hA T hc N NC HC rfl (by omega) rfl (by omega) fun D ys h₁ t₁ e H₁ => ?_)) rfl)
  replace H₁ := OInts.mk H₁ e
  refine nines_ (cnt := 22) H₁ rfl (by omega) fun D ys h₂ t₂ e H₂ => ?_
  replace H₂ := OInts.mk H₂ e
  refine OInts.add H₂ (by omega) fun ld h₃ t₃ H₃ => ?_
  refine store_loc H₃.swap N (by kernel_rfl) fun h₄ H₄ => Xs.vs ?_
  replace H₄ := (H₄.up 3 rfl).mv 1
  dsimp only [ins, List.eraseIdx] at H₄
  obtain ⟨g₂, kg, H₅, fz, -⟩ := Led.split [(env.locals, _), (242, _)] H₄
  exact q' g₂ la ld h₄ _ kg (fz (la, OInts 286) (by simp)) (fz (ld, OInts 30) (by simp)) H₅
end
end
section
open Sem (wp)
section
variable {prog : Program} {w : World} {A : Around} {E : Value → Shared → Prop} {s : Shared} {env : Env}
theorem q_isTrue_Compare1 {M : Model} {l op r pos whole} {Q : Bool → Shared → Prop}
    (h : wpQ M A (eval l env) (fun a s₁ => wpAny M A (eval r env) (fun b s₂ => wpAny M A (compareOp op a b) (fun c s₃ => wpAny M A (truthy c) Q E s₃) E s₂) E s₁) E s)
    (hm : behindInMarks op r = false) : wpQ M A (isTrue (.Compare l [op] [r] pos) env whole) Q E s := fun Γ p hΓ hc => by
  simp only [isTrue_Compare1, markedBehindIn_of_false hm, Sem.wp_bind', Sem.wp_holding, Sem.wp_cmd_standAt, Sem.wp_operate]
  exact Sem.wp_mono M Γ _ (fun a p₁ s₁ h₁ => Sem.wp_mono M Γ _ (fun b _ s₂ h₂ => Sem.wp_mono M Γ _ (fun c p₃ s₃ h₃ => h₃ Γ p₃ hΓ)
    (fun _ _ _ h' => h') _ _ (h₂ Γ _ hΓ)) (fun _ _ _ h' => h') _ _ (h₁ Γ p₁ hΓ)) (fun _ _ _ h' => h') _ _ (h Γ p hΓ hc)
theorem q_Compare1 {M : Model} {l op r pos} {Q : Value → Shared → Prop}
    (h : wpQ M A (eval l env) (fun a s₁ => wpAny M A (eval r env) (fun b s₂ => wpAny M A (compareOp op a b) Q E s₂) E s₁) E s)
    (hm : behindInMarks op r = false) : wpQ M A (eval (.Compare l [op] [r] pos) env) Q E s := fun Γ p hΓ hc => by
  simp only [eval_Compare1, markedBehindIn_of_false hm, Sem.wp_bind', Sem.wp_holding, Sem.wp_cmd_standAt, Sem.wp_operate]
  exact Sem.wp_mono M Γ _ (fun a p₁ s₁ h₁ => Sem.wp_mono M Γ _ (fun b _ s₂ h₂ => h₂ Γ _ hΓ) (fun _ _ _ h' => h') _ _ (h₁ Γ p₁ hΓ))
    (fun _ _ _ h' => h') _ _ (h Γ p hΓ hc)
end
section
variable {c : Cx} {A : Around} {env : Env} {g : Heap} {ms : List Entry} {ns : List (Str × NameKind)} {E : Value → Heap → Nat → Prop} {h : Heap} {t : Nat} {rest : List Stmt} {l la : List (Str × Value)} {pos p p' p₁ p₂ p₃ : Pos} {x y id : Str}
theorem V.cmpT {l r : Expr} {op : CmpOp} {whole : Sem Value} {Q : Bool → Heap → Nat → Prop} (hl : V c A (eval l env) (fun a h₁ t₁ => W c A (eval r env) (fun b h₂ t₂ => W c A (compareOp op a b) (fun v h t => ∃ d, v = .bool d ∧ Q d h t) E h₂ t₂) E h₁ t₁) E h t)
    (hm : behindInMarks op r = false) : V c A (isTrue (.Compare l [op] [r] pos) env whole) Q E h t :=
  .of (q_isTrue_Compare1 (qps (hl.post fun a h₁ t₁ q => cps (q.mono (fun b h₂ t₂ q => cps (q.mono (fun v h₃ t₃ ⟨d, e, q⟩ => by subst e; exact wpAny_truthy_bool ⟨h₃, t₃, rfl, q⟩) fun _ _ _ e => e)) fun _ _ _ e => e))) hm)
theorem V.cmpE {l r : Expr} {op : CmpOp} {Q : Value → Heap → Nat → Prop} (hl : V c A (eval l env) (fun a h₁ t₁ => W c A (eval r env) (fun b h₂ t₂ => W c A (compareOp op a b) Q E h₂ t₂) E h₁ t₁) E h t)
    (hm : behindInMarks op r = false) : V c A (eval (.Compare l [op] [r] pos) env) Q E h t :=
  .of (q_Compare1 (qps (hl.post fun a h₁ t₁ q => cps (q.mono (fun b h₂ t₂ q => q.to) fun _ _ _ e => e))) hm)
theorem V.or {x : Expr} {rest : List Expr} {Q : Bool → Heap → Nat → Prop} (hx : V c A (isTrue x env (eval x env)) (fun b h t => b = false ∧ V c A (allTrue .Or rest env) Q E h t) E h t) : V c A (allTrue .Or (x :: rest) env) Q E h t := by
  rw [allTrue_or_cons]
  refine .bind (hx.post fun b h t q => ?_)
  obtain ⟨rfl, q⟩ := q
  exact q
theorem V.orNil {Q : Bool → Heap → Nat → Prop} (q : Q false h t) : V c A (allTrue .Or [] env) Q E h t := .w (.pure q)
theorem Vs.orF {es : List Expr} {body : List Stmt} {Q : Flow → Heap → Nat → Prop} (ht : V c A (allTrue .Or es env) (fun b h t => b = false ∧ Vs c A env rest Q E h t) E h t) : Vs c A env (.If (.BoolOp .Or es p) body [] pos :: rest) Q E h t :=
  Vs.iteV (V.post (show V c A (isTrue (.BoolOp .Or es p) env (eval (.BoolOp .Or es p) env)) _ E h t from ht) fun b h t q => by
    rw [q.1, if_neg (by decide)]
    exact Vs.nilT q.2)
theorem V.and2 {e₁ e₂ : Expr} {Q : Value → Heap → Nat → Prop} (he : V c A (eval e₁ env) (fun v h t => v = .bool true ∧ V c A (eval e₂ env) Q E h t) E h t) : V c A (eval (.BoolOp .And [e₁, e₂] pos) env) Q E h t := by
  show V c A (do
    let v ← eval e₁ env
    standAt pos
    let c ← holding [v] (truthy v)
    match BoolOp.And, c with
    | .And, false | .Or, true => Pure.pure v
    | _, _ => eval e₂ env) Q E h t
  refine .bind (he.post fun v h₁ t₁ q => .at (.bindW (.of (wpAny_holding ?_))))
  obtain ⟨rfl, q⟩ := q
  exact wpAny_truthy_bool ⟨h₁, t₁, rfl, q⟩
theorem PAt.eq {s : Shared} {v v' : Value} {p : Part} (a : PAt s.heap v p) (b : PAt s.heap v' p) (hu : A.units < cLine) : PySem.SeqAt.EqAt A s v v' true := by
  cases p with
  | lit b₀ =>
    obtain ⟨u, rfl⟩ := a
    obtain ⟨u', rfl⟩ := b
    have := PySem.SeqAt.EqAt.int_int (A := A) (s := s) (b₀ : Int) u b₀ u'
    rwa [beq_self_eq_true] at this
  | mat ℓ d =>
    obtain ⟨r, u, u', rfl, ht⟩ := a
    obtain ⟨r', w, w', rfl, ht'⟩ := b
    by_cases e : r = r'
    · subst e; exact .same _
    · refine .of_refs e ?_
      have hT : s.heap.IsTuple r [Value.int ℓ u, Value.int d u'].toArray := ht
      have hT' : s.heap.IsTuple r' [Value.int ℓ w, Value.int d w'].toArray := ht'
      exact PySem.SeqAt.RcAt.tuples (e := fun _ => true) hT hT' hu (fun j h1 h2 => by
        have hj : j < 2 := h1
        match j, hj with
        | 0, _ => have := PySem.SeqAt.EqAt.int_int (A := A.in1) (s := s) (ℓ : Int) u ℓ w; rwa [beq_self_eq_true] at this
        | 1, _ => have := PySem.SeqAt.EqAt.int_int (A := A.in1) (s := s) (d : Int) u' d w'; rwa [beq_self_eq_true] at this)
theorem partsNe_ {a b : Addr} {vs ws : List Value} {ps : List Part} {Q : Value → Heap → Nat → Prop} (ha : h.IsList a vs.toArray) (hb : h.IsList b ws.toArray) (pa : PsAt h vs ps) (pb : PsAt h ws ps) (hu : A.units + 1 < cLine) (q : Q (.bool false) h t) : W c A (compareOp .NotEq (.ref a) (.ref b)) Q E h t := by
  have hlen : vs.toArray.size = ws.toArray.size := by simp [pa.1, pb.1]
  refine .of ((PySem.SeqAt.RcNeAt.lists (s := c.S h t) (A := A) (e := fun _ => true) ha hb hlen (by omega) (fun j h1 h2 => ?_)) _ _ _ _ ?_)
  · rw [List.size_toArray, pa.1] at h1
    obtain ⟨v, ev, av⟩ := pa.2 j _ (List.getElem?_eq_getElem h1)
    obtain ⟨v', ev', av'⟩ := pb.2 j _ (List.getElem?_eq_getElem h1)
    rw [List.getElem_toArray, List.getElem_toArray, (List.getElem?_eq_some_iff.mp ev).2, (List.getElem?_eq_some_iff.mp ev').2]
    exact av.eq av' hu
  · rw [show (!(List.range vs.toArray.size).all fun _ => true) = false by simp]
    exact ⟨h, t, rfl, q⟩
theorem anyE_ {f : Expr} {fa : Addr} {o : Obj} {fd : FuncData} {e : Expr} {es : List Expr} {Q : Value → Heap → Nat → Prop} (hd : o.data = .func fd) (hs : noStar e = true)
    (hf : W c A (eval f env) (fun v h₁ t₁ => v = .ref fa ∧ W c A (spliced (backTo pos (starEach (e :: es) env))) (fun vs h' t' => h'.get? fa = some o ∧ W c A (call (.ref fa) vs) Q E h' t') E h₁ t₁) E h t)
    (harm : eval (.Call f (e :: es) [] pos) env = (do callWith pos (← eval f env) [] (backTo pos (starEach (e :: es) env)) [])) : W c A (eval (.Call f (e :: es) [] pos) env) Q E h t := by
  rw [harm]
  refine .bind (hf.mono (fun v h₁ t₁ q => ?_) fun _ _ _ e => e)
  obtain ⟨rfl, ha'⟩ := q
  refine .of (callWith_function (o := o) (fd := fd) ?_)
  rw [starEach_cons hs, backTo_cons] at ha' ⊢
  exact evalArgs_plain (cps (ha'.mono (fun vs h₂ t₂ q => ⟨⟨q.1, hd⟩, q.2.to⟩) fun _ _ _ e => e))
theorem fnVE_ {fa : Addr} {o : Obj} {fd : FuncData} {e : Expr} {es : List Expr} {Q : Value → Heap → Nat → Prop} (H : Led g ms h) (hf : EvX c A env g ms (.Name id p) (.ref fa)) (hd : o.data = .func fd) (hs : noStar e = true)
    (ha : ∀ h₁ t₁, Led g ms h₁ → W c A (spliced (backTo pos (starEach (e :: es) env))) (fun vs h' t' => h'.get? fa = some o ∧ V c A (call (.ref fa) vs) Q E h' t') E h₁ t₁) : V c A (eval (.Call (.Name id p) (e :: es) [] pos) env) Q E h t := by
  refine .of ?_
  rw [arm_eval_Call_Name']
  refine q_bindA (cps (hf _ E h t H fun v h₁ t₁ H₁ q => ?_))
  subst q
  have ha' := ha h₁ t₁ H₁
  refine q_callWith_fn (o := o) (fd := fd) ?_
  rw [starEach_cons hs, backTo_cons] at ha' ⊢
  exact evalArgs_plain (cps (ha'.mono (fun vs h₂ t₂ q => ⟨⟨q.1, hd⟩, q.2.to⟩) fun _ _ _ e => e))
end
end
section
structure Fine (o : List UInt8) (ps : List Part) : Prop where
  exp : expS ps = o
  ok : ∀ i p, ps[i]? = some p → okP (expS (ps.take i)) p = true
  len : ∀ i, (expS (ps.take i)).length ≤ o.length
  lit : ∀ b, .lit b ∈ ps → b < 256
  mat : ∀ ℓ d, .mat ℓ d ∈ ps → ℓ ≤ o.length
  cnt : ps.length ≤ o.length
  sum : (ps.map fun p => (partLen p : Int)).sum = o.length
noncomputable def forBody : List Stmt := match lawBody.getD 8 (.Pass default) with
  | .For _ _ b .. => b
  | _ => []
noncomputable abbrev lawL (o : List UInt8) (yo u : Tok) (bd la ld : Addr) : List (Str × Value) := [("distances", .ref ld), ("literals", .ref la), ("octets", .bytes o.toArray yo), ("bounds", .ref bd), ("many", .int o.length u)]
noncomputable def LenJ (ps : List Part) (ms₀ : List Entry) (i : Nat) (ys : List Value) (ms : List Entry) : Prop := IntsAre ys ((ps.take i).map fun p => (partLen p : Int)) ∧ ms = ms₀
section
variable {c : Cx} {A : Around} {env : Env} {E : Value → Heap → Nat → Prop} {h : Heap} {t : Nat} {rest : List Stmt} {p : Pos}
theorem Vs.ifF {test : Expr} {body : List Stmt} {Q : Flow → Heap → Nat → Prop} (ht : V c A (isTrue test env (eval test env)) (fun b h t => b = false ∧ Vs c A env rest Q E h t) E h t) : Vs c A env (.If test body [] p :: rest) Q E h t :=
  Vs.iteV (ht.post fun b h t q => by
    rw [q.1, if_neg (by decide)]
    exact Vs.nilT q.2)
end
section
variable {w : World} {σ : Shared} {A : Around} {E : Value → Heap → Nat → Prop} {h : Heap} {t n : Nat} {Q : Flow → Heap → Nat → Prop} {env : Env} {g : Heap}
theorem expandedE_ {r : Addr} {vs : List Value} {ps : List Part} {o : List UInt8} {ms : List Entry} {pos p p' : Pos} {Q : Value → Heap → Nat → Prop} {ns : List (Str × NameKind)} (G : Gl w g) (hA : Room A (n + 5)) (N : EnvN env ns) (hx : ns.lookup ("expanded" : Str) = some .globalImplicit) (F : Fine o ps) (hz : o.length ≤ 14) (hl : g.IsList r vs.toArray) (hp : PsAt g vs ps) (H : Led g ms h)
    (he : EvX (cx w σ) A env g ms (.Name "parts" p') (.ref r)) (q : ∀ u h' t', Led g ms h' → Q (.bytes o.toArray u) h' t') :
    V (cx w σ) A (eval (.Call (.Name "expanded" p) [.Name "parts" p'] [] pos) env) Q E h t := by
  refine call_fnV H (EvX.glob (gn_expanded G) N hx (by kernel_rfl)) ⟨_, _, G.X 167 _ (by rfl), rfl⟩ (.xs he .nil rfl) rfl ?_
  rintro vs' h₁ t₁ H₁ rfl
  refine expanded_ (Wo := []) (outer := []) ps.length G H₁.base (fun _ h => nomatch h) hA hl hp (fun _ h => nomatch h) .nil F.lit (fun ℓ d hm => Nat.le_trans (F.mat ℓ d hm) (by omega)) (Nat.le_trans F.cnt (by omega)) (Nat.le_refl _) (fun i p _ e => F.ok i p e) (fun i _ => Nat.le_trans (F.len i) (by omega)) (fun _ u h₂ t₂ Hx => ?_) (fun hlt => absurd hlt (Nat.lt_irrefl _))
  rw [F.exp]
  exact q u h₂ t₂ (H₁.ext (Hx.done (W := [])).stays)
set_option maxHeartbeats 4000000 in
theorem law_6b {r bd la ld : Addr} {vs : List Value} {mb ml k : Nat} {lz : Bool} {u yo : Tok} {o : List UInt8} (F : Fine o (lawG o mb ml k lz o.length 0)) (G : Gl w g) (hA : Room A (n + 5)) (B : Bds g bd mb ml k) (h3 : 3 ≤ ml) (hz : o.length ≤ 14) (N : EnvN env lawNames)
    (hl : g.IsList r vs.toArray) (hp : PsAt g vs (lawG o mb ml k lz o.length 0))
    (H : Led g [(env.locals, OLoc (("parts", .ref r) :: ("is_lazy", .bool lz) :: lawL o yo u bd la ld)), (242, OTab)] h)
    (q : ∀ h t, Led g [(env.locals, OLoc (("parts", .ref r) :: ("is_lazy", .bool lz) :: lawL o yo u bd la ld)), (242, OTab)] h → Q .next h t) :
    Vs (cx w σ) A env (forBody.drop 1) Q E h t := by
  refine Vs.orF (V.or (V.cmpT (.w (EvV.w (P := fun v => v = .ref r) (by walk_at "ev") H ?_)) rfl))
  rintro _ h₁ t₁ rfl H₁
  refine call_fn H₁ (EvX.glob (gn_law_greedy G) N (by kernel_rfl) (by kernel_rfl)) ⟨_, _, G.X 273 _ (by rfl), rfl⟩ (.xs (v := .bytes o.toArray yo) (by walk_at "ev") (.xs (v := .ref bd) (by walk_at "ev") (.xs (v := .bool lz) (by walk_at "ev") .nil rfl) rfl) rfl) rfl ?_
  rintro _ h₂ t₂ H₂ rfl
  refine law_greedy_ (n := n + 1) mb ml k (G.keeps H₂.base) hA (by omega) h3 (B.keeps H₂.base) fun r' h₃ t₃ vs' ts' Hn hp' => ?_
  have H₃ := H₂.ext Hn.base
  refine partsNe_ (stays_list H₃.base hl) (isList_of (Hn.at 0 rfl)) (hp.keeps H₃.base) (hp'.at Hn.tail fun _ h => h) (by have := hA.units; omega) ⟨false, rfl, rfl, ?_⟩
  clear H H₁ H₂ Hn hp'
  refine V.or (V.cmpT (expandedE_ G hA N (by kernel_rfl) F hz hl hp H₃ (by walk_at "ev") fun u₁ h₄ t₄ H₄ => EvV.w (P := IsY o) (by walk_at "ev") H₄ ?_) rfl)
  rintro _ h₅ t₅ hy H₅
  refine CmpOk.neY (a := o) (b := o) _ _ _ _ _ _ H₅ ⟨u₁, rfl⟩ hy fun h₆ t₆ H₆ => ⟨_, rfl, by simp, V.orNil ⟨rfl, ?_⟩⟩
  clear H₃ H₄ H₅ hy
  refine Vs.ifF (V.cmpT (.w (bltE_ H₆ (EvX.blt (bn_sum G) N (by kernel_rfl) (by kernel_rfl)) rfl fun h₇ t₇ H₇ => spl_ ?_ rfl)) rfl)
  have hpn := hp.1
  have hcnt := F.cnt
  generalize hps : lawG o mb ml k lz o.length 0 = ps at *
  refine comp_ (g := g) (cl := []) (n := ps.length) (P := fun i v => ∃ p, ps[i]? = some p ∧ PAt g v p) (LenJ ps [(env.locals, OLoc (("parts", .ref r) :: ("is_lazy", .bool lz) :: lawL o yo u bd la ld)), (242, OTab)])
    (by rfl) (by decide) rfl (by decide) rfl N (by omega) ?he ?turn ?fin (fun _ => rfl)
  case he =>
    refine EvV.w (P := fun v => v = .ref r) (by walk_at "ev") H₇ ?_
    rintro _ h₈ t₈ rfl H₈
    refine iter_list hA.quiet H₈ (stays_list H₈.base hl) (fun hm => ?_) fun it h t H ok => ⟨_, ⟨.nil, rfl⟩, H, ok.mono hpn fun i v e => ?_⟩
    · obtain ⟨ob, e, _⟩ := hl
      have := H₈.offm hm
      rw [e] at this; cases this
    · have hi : i < ps.length := by rw [← hpn]; exact (List.getElem?_eq_some_iff.mp e).1
      obtain ⟨v', e', pa⟩ := hp.2 i _ (List.getElem?_eq_getElem hi)
      rw [e] at e'; cases e'
      exact ⟨_, List.getElem?_eq_getElem hi, pa⟩
  case turn =>
    rintro i ys g' ms v h₈ t₈ Cd cenv ecenv Nc hi kg ⟨hI, rfl⟩ ⟨pp, hpi, pa⟩ H₈
    have G' := G.keeps kg
    have pa' := pa.keeps kg
    refine tests_nil ⟨_, H₈, fun _ => ?_, fun h => nomatch h⟩
    refine call_fn H₈ (EvX.glob (gn_length_of G') Nc (by kernel_rfl) (by kernel_rfl)) ⟨_, _, G'.X 160 _ (by rfl), rfl⟩ (.xs (v := v) (by walk_at "ev") .nil rfl) rfl ?_
    rintro _ h₉ t₉ H₉ rfl
    refine length_of_ (G'.keeps H₉.base) (hA.mono (n := n + 5) (k := n + 4 + 1) (by omega)) (pa'.keeps H₉.base) fun h' t' u' st => ?_
    refine ⟨_, (H₉.ext st).weaken 0 rfl (OLoc.sub LocSub.nil), ?_, rfl⟩
    rw [List.take_add_one, hpi, List.map_append]
    exact hI.append (.cons _ _ .nil)
  case fin =>
    rintro ys ms D h₈ t₈ ⟨hI, rfl⟩ hys H₈
    rw [List.take_length] at hI
    refine spl_nil (sum_ hA.quiet H₈ (isList_of (H₈.at 0 rfl)) hI fun u₂ h₉ t₉ H₉ => ?_)
    rw [F.sum]
    refine EvV.w (P := IsI o.length) (by walk_at "ev") H₉.tail ?_
    rintro _ h₁₀ t₁₀ hy HA
    refine CmpOk.ints (op := .NotEq) (a := (o.length : Int)) (b := o.length) rfl _ _ _ _ _ _ HA ⟨u₂, rfl⟩ hy fun h₁₁ t₁₁ HB => ⟨_, rfl, by simp, Vs.nil (q _ _ HB)⟩
end
end
section
noncomputable def LzJ (L : Addr) (l : List (Str × Value)) (i : Nat) (ms : List Entry) : Prop := ms = [(L, OLoc l), (242, OTab)]
section
variable {w : World} {σ : Shared} {A : Around} {E : Value → Heap → Nat → Prop} {h : Heap} {t n : Nat} {Q : Flow → Heap → Nat → Prop} {env : Env} {g : Heap}
set_option maxHeartbeats 4000000 in
theorem law_6 {bd la ld : Addr} {mb ml k : Nat} {u yo : Tok} {o : List UInt8} (F : ∀ lz, Fine o (lawG o mb ml k lz o.length 0)) (G : Gl w g) (hA : Room A (n + 5)) (B : Bds g bd mb ml k) (h3 : 3 ≤ ml) (hz : o.length ≤ 14) (N : EnvN env lawNames)
    (H : Led g [(env.locals, OLoc (lawL o yo u bd la ld)), (242, OTab)] h)
    (q : ∀ h t, Led g [(env.locals, OLoc (lawL o yo u bd la ld)), (242, OTab)] h → Vs (cx w σ) A env (lawBody.drop 9) Q E h t) :
    Vs (cx w σ) A env (lawBody.drop 8) Q E h t := by
  refine Vs.for (g := g) (n := 2) (P := fun i v => v = .bool (i == 1)) (LzJ env.locals (lawL o yo u bd la ld)) ?he ?turn ?fin (fun _ => rfl)
  case fin =>
    rintro ms h t rfl H
    exact q h t H
  case he =>
    refine tup_ H (.xs EvX.bool (.xs EvX.bool .nil rfl) rfl) (fun vs r => by rw [r]; exact Nat.le_of_ble_eq_true rfl) ?_
    rintro _ a h₁ t₁ rfl H₁
    refine iter_tup hA.quiet H₁.tail (isTup_of (H₁.at 0 rfl)) (List.nodup_cons.mp H₁.nd).1 fun it h₂ t₂ H₂ ok => ⟨_, rfl, H₂, ok.mono rfl fun i v e => ?_⟩
    match i, e with
    | 0, e => cases e; rfl
    | 1, e => cases e; rfl
    | i + 2, e => simp at e
  case turn =>
    rintro i g' ms v h₁ t₁ hi kg rfl rfl H₁
    have G' := G.keeps kg
    have B' := B.keeps kg
    generalize (i == 1) = lz at *
    refine assign_loc H₁ N (by kernel_rfl) fun h₂ t₂ H₂ => ?_
    have fin : ∀ (r : Addr) (h₃ : Heap) (vs : List Value) (ts : List Entry) (h₄ : Heap) (t₄ : Nat), Led g' [(env.locals, OLoc (("is_lazy", .bool lz) :: lawL o yo u bd la ld)), (242, OTab)] h₃ → Led h₃ ((r, OList vs) :: ts) h₄ → Parts ts vs (lawG o mb ml k lz o.length 0) → W (cx w σ) A (storeName env "parts" (.ref r)) (fun _ h t => Vs (cx w σ) A env (forBody.drop 1) (QPost (cx w σ) A env (lawBody.drop 9) Q E (LzJ env.locals (lawL o yo u bd la ld)) i g') NoE h t) NoE h₄ t₄ := by
      intro r h₃ vs ts h₄ t₄ H₃ Hn hp
      refine store_loc (H₃.merge0 Hn) N (by kernel_rfl) fun h₅ H₅ => ?_
      obtain ⟨g'', kg', H₆, fz, -⟩ := Led.split [(env.locals, _), (242, _)] H₅
      refine law_6b (n := n) (r := r) (vs := vs) (F lz) (G'.keeps kg') hA (B'.keeps kg') h3 hz N (isList_of (fz (r, OList vs) (List.mem_cons_self ..))) (hp.atA fun e he => fz e (List.mem_cons_of_mem _ he)) H₆ fun h₇ t₇ H₇ => ?_
      exact ⟨_, rfl, (H₇.stays kg').weaken 0 rfl (OLoc.sub (by walk_at "ls"))⟩
    clear H₁
    obtain ⟨o₁, f₁, ho₁, hd₁⟩ : FnAt g' 125 := ⟨_, _, G'.X 125 _ (by rfl), rfl⟩
    obtain ⟨o₂, f₂, ho₂, hd₂⟩ : FnAt g' 133 := ⟨_, _, G'.X 133 _ (by rfl), rfl⟩
    have as : ∀ pos p₁ p₂ k₃ p₃ p₄ p₅ k₆ p₆ p₇ p₈ k₉ p₉ p₀, EvAs (cx w σ) A env g' [(env.locals, OLoc (("is_lazy", .bool lz) :: lawL o yo u bd la ld)), (242, OTab)] pos
        [.Name "octets" p₁, .Subscript (.Name "bounds" p₂) (.Constant (.int 0) k₃ p₃) p₄, .Subscript (.Name "bounds" p₅) (.Constant (.int 1) k₆ p₆) p₇, .Subscript (.Name "bounds" p₈) (.Constant (.int 2) k₉ p₉) p₀]
        (fun vs => ∃ y₁ y₂ y₃, vs = [.bytes o.toArray yo, .int mb y₁, .int ml y₂, .int k y₃]) := by
      intros
      refine EvAs.mono (EvAs.cons (P := fun v => v = .bytes o.toArray yo) (by walk_at "ev") (.cons (P := IsI mb) (EvI.bd0 (by walk_at "ev") .const B' rfl) (.cons (P := IsI ml) (EvI.bd1 (by walk_at "ev") .const B' rfl) (.cons (P := IsI k) (EvI.bd2 (by walk_at "ev") .const B' rfl) .nil rfl) rfl) rfl) rfl) ?_
      rintro vsA ⟨_, _, rfl, rfl, _, _, rfl, ⟨y₁, rfl⟩, _, _, rfl, ⟨y₂, rfl⟩, _, _, rfl, ⟨y₃, rfl⟩, rfl⟩ 
      exact ⟨y₁, y₂, y₃, rfl⟩
    cases lz with
    | false =>
      refine Vs.step (Xs.assignE (anyE_ (fa := 125) (o := o₁) hd₁ rfl (EvV.w (P := fun v => v = .ref 125) (EvV.ite (b := false) (Tst.boolVal (by walk_at "ev") rfl) (fun h => nomatch h) fun _ => EvX.glob (gn_find_matches G') N (by kernel_rfl) (by kernel_rfl)) H₂ ?_) rfl) rfl)
      intro v h₃ t₃ e H₃
      refine ⟨e, as _ _ _ _ _ _ _ _ _ _ _ _ _ _ _ _ h₃ t₃ H₃ ?_⟩
      rintro _ h₄ t₄ H₄ ⟨y₁, y₂, y₃, rfl⟩
      refine ⟨H₄.base _ _ ho₁, find_matches_ (n := n) mb ml k (G'.keeps H₄.base) hA (by omega) rfl rfl rfl fun r h₅ t₅ vs ts Hn hp => ?_⟩
      rw [← lawG_greedy] at hp
      exact (fin r h₄ vs ts h₅ t₅ H₄ Hn hp).mono (fun _ _ _ q => Xs.vs q) fun _ _ _ e => e
    | true =>
      refine Vs.step (Xs.assignE (anyE_ (fa := 133) (o := o₂) hd₂ rfl (EvV.w (P := fun v => v = .ref 133) (EvV.ite (b := true) (Tst.boolVal (by walk_at "ev") rfl) (fun _ => EvX.glob (gn_lazy_matches G') N (by kernel_rfl) (by kernel_rfl)) (fun h => nomatch h)) H₂ ?_) rfl) rfl)
      intro v h₃ t₃ e H₃
      refine ⟨e, as _ _ _ _ _ _ _ _ _ _ _ _ _ _ _ _ h₃ t₃ H₃ ?_⟩
      rintro _ h₄ t₄ H₄ ⟨y₁, y₂, y₃, rfl⟩
      refine ⟨H₄.base _ _ ho₂, lazy_matches_ (n := n) mb ml k (G'.keeps H₄.base) hA (by omega) rfl rfl rfl fun r h₅ t₅ vs ts Hn hp => ?_⟩
      rw [← lawG_lazy] at hp
      exact (fin r h₄ vs ts h₅ t₅ H₄ Hn hp).mono (fun _ _ _ q => Xs.vs q) fun _ _ _ e => e
end
end
section
section
variable {w : World} {σ : Shared} {A : Around} {E : Value → Heap → Nat → Prop} {h : Heap} {t n : Nat} {Q : Value → Heap → Nat → Prop} {env : Env} {g : Heap} {ms : List Entry} {ns : List (Str × NameKind)} {pos p : Pos}
set_option maxHeartbeats 4000000 in
theorem prices_new {la ld : Addr} {e₁ e₂ : Expr} (H : Led g ms h) (G : Gl w g) (hA : Room A (n + 2)) (N : EnvN env ns) (hx : ns.lookup ("Prices" : Str) = some .globalImplicit) (he₁ : EvX (cx w σ) A env g ms e₁ (.ref la)) (he₂ : EvX (cx w σ) A env g ms e₂ (.ref ld)) (s₁ : noStar e₁ = true) (s₂ : noStar e₂ = true)
    (q : ∀ x dx h' t', Led g ((x, OIs (instObj 219 dx)) :: (dx, OAttr [("literals", .ref la), ("distances", .ref ld)]) :: ms) h' → Q (.ref x) h' t') :
    W (cx w σ) A (eval (.Call (.Name "Prices" p) [e₁, e₂] [] pos) env) Q E h t := by
  refine call_cls (K := KK w) (C := 219) (fI := 202) H G.X (EvX.glob (gn_Prices G) N hx (by kernel_rfl)) (by kernel_rfl) (.xs he₁ (.xs he₂ .nil s₂) s₁) (by simp [s₁, s₂]) (by kernel_rfl) (by kernel_rfl) (by kernel_rfl) ?_
  rintro vs x dx h₁ t₁ rfl H₁
  have G₁ := G.keeps H₁.base
  refine callFc [(x, OIs (instObj 219 dx)), (dx, OAttr [])] (binds := [("self", _), ("literals", _), ("distances", _)]) (G₁.X 202 _ (by rfl)) (by rfl) (by rfl) (by rfl) hA.call G₁.lim (codeRec_of G₁.X (by kernel_rfl)) (BindsTo.of_eq rfl) (by decide) (locs rfl) rfl rfl rfl rfl rfl ?_ ?_ ?_
  · rintro p hp
    simp only [List.mem_cons, List.not_mem_nil, or_false] at hp
    rcases hp with rfl | rfl
    · exact H₁.at 0 rfl
    · exact H₁.at 1 rfl
  · have := H₁.nd
    simp only [List.map_cons, List.nodup_cons, List.mem_cons, not_or] at this ⊢
    simp [this.1.1]
  have GG : Gl w (hideAll h₁ [x, dx]) := G.keeps fun b ob eb => hideAll_get _ (H₁.base b ob eb) (by
    simp only [List.mem_cons, List.not_mem_nil, or_false]
    rintro (rfl | rfl)
    · rw [H₁.off 0 rfl] at eb; cases eb
    · rw [H₁.off 1 rfl] at eb; cases eb)
  have fin : ∀ L ll h' t', Led (hideAll h₁ [x, dx]) [(L, OLoc ll), (x, OIs (instObj 219 dx)), (dx, OAttr [("literals", .ref la), ("distances", .ref ld)])] h' → Q (.ref x) h' t' := by
    intro L ll h' t' H'
    have := H₁.merge2 0 1 rfl rfl H'.tail (by decide)
    dsimp only [List.set, List.append_nil] at this
    rw [List.append_nil] at this
    exact q x dx h' t' this
  clear hA hx N he₁ he₂
  rintro A env h₀ t₀ hA N - H -
  dsimp only at N
  change Led (hideAll h₁ [x, dx]) [(env.locals, _), (x, OIs (instObj 219 dx)), (dx, OAttr [])] h₀ at H
  clear G₁ H₁ q
  generalize hideAll h₁ [x, dx] = g at GG H fin
  have isat : ∀ {h : Heap} {a : Addr} {o' : Obj}, (∃ ob, h.get? a = some ob ∧ OIs o' ob) → h.get? a = some o' := fun ⟨ob, a, b⟩ => by rw [a]; exact congrArg some b
  refine Xs.setAttr (EvV.w (P := fun v => v = .ref la) (by walk_at "ev") H ?_) rfl
  rintro _ h₂ t₂ rfl H₂
  refine EvV.w (P := fun v => v = .ref x) (by walk_at "ev") H₂ ?_
  rintro _ h₃ t₃ rfl H₃
  refine setAttr_ (K := KK w) (C := 219) (j := 2) H₃ GG.X (isat (H₃.at 1 rfl)) rfl (by kernel_rfl) (by kernel_rfl) (by kernel_rfl) (by kernel_rfl) (by with_unfolding_all rfl) (Nat.le_of_ble_eq_true rfl) fun h₄ H₄ => ?_
  dsimp only [List.set, List.nil_append] at H₄
  refine Xs.setAttr (EvV.w (P := fun v => v = .ref ld) (by walk_at "ev") H₄ ?_) rfl
  rintro _ h₅ t₅ rfl H₅
  refine EvV.w (P := fun v => v = .ref x) (by walk_at "ev") H₅ ?_
  rintro _ h₆ t₆ rfl H₆
  refine setAttr_ (K := KK w) (C := 219) (j := 2) H₆ GG.X (isat (H₆.at 1 rfl)) rfl (by kernel_rfl) (by kernel_rfl) (by kernel_rfl) (by kernel_rfl) (by with_unfolding_all rfl) (Nat.le_of_ble_eq_true rfl) fun h₇ H₇ => ?_
  exact Xs.nil ⟨rfl, fin _ _ h₇ _ H₇⟩
end
section
variable {w : World} {σ : Shared} {A : Around} {E : Value → Heap → Nat → Prop} {h : Heap} {t n : Nat} {Q : Flow → Heap → Nat → Prop} {env : Env} {g : Heap}
set_option maxHeartbeats 4000000 in
theorem law_7 {bd la ld : Addr} {mb ml k : Nat} {u yo : Tok} {o : List UInt8} {li di : List Int} {vl vd : List Value} (G : Gl w g) (hA : Room A (n + 6)) (B : Bds g bd mb ml k) (h3 : 3 ≤ ml) (hml : ml < 8) (hmb : mb < 17) (hz : o.length ≤ 14) (N : EnvN env lawNames)
    (hla : g.IsList la vl.toArray) (hli : IntsAre vl li) (hld : g.IsList ld vd.toArray) (hdi : IntsAre vd di) (zl : li.length = 286) (zd : di.length = 30)
    (H : Led g [(env.locals, OLoc (lawL o yo u bd la ld)), (242, OTab)] h)
    (q : ∀ g' x r r' vs vs' up h t, g.StaysIn g' → Pr g' x li di → (∃ ob, g'.get? r = some ob ∧ OList vs ob) → PsAt g' vs (cutS o (chosS o li di mb ml k) o.length 0) → g'.IsList r' vs'.toArray → PsAt g' vs' ((lcS o li di mb ml k o.length).getD 0 (0, [])).2 →
      Led g' [(env.locals, OLoc (("due", .ref r') :: ("price", .int ((lcS o li di mb ml k o.length).getD 0 (0, [])).1 up) :: ("parts", .ref r) :: ("prices", .ref x) :: lawL o yo u bd la ld)), (242, OTab)] h → Vs (cx w σ) A env (lawBody.drop 12) Q E h t) :
    Vs (cx w σ) A env (lawBody.drop 9) Q E h t := by
  refine Vs.step (Xs.assignE (prices_new (n := n + 4) H G hA N (by kernel_rfl) (by walk_at "ev") (by walk_at "ev") rfl rfl fun x dx h₁ t₁ H₁ => ?_) rfl)
  refine store_loc (H₁.up 2 rfl) N (by kernel_rfl) fun h₂ H₂ => Xs.vs ?_
  dsimp only [List.eraseIdx] at H₂
  obtain ⟨g₁, kg, H₃, fz, -⟩ := Led.split [(env.locals, _), (242, _)] ((H₂.up 3 rfl).mv 1)
  have P : Pr g₁ x li di := ⟨⟨dx, la, ld, vl, vd, (let ⟨ob, a, b⟩ := fz (x, OIs (instObj 219 dx)) (by simp); a.trans (congrArg some b)), fz (dx, OAttr [("literals", .ref la), ("distances", .ref ld)]) (by simp), stays_list kg hla, hli, stays_list kg hld, hdi⟩, by omega, by omega, by omega, by omega⟩
  clear H H₁ H₂ fz
  replace G := G.keeps kg
  replace B := B.keeps kg
  replace hla := stays_list kg hla
  replace hld := stays_list kg hld
  have q' : ∀ g' x r r' vs vs' up h t, g₁.StaysIn g' → Pr g' x li di → (∃ ob, g'.get? r = some ob ∧ OList vs ob) → PsAt g' vs (cutS o (chosS o li di mb ml k) o.length 0) → g'.IsList r' vs'.toArray → PsAt g' vs' ((lcS o li di mb ml k o.length).getD 0 (0, [])).2 →
      Led g' [(env.locals, OLoc (("due", .ref r') :: ("price", .int ((lcS o li di mb ml k o.length).getD 0 (0, [])).1 up) :: ("parts", .ref r) :: ("prices", .ref x) :: lawL o yo u bd la ld)), (242, OTab)] h → Vs (cx w σ) A env (lawBody.drop 12) Q E h t :=
    fun g' x r r' vs vs' up h t k' => q g' x r r' vs vs' up h t (stays_trans kg k')
  clear q kg
  -- parts = cheapest_parts(..)
  refine Vs.step (Xs.assignE (call_fn H₃ (EvX.glob (gn_cheapest_parts G) N (by kernel_rfl) (by kernel_rfl)) ⟨_, _, G.X 146 _ (by rfl), rfl⟩ (.cons (P := fun v => v = .bytes o.toArray yo) (by walk_at "ev") (.cons (P := fun v => v = .ref x) (by walk_at "ev") (.cons (P := IsI mb) (EvI.bd0 (by walk_at "ev") .const B rfl) (.cons (P := IsI ml) (EvI.bd1 (by walk_at "ev") .const B rfl) (.cons (P := IsI k) (EvI.bd2 (by walk_at "ev") .const B rfl) .nil rfl) rfl) rfl) rfl) rfl) rfl ?_) rfl)
  refine argsA_xxiii fun y₁ y₂ y₃ h₄ t₄ H₄ => ?_
  refine cheapest_parts_ (n := n) mb ml k (G.keeps H₄.base) hA (P.keeps H₄.base) (by omega) hml hmb rfl rfl rfl fun r h₅ t₅ vs ts Hn hp => ?_
  refine store_loc (H₄.merge0 Hn) N (by kernel_rfl) fun h₆ H₆ => Xs.vs ?_
  obtain ⟨g₂, kg, H₇, fz, -⟩ := Led.split [(env.locals, _), (242, _)] H₆
  have hr := fz (r, OList vs) (List.mem_cons_self ..)
  have hpr := hp.atA fun e he => fz e (List.mem_cons_of_mem _ he)
  clear H₃ H₄ Hn H₆ fz hp
  replace G := G.keeps kg
  replace B := B.keeps kg
  replace P := P.keeps kg
  replace hla := stays_list kg hla
  replace hld := stays_list kg hld
  have q : ∀ g' r' vs' up h t, g₂.StaysIn g' → Pr g' x li di → (∃ ob, g'.get? r = some ob ∧ OList vs ob) → PsAt g' vs (cutS o (chosS o li di mb ml k) o.length 0) → g'.IsList r' vs'.toArray → PsAt g' vs' ((lcS o li di mb ml k o.length).getD 0 (0, [])).2 →
      Led g' [(env.locals, OLoc (("due", .ref r') :: ("price", .int ((lcS o li di mb ml k o.length).getD 0 (0, [])).1 up) :: ("parts", .ref r) :: ("prices", .ref x) :: lawL o yo u bd la ld)), (242, OTab)] h → Vs (cx w σ) A env (lawBody.drop 12) Q E h t :=
    fun g' r' vs' up h t k' => q' g' x r r' vs vs' up h t (stays_trans kg k')
  clear q' kg
  -- price, due = _law_cheapest(..)
  refine Vs.step (Xs.unpackC hA ?_ rfl rfl rfl)
  obtain ⟨o₁, f₁, ho₁, hd₁⟩ : FnAt g₂ 285 := ⟨_, _, G.X 285 _ (by rfl), rfl⟩
  refine fnE_ H₇ (EvX.glob (gn_law_cheapest G) N (by kernel_rfl) (by kernel_rfl)) hd₁ rfl fun h₈ t₈ H₈ => spl_ (EvV.w (P := fun v => v = .bytes o.toArray yo) (by walk_at "ev") H₈ ?_) rfl
  rintro _ h₉ t₉ rfl H₉
  refine spl_ (EvV.w (P := fun v => v = .ref bd) (by walk_at "ev") H₉ ?_) rfl
  rintro _ h₁₀ t₁₀ rfl HA
  refine spl_ (tup_ HA (.xs (v := .ref la) (by walk_at "ev") (.xs (v := .ref ld) (by walk_at "ev") .nil rfl) rfl) (fun vs r => by rw [r]; exact Nat.le_of_ble_eq_true rfl) ?_) rfl
  rintro _ pt h₁₁ t₁₁ rfl HB
  refine spl_nil ⟨HB.base _ _ ho₁, law_cheapest_ (n := n + 3) mb ml k (G.keeps HB.base) hA ⟨la, ld, vl, vd, isTup_of (HB.at 0 rfl), stays_list HB.base hla, hli, stays_list HB.base hld, hdi, by omega, by omega, by omega, by omega⟩ (B.keeps HB.base) (by omega) h3 hml hmb ?_⟩
  rintro r' h₁₂ t₁₂ ts Hn ⟨_, lr, up, ws, er, m1, m2, hp⟩
  cases er
  have HC := HB.tail.merge0 Hn
  refine ⟨r', _, rfl, isTup_of (Hn.mem m1), rfl, fun h₁₃ st => ?_⟩
  refine InOrder.loc (HC.ext st) N (by kernel_rfl) fun h₁₄ t₁₄ HD => InOrder.loc HD N (by kernel_rfl) fun h₁₅ t₁₅ HE => InOrder.nil (Xs.vs ?_)
  obtain ⟨g₃, kg, HF, fz, -⟩ := Led.split [(env.locals, _), (242, _)] HE
  exact q g₃ lr ws up h₁₅ t₁₅ kg (P.keeps kg) (let ⟨ob, a, b⟩ := hr; ⟨ob, kg _ _ a, b⟩) (hpr.keeps kg) (isList_of (fz _ m2)) (hp.atA fz) HF
end
end
section
theorem PsAt.snoc {h : Heap} {vs : List Value} {ps : List Part} {v : Value} {p : Part} (k : PsAt h vs ps) (a : PAt h v p) : PsAt h (vs ++ [v]) (ps ++ [p]) := by
  refine ⟨by rw [List.length_append, List.length_append, k.1]; rfl, fun i q e => ?_⟩
  rcases Nat.lt_or_ge i ps.length with hlt | hge
  · rw [List.getElem?_append_left hlt] at e
    obtain ⟨v', b, d⟩ := k.2 i q e
    exact ⟨v', by rw [List.getElem?_append_left (by rw [k.1]; exact hlt)]; exact b, d⟩
  · rw [List.getElem?_append_right hge] at e
    have hi : i - ps.length = 0 := by
      cases z : i - ps.length with
      | zero => rfl
      | succ j => rw [z] at e; simp at e
    rw [hi] at e
    cases e
    exact ⟨v, by rw [List.getElem?_append_right (by rw [k.1]; exact hge), k.1, hi]; rfl, a⟩
theorem PsAt.cons {h : Heap} {vs : List Value} {ps : List Part} {v : Value} {p : Part} (k : PsAt h vs ps) (a : PAt h v p) : PsAt h (v :: vs) (p :: ps) :=
  ⟨congrArg Nat.succ k.1, fun i q e => by
    cases i with
    | zero => cases e; exact ⟨v, rfl, a⟩
    | succ i => exact k.2 i q e⟩
section
variable {w : World} {σ : Shared} {A : Around} {E : Value → Heap → Nat → Prop} {h : Heap} {t n : Nat} {env : Env} {g : Heap}
set_option maxHeartbeats 4000000 in
theorem faultE_ {Q : Value → Heap → Nat → Prop} {e : Expr} {pos p : Pos} {ps : List Part} {l : List (Str × Value)} (K m : Nat) (G : Gl w g) (hA : Room A (n + 5)) (N : EnvN env lawNames) (hf : env.frame = some env.locals) (hfr : A.frames = some [env]) (H : Led g [(env.locals, OLoc l), (242, OTab)] h) (hs : noStar e = true)
    (he : ∀ h t, Led g [(env.locals, OLoc l), (242, OTab)] h → W (cx w σ) A (eval e env) (fun v h t => ∃ d ts vs, v = .ref d ∧ Led g ((env.locals, OLoc l) :: ((242, OTab) :: ts)) h ∧ (∀ g', g.StaysIn g' → Alive g' ts → g'.IsList d vs.toArray ∧ PsAt g' vs ps)) E h t)
    (hlit : ∀ b, .lit b ∈ ps → b < 256) (hmat : ∀ ℓ d, .mat ℓ d ∈ ps → ℓ ≤ 1000) (hn : ps.length ≤ 1000) (hK : K < ps.length)
    (ok : ∀ i p, i < K → ps[i]? = some p → okP (expS (ps.take i)) p = true) (hz : ∀ i, i ≤ K → (expS (ps.take i)).length ≤ 1000)
    (bad : ∀ p, ps[K]? = some p → okP (expS (ps.take K)) p = false) (em : (expS (ps.take K)).length = m)
    (q : ∀ u h t, Led g [(env.locals, OLoc l), (242, OTab)] h → Q (.int m u) h t) :
    V (cx w σ) A (eval (.Call (.Name "_law_fault_place" p) [e] [] pos) env) Q E h t := by
  obtain ⟨o₁, f₁, ho₁, hd₁⟩ : FnAt g 292 := ⟨_, _, G.X 292 _ (by rfl), rfl⟩
  refine fnVE_ H (EvX.glob (gn_law_fault_place G) N (by kernel_rfl) (by kernel_rfl)) hd₁ hs fun h₁ t₁ H₁ => spl_ ((he h₁ t₁ H₁).mono ?_ fun _ _ _ x => x) hs
  rintro _ h₂ t₂ ⟨d, ts, vs, rfl, H₂, at_⟩
  refine spl_nil ⟨H₂.base _ _ ho₁, ?_⟩
  obtain ⟨g', kg, H₃, fz, -⟩ := Led.split [(env.locals, OLoc l)] H₂
  obtain ⟨hl, hp⟩ := at_ g' kg fun q hq => fz q (List.mem_cons_of_mem _ hq)
  refine fault_place_ (n := n) (g := g') (Wo := [(env.locals, OLoc l)]) (outer := [env]) K (G.keeps kg) H₃.base (fun q hq => (H₃.own q hq).1) hA hl hp (fun q hq => (H₃.own q hq).2) H₃.nd hlit hmat hn hK ok hz bad hfr ?_ ?_ ?_
  · intro z hz
    rw [List.mem_singleton] at hz
    subst hz
    exact ⟨(by rw [N.kind]; intro e; cases e), _, _, hf, List.mem_singleton.mpr rfl⟩
  · intro q hq
    rw [List.mem_singleton] at hq
    subst hq
    exact ⟨_, rfl⟩
  · intro u h₄ t₄ Hx
    rw [em]
    have H₄ := H₂.call1 0 rfl Hx.done (Hx.at 0 rfl)
    exact q u h₄ t₄ (H₄.sub (fun z hz => by simp only [List.set, List.mem_cons, List.not_mem_nil, or_false] at hz ⊢; rcases hz with e | e <;> simp [e]) H₁.nd)
end
end
section
noncomputable abbrev lawM (o : List UInt8) (yo u : Tok) (bd la ld x r r' : Addr) (pr : Int) (up : Tok) : List (Str × Value) := ("due", .ref r') :: ("price", .int pr up) :: ("parts", .ref r) :: ("prices", .ref x) :: lawL o yo u bd la ld
section
variable {w : World} {σ : Shared} {A : Around} {E : Value → Heap → Nat → Prop} {h : Heap} {t n : Nat} {env : Env} {g : Heap} {Q : Flow → Heap → Nat → Prop}
set_option maxHeartbeats 4000000 in
theorem law_9 {bd la ld x r r' : Addr} {pr : Int} {u yo up : Tok} {o : List UInt8} {li di : List Int} {vs : List Value} {ps : List Part} (F : Fine o ps) (G : Gl w g) (hA : Room A (n + 5)) (hz : o.length ≤ 14) (N : EnvN env lawNames) (hf : env.frame = some env.locals) (hfr : A.frames = some [env])
    (hr : ∃ ob, g.get? r = some ob ∧ OList vs ob) (hp : PsAt g vs ps)
    (H : Led g [(env.locals, OLoc (lawM o yo u bd la ld x r r' pr up)), (242, OTab)] h) (q : ∀ h t, Led g [(env.locals, OLoc (lawM o yo u bd la ld x r r' pr up)), (242, OTab)] h → Q (.ret (.bool true)) h t) :
    Vs (cx w σ) A env (lawBody.drop 13) Q E h t := by
  have hcnt := F.cnt
  have lit1 : ∀ b, .lit b ∈ ps ++ [Part.mat 3 (o.length + 1)] → b < 256 := fun b hb => by
    rcases List.mem_append.mp hb with h | h
    · exact F.lit b h
    · rw [List.mem_singleton] at h; cases h
  have mat1 : ∀ ℓ d, .mat ℓ d ∈ ps ++ [Part.mat 3 (o.length + 1)] → ℓ ≤ 1000 := fun ℓ d hb => by
    rcases List.mem_append.mp hb with h | h
    · have := F.mat ℓ d h; omega
    · rw [List.mem_singleton] at h; cases h; decide
  have lit2 : ∀ b, .lit b ∈ .mat 3 0 :: ps → b < 256 := fun b hb => by
    rcases List.mem_cons.mp hb with h | h
    · cases h
    · exact F.lit b h
  have mat2 : ∀ ℓ d, .mat ℓ d ∈ .mat 3 0 :: ps → ℓ ≤ 1000 := fun ℓ d hb => by
    rcases List.mem_cons.mp hb with h | h
    · cases h; decide
    · have := F.mat ℓ d h; omega
  have tk : ∀ i, i ≤ ps.length → (ps ++ [Part.mat 3 (o.length + 1)]).take i = ps.take i := fun i hi => by rw [List.take_append_of_le_length hi]
  have hex : expS ((ps ++ [Part.mat 3 (o.length + 1)]).take ps.length) = o := by rw [tk _ (Nat.le_refl _), List.take_length, F.exp]
  have hlen : ∀ p : Part, (ps ++ [p]).length = ps.length + 1 := fun p => by rw [List.length_append]; rfl
  refine Vs.retV (V.and2 (V.cmpE (faultE_ (n := n) (ps := ps ++ [Part.mat 3 (o.length + 1)]) ps.length o.length G hA N hf hfr H rfl ?he1 lit1 mat1 (by rw [hlen]; omega) (by rw [hlen]; omega)
    (fun i p hi e => by rw [List.getElem?_append_left hi] at e; rw [tk i (Nat.le_of_lt hi)]; exact F.ok i p e) (fun i hi => by rw [tk i hi]; have := F.len i; omega)
    (fun p e => by rw [List.getElem?_append_right (Nat.le_refl _), Nat.sub_self] at e; cases e; rw [hex]; simp [okP]) (by rw [hex]) fun u₁ h₁ t₁ H₁ => EvV.w (P := IsI o.length) (by walk_at "ev") H₁ ?_) rfl))
  case he1 =>
    intro h₁ t₁ H₁
    refine binE_ (EvV.w (P := fun v => v = .ref r) (by walk_at "ev") H₁ ?_)
    rintro _ h₂ t₂ rfl H₂
    refine list1E_ (tup_ H₂ (.cons (P := IsI 3) (by walk_at "ev") (.cons (P := IsI ((o.length : Int) + 1)) (by walk_at "ev") .nil rfl) rfl) (fun vs r => by obtain ⟨_, _, rfl, _, _, _, rfl, _, rfl⟩ := r; exact Nat.le_of_ble_eq_true rfl) ?_) rfl
    rintro vsA a h₃ t₃ ⟨_, _, rfl, ⟨u₁, rfl⟩, _, _, rfl, ⟨u₂, rfl⟩, rfl⟩ H₃
    refine ⟨_, _, H₃, fun b h₄ t₄ H₄ => ?_⟩
    refine addLists_ H₄ (let ⟨ob, x, y⟩ := hr; ⟨ob, H₄.base _ _ x, y⟩) (H₄.at 0 rfl) (by rw [hp.1]; show ps.length + 1 ≤ _; omega) fun d h₅ t₅ H₅ => ?_
    refine ⟨d, [(d, OList (vs ++ [Value.ref a])), (a, OTup [.int 3 u₁, .int ((o.length : Int) + 1) u₂])], _, rfl, ((((H₅.cut 1).up 2 rfl).up 3 rfl).up 1 rfl), fun g' kg al => ⟨isList_of (al _ (List.mem_cons_self ..)), ?_⟩⟩
    exact (hp.keeps kg).snoc ⟨a, u₁, u₂, rfl, isTup_of (al _ (.tail _ (.head _)))⟩
  rintro _ h₂ t₂ hy H₂
  refine CmpOk.ints (op := .Eq) (a := (o.length : Int)) (b := o.length) rfl _ _ _ _ _ _ H₂ ⟨u₁, rfl⟩ hy fun h₃ t₃ H₃ => ⟨by simp, ?_⟩
  clear H H₁ H₂ hy
  refine V.cmpE (faultE_ (n := n) (ps := .mat 3 0 :: ps) 0 0 G hA N hf hfr H₃ rfl ?he2 lit2 mat2 (by rw [List.length_cons]; omega) (Nat.succ_pos _)
    (fun i p hi => absurd hi (Nat.not_lt_zero _)) (fun i hi => by rw [Nat.le_zero.mp hi]; exact Nat.zero_le _)
    (fun p e => by cases e; rfl) rfl fun u₁ h₁ t₁ H₁ => EvV.w (P := IsI 0) (by walk_at "ev") H₁ ?_) rfl
  case he2 =>
    intro h₁ t₁ H₁
    refine binE_ (list1E_ (tup_ H₁ (.cons (P := IsI 3) (by walk_at "ev") (.cons (P := IsI 0) (by walk_at "ev") .nil rfl) rfl) (fun vs r => by obtain ⟨_, _, rfl, _, _, _, rfl, _, rfl⟩ := r; exact Nat.le_of_ble_eq_true rfl) ?_) rfl)
    rintro vsA a h₃ t₃ ⟨_, _, rfl, ⟨u₁, rfl⟩, _, _, rfl, ⟨u₂, rfl⟩, rfl⟩ H₃
    refine ⟨_, _, H₃, fun b h₄ t₄ H₄ => EvV.w (P := fun v => v = .ref r) (by walk_at "ev") (H₄.up 2 rfl) ?_⟩
    rintro _ h₅ t₅ rfl H₅
    dsimp only [List.eraseIdx] at H₅
    refine addLists_ H₅ (H₅.at 1 rfl) (let ⟨ob, x, y⟩ := hr; ⟨ob, H₅.base _ _ x, y⟩) (by rw [hp.1]; show 1 + ps.length ≤ _; omega) fun d h₆ t₆ H₆ => ?_
    refine ⟨d, [(d, OList ([Value.ref a] ++ vs)), (a, OTup [.int 3 u₁, .int 0 u₂])], _, rfl, (((H₆.cut 2).up 3 rfl).up 2 rfl), fun g' kg al => ⟨isList_of (al _ (List.mem_cons_self ..)), ?_⟩⟩
    exact (hp.keeps kg).cons ⟨a, u₁, u₂, rfl, isTup_of (al _ (.tail _ (.head _)))⟩
  rintro _ h₄ t₄ hy H₄
  exact CmpOk.ints (op := .Eq) (a := 0) (b := 0) rfl _ _ _ _ _ _ H₄ ⟨u₁, rfl⟩ hy fun h₅ t₅ H₅ => q _ _ H₅
end
end
section
section
variable {w : World} {σ : Shared} {A : Around} {E : Value → Heap → Nat → Prop} {h : Heap} {t n : Nat} {env : Env} {g : Heap} {Q : Flow → Heap → Nat → Prop}
set_option maxHeartbeats 4000000 in
theorem law_8 {bd la ld x r r' : Addr} {pr : Int} {u yo up : Tok} {o : List UInt8} {li di : List Int} {vs vs' : List Value} {ps : List Part} (F : Fine o ps) (hc : costS li di ps = pr) (hok : ∀ p ∈ ps, partOk li p) (G : Gl w g) (hA : Room A (n + 5)) (hz : o.length ≤ 14) (N : EnvN env lawNames)
    (P : Pr g x li di) (hr : ∃ ob, g.get? r = some ob ∧ OList vs ob) (hp : PsAt g vs ps) (hr' : g.IsList r' vs'.toArray) (hp' : PsAt g vs' ps)
    (H : Led g [(env.locals, OLoc (lawM o yo u bd la ld x r r' pr up)), (242, OTab)] h) (q : ∀ h t, Led g [(env.locals, OLoc (lawM o yo u bd la ld x r r' pr up)), (242, OTab)] h → Vs (cx w σ) A env (lawBody.drop 13) Q E h t) :
    Vs (cx w σ) A env (lawBody.drop 12) Q E h t := by
  refine Vs.orF (V.or (V.cmpT (.w (EvV.w (P := fun v => v = .ref r) (by walk_at "ev") H ?_)) rfl))
  rintro _ h₁ t₁ rfl H₁
  refine EvV.w (P := fun v => v = .ref r') (by walk_at "ev") H₁ ?_
  rintro _ h₂ t₂ rfl H₂
  refine partsNe_ (stays_list H₂.base (isList_of hr)) (stays_list H₂.base hr') (hp.keeps H₂.base) (hp'.keeps H₂.base) (by have := hA.units; omega) ⟨false, rfl, rfl, ?_⟩
  refine V.or (V.cmpT (.w (call_fn H₂ (EvX.glob (gn_cost_of G) N (by kernel_rfl) (by kernel_rfl)) ⟨_, _, G.X 153 _ (by rfl), rfl⟩ (.xs (v := .ref r) (by walk_at "ev") (.xs (v := .ref x) (by walk_at "ev") .nil rfl) rfl) rfl ?_)) rfl)
  rintro _ h₃ t₃ H₃ rfl
  refine cost_of_ (n := n + 1) (G.keeps H₃.base) hA (P.keeps H₃.base) (stays_list H₃.base (isList_of hr)) (hp.keeps H₃.base) hok (Nat.le_trans F.cnt (by omega)) fun h₄ t₄ u₄ st => ?_
  rw [hc]
  refine EvV.w (P := IsI pr) (by walk_at "ev") (H₃.ext st) ?_
  rintro _ h₅ t₅ hy H₅
  refine CmpOk.ints (op := .NotEq) (a := pr) (b := pr) rfl _ _ _ _ _ _ H₅ ⟨u₄, rfl⟩ hy fun h₆ t₆ H₆ => ⟨_, rfl, by simp, ?_⟩
  refine V.or (V.cmpT (expandedE_ G hA N (by kernel_rfl) F hz (isList_of hr) hp H₆ (by walk_at "ev") fun u₁ h₄ t₄ H₄ => EvV.w (P := IsY o) (by walk_at "ev") H₄ ?_) rfl)
  rintro _ h₇ t₇ hy H₇
  exact CmpOk.neY (a := o) (b := o) _ _ _ _ _ _ H₇ ⟨u₁, rfl⟩ hy fun h₈ t₈ H₈ => ⟨_, rfl, by simp, V.orNil ⟨rfl, q _ _ H₈⟩⟩
end
end
section
set_option maxRecDepth 1000000
noncomputable def lawDef : DefRec := match stAt 35 with
  | .FunctionDef n a b _ _ _ sc _ _ p => { name := n, params := a, body := b, scope := sc, pos := p }
  | _ => { name := "", params := ⟨[], [], none, [], [], none, []⟩, body := [], scope := { kind := .function, names := [], isGenerator := false, isCoroutine := false }, pos := default }
theorem lawDef_is : defOf vq "law" = some (lawDef, []) := by kernel_rfl
theorem and_ok {a b : Bool} (x : a = true) (y : b = true) : (a && b) = true := by rw [x, y]; rfl
theorem said_ : PySem.Challenge.rw_nn0118_01.wellSaid = true := by
  unfold OpenLaw.wellSaid OpenRow.wellSaid OpenRow.partSaid looksOpen
  repeat' (with_reducible refine and_ok ?_ ?_)
  all_goals decide +kernel
theorem hd (walk : WalkQ vq lq (XL vq []) HK.says PySem.Challenge.rw_nn0118_01.row.toRowW lawDef []) : PySem.Challenge.rw_nn0118_01.Holds := by
  refine holds_law said_ fun said => ?_
  exact PySem.W.holds_open (r := PySem.Challenge.rw_nn0118_01.row) (q := vq) (loose := lq) (Xt := XtK) (XP := XL vq []) (Yf := HK.obs) (Ya := HK.val) (YP := HK.says) (N := 4048) leftK HK.of HK.keeps (fun s e => xl_of s (Bool.and_eq_true_iff.mp e).1) XL.keeps lawDef_is (by kernel_rfl) (by kernel_rfl)
    (fun s e => recFacts_of (Bool.and_eq_true_iff.mp e).2) (by kernel_rfl) said (by decide +kernel) ⟨rfl, rfl, rfl, rfl, rfl, by decide +kernel⟩ (by w_witness2) walk
end
section
inductive Cov (o : List UInt8) : Nat → List Part → Prop
  | nil {a : Nat} : a = o.length → Cov o a []
  | lit {a : Nat} {ps} : a < o.length → Cov o (a + 1) ps → Cov o a (.lit (o.getD a 0).toNat :: ps)
  | mat {a ℓ d : Nat} {ps} : 3 ≤ ℓ → 1 ≤ d → d ≤ a → a + ℓ ≤ o.length → (∀ j, j < ℓ → o.getD (a + j - d) 0 = o.getD (a + j) 0) → Cov o (a + ℓ) ps → Cov o a (.mat ℓ d :: ps)
theorem take_next {o : List UInt8} {a : Nat} (h : a < o.length) : o.take (a + 1) = o.take a ++ [o.getD a 0] := by
  rw [List.take_add_one, List.getD_eq_getElem?_getD, List.getElem?_eq_getElem h]; rfl
theorem getD_take {o : List UInt8} {a i : Nat} (h : i < a) : (o.take a).getD i 0 = o.getD i 0 := by
  rw [List.getD_eq_getElem?_getD, List.getElem?_take, if_pos h, ← List.getD_eq_getElem?_getD]
theorem copyS_take {o : List UInt8} {a d : Nat} (h1 : 1 ≤ d) (h2 : d ≤ a) : ∀ ℓ, a + ℓ ≤ o.length → (∀ j, j < ℓ → o.getD (a + j - d) 0 = o.getD (a + j) 0) → copyS (o.take a) d ℓ = o.take (a + ℓ)
  | 0, _, _ => rfl
  | ℓ + 1, hl, hj => by
    have ih := copyS_take h1 h2 ℓ (by omega) fun j h => hj j (by omega)
    show copyS (o.take a) d ℓ ++ [(copyS (o.take a) d ℓ).getD ((copyS (o.take a) d ℓ).length - d) 0] = _
    rw [ih, List.length_take, Nat.min_eq_left (by omega), getD_take (by omega), hj ℓ (by omega), ← Nat.add_assoc, take_next (by omega)]
theorem Cov.step {o : List UInt8} {a : Nat} {p : Part} {ps : List Part} (h : Cov o a (p :: ps)) : expStep (o.take a) p = o.take (a + partLen p) ∧ okP (o.take a) p = true ∧ a + partLen p ≤ o.length ∧ 1 ≤ partLen p ∧ Cov o (a + partLen p) ps ∧ (∀ b, p = .lit b → b < 256) := by
  cases h with
  | lit ha c =>
    refine ⟨?_, rfl, ha, Nat.le_refl _, c, fun b e => ?_⟩
    · show o.take a ++ [(o.getD a 0).toNat.toUInt8] = o.take (a + 1)
      rw [take_next ha, Nat.toUInt8, UInt8.ofNat_toNat]
    · cases e; exact (o.getD a 0).toNat_lt
  | mat h3 h1 h2 hl hj c =>
    refine ⟨copyS_take h1 h2 _ hl hj, ?_, hl, Nat.le_trans (by decide : 1 ≤ 3) h3, c, fun b e => nomatch e⟩
    show (decide _ && decide _) = true
    rw [List.length_take, Nat.min_eq_left (by omega), decide_eq_true h1, decide_eq_true h2]; rfl
theorem Cov.le {o : List UInt8} : ∀ {ps : List Part} {a : Nat}, Cov o a ps → a ≤ o.length
  | [], _, h => by cases h with | nil e => omega
  | p :: ps, _, h => by have := h.step; omega
theorem Cov.exp {o : List UInt8} : ∀ {ps : List Part} {a : Nat}, Cov o a ps → ps.foldl expStep (o.take a) = o ∧ (∀ i p, ps[i]? = some p → okP ((ps.take i).foldl expStep (o.take a)) p = true) ∧ (∀ i, ((ps.take i).foldl expStep (o.take a)).length ≤ o.length)
    ∧ (∀ b, .lit b ∈ ps → b < 256) ∧ (∀ ℓ d, .mat ℓ d ∈ ps → ℓ ≤ o.length) ∧ ps.length + a ≤ o.length ∧ (a : Int) + (ps.map fun p => (partLen p : Int)).sum = o.length
  | [], a, h => by
    cases h with
    | nil e => subst e; refine ⟨by simp, by simp, by simp, by simp, by simp, by simp, by simp⟩
  | p :: ps, a, h => by
    obtain ⟨e, ok, hl, h1, c, hb⟩ := h.step
    obtain ⟨a1, a2, a3, a4, a5, a6, a7⟩ := c.exp
    refine ⟨by rw [List.foldl_cons, e]; exact a1, fun i q hq => ?_, fun i => ?_, fun b hm => ?_, fun ℓ d hm => ?_, by rw [List.length_cons]; omega, ?_⟩
    · cases i with
      | zero => cases hq; exact ok
      | succ i => rw [List.take_succ_cons, List.foldl_cons, e]; exact a2 i q hq
    · cases i with
      | zero => show (o.take a).length ≤ _; rw [List.length_take]; omega
      | succ i => rw [List.take_succ_cons, List.foldl_cons, e]; exact a3 i
    · rcases List.mem_cons.mp hm with hm | hm
      · exact hb b hm.symm
      · exact a4 b hm
    · rcases List.mem_cons.mp hm with hm | hm
      · subst hm
        have : a + ℓ ≤ o.length := hl
        omega
      · exact a5 ℓ d hm
    · rw [List.map_cons, List.sum_cons, ← a7]; omega
theorem Cov.fine {o : List UInt8} {ps : List Part} (h : Cov o 0 ps) : Fine o ps := by
  obtain ⟨a1, a2, a3, a4, a5, a6, a7⟩ := h.exp
  exact ⟨a1, a2, a3, a4, a5, a6, by simpa using a7⟩
theorem comm_same {o : List UInt8} : ∀ (k b a j : Nat), j < comm o b a k → o.getD (b + j) 0 = o.getD (a + j) 0
  | 0, _, _, _, h => by cases h
  | k + 1, b, a, j, h => by
    unfold comm at h
    split at h
    · rename_i hh
      cases j with
      | zero => exact hh.2
      | succ j =>
        have := comm_same (o := o) k (b + 1) (a + 1) j (by omega)
        rwa [Nat.add_assoc, Nat.add_assoc, Nat.add_comm 1 j] at this
    · omega
theorem Cov.at {o : List UInt8} {a p ℓ mb ml k : Nat} {ps : List Part} (hp : p ∈ placesS o a mb k) (h3 : 3 ≤ ℓ) (hl : ℓ ≤ comm o p a ml) (c : Cov o (a + ℓ) ps) : Cov o a (.mat ℓ (a - p) :: ps) := by
  have h1 := (placesS_lt hp).1
  have h2 := comm_room o ml p a
  refine .mat h3 (by omega) (by omega) (by omega) (fun j hj => ?_) c
  have := comm_same (o := o) ml p a j (by omega)
  rw [show a + j - (a - p) = p + j by omega]
  exact this
theorem bestS_of (o : List UInt8) (a ml : Nat) (l : List Nat) : (bestS o a ml l).1 = 0 ∨ ∃ p ∈ l, bestS o a ml l = (comm o p a ml, a - p) := by
  have key : ∀ (l r : List Nat) (b : Nat × Nat), (b.1 = 0 ∨ ∃ p ∈ r, b = (comm o p a ml, a - p)) → (l.foldl (fun b p => if b.1 < comm o p a ml then (comm o p a ml, a - p) else b) b).1 = 0 ∨ ∃ p ∈ r ++ l, l.foldl (fun b p => if b.1 < comm o p a ml then (comm o p a ml, a - p) else b) b = (comm o p a ml, a - p) := by
    intro l
    induction l with
    | nil => intro r b h; rw [List.append_nil]; exact h
    | cons q l ih =>
      intro r b h
      rw [List.foldl_cons, List.append_cons]
      refine ih (r ++ [q]) _ ?_
      split
      · exact .inr ⟨q, by simp, rfl⟩
      · rcases h with h | ⟨p, hp, e⟩
        · exact .inl h
        · exact .inr ⟨p, List.mem_append_left _ hp, e⟩
  exact key l [] (0, 0) (.inl rfl)
theorem Cov.match {o : List UInt8} {a mb ml k : Nat} {ps : List Part} (h : (matchS o a mb ml k).1 ≠ 0) (c : Cov o (a + (matchS o a mb ml k).1) ps) : Cov o a (.mat (matchS o a mb ml k).1 (matchS o a mb ml k).2 :: ps) := by
  by_cases h3 : 3 ≤ (bestS o a ml (placesS o a mb k)).1
  · have e : matchS o a mb ml k = bestS o a ml (placesS o a mb k) := by unfold matchS; exact if_pos h3
    rw [e] at c ⊢
    rcases bestS_of o a ml (placesS o a mb k) with h0 | ⟨p, hp, ep⟩
    · omega
    · rw [ep] at h3 c ⊢
      exact Cov.at hp h3 (Nat.le_refl _) c
  · exfalso
    apply h
    unfold matchS
    exact congrArg Prod.fst (if_neg h3)
theorem lawG_cov (o : List UInt8) (mb ml k : Nat) (lz : Bool) : ∀ f a, a ≤ o.length → o.length ≤ a + f → Cov o a (lawG o mb ml k lz f a)
  | 0, a, ha, hf => .nil (by omega)
  | f + 1, a, ha, hf => by
    rw [lawG_succ]
    split
    · rename_i h
      split
      · exact .lit h (lawG_cov o mb ml k lz f _ (by omega) (by omega))
      · rename_i hn
        have hm : (matchS o a mb ml k).1 ≠ 0 := fun e => hn (.inl e)
        have := matchS_room o a mb ml k
        exact Cov.match hm (lawG_cov o mb ml k lz f _ (by omega) (by omega))
    · exact .nil (by omega)
theorem lawG_fine (o : List UInt8) (mb ml k : Nat) (lz : Bool) : Fine o (lawG o mb ml k lz o.length 0) := (lawG_cov o mb ml k lz _ _ (Nat.zero_le _) (by omega)).fine
theorem snocInd {α : Type} {P : List α → Prop} (nil : P []) (snoc : ∀ l x, P l → P (l ++ [x])) (l : List α) : P l := by
  have h : ∀ n, P (l.take n) := by
    intro n
    induction n with
    | zero => exact nil
    | succ n ih =>
      rw [List.take_add_one]
      cases l[n]? with
      | none => simpa using ih
      | some x => exact snoc _ x ih
  have := h l.length
  rwa [List.take_length] at this
noncomputable def fits (o : List UInt8) (a ml ℓ : Nat) (l : List Nat) : List Nat := l.filter fun p => decide (ℓ ≤ comm o p a ml)
theorem ways_list (o : List UInt8) (a ml : Nat) (l : List Nat) : 2 ≤ (wayFold o a ml l).1 ∧ (wayFold o a ml l).1 ≤ max 2 ml ∧ (∀ ℓ, (wayFold o a ml l).1 < ℓ → fits o a ml ℓ l = []) ∧ (∀ ℓ, 3 ≤ ℓ → ℓ ≤ (wayFold o a ml l).1 → fits o a ml ℓ l ≠ [])
    ∧ (wayFold o a ml l).2 = (List.range ((wayFold o a ml l).1 - 2)).map fun i => .mat (3 + i) (a - (fits o a ml (3 + i) l).headD 0) := by
  induction l using snocInd with
  | nil => exact ⟨Nat.le_refl _, Nat.le_max_left .., fun _ _ => rfl, fun ℓ h3 h => absurd h (by show ¬ ℓ ≤ 2; omega), rfl⟩
  | snoc l p ih =>
    obtain ⟨h2, hm, hn, hs, e⟩ := ih
    have cl := comm_le o ml p a
    have fs : ∀ ℓ, fits o a ml ℓ (l ++ [p]) = fits o a ml ℓ l ++ (if ℓ ≤ comm o p a ml then [p] else []) := by
      intro ℓ
      unfold fits
      rw [List.filter_append]
      by_cases q : ℓ ≤ comm o p a ml <;> simp [q]
    rw [wayFold_snoc]
    unfold wayStep
    dsimp only
    refine ⟨by omega, by omega, fun ℓ h => ?_, fun ℓ h3 h => ?_, ?_⟩
    · rw [fs, hn ℓ (by omega), if_neg (by omega)]; rfl
    · rw [fs]
      by_cases q : ℓ ≤ (wayFold o a ml l).1
      · have := hs ℓ h3 q
        simp [this]
      · rw [if_pos (by omega)]; simp
    · have e2 : max (wayFold o a ml l).1 (comm o p a ml) - 2 = ((wayFold o a ml l).1 - 2) + (comm o p a ml - (wayFold o a ml l).1) := by omega
      rw [e2, List.range_add, List.map_append, e, List.map_map]
      congr 1
      · refine List.map_congr_left fun i hi => ?_
        rw [List.mem_range] at hi
        have := hs (3 + i) (by omega) (by omega)
        rw [fs]
        cases q : fits o a ml (3 + i) l with
        | nil => exact absurd q this
        | cons x r => rfl
      · refine List.map_congr_left fun i hi => ?_
        rw [List.mem_range] at hi
        show _ = Part.mat (3 + ((wayFold o a ml l).1 - 2 + i)) _
        have e3 : 3 + ((wayFold o a ml l).1 - 2 + i) = (wayFold o a ml l).1 + 1 + i := by omega
        rw [e3, fs, hn _ (by omega), if_pos (by omega)]
        rfl
end
section
theorem costS_cons (li di : List Int) (p : Part) (ps : List Part) : costS li di (p :: ps) = partP li di p + costS li di ps := by
  have key : ∀ (l : List Int) (x y : Int), l.foldl (· + ·) (x + y) = x + l.foldl (· + ·) y := by
    intro l
    induction l with
    | nil => intro x y; rfl
    | cons z l ih => intro x y; rw [List.foldl_cons, List.foldl_cons, Int.add_assoc, ih]
  unfold costS
  rw [List.map_cons, List.foldl_cons, Int.add_comm 0, key]
theorem dpS_skip (o : List UInt8) (li di : List Int) (mb ml k i : Nat) : ∀ m j, (dpS o li di mb ml k (i + m)).getD (m + j) (0, none) = (dpS o li di mb ml k i).getD j (0, none)
  | 0, j => by rw [Nat.zero_add]; rfl
  | m + 1, j => by
    rw [← dpS_skip o li di mb ml k i m j, show m + 1 + j = (m + j) + 1 by omega]
    rfl
theorem chos_at {o : List UInt8} {li di : List Int} {mb ml k a : Nat} (ha : a ≤ o.length) : (dpS o li di mb ml k o.length).getD a (0, none) = (dpS o li di mb ml k (o.length - a)).getD 0 (0, none) := by
  have := dpS_skip o li di mb ml k (o.length - a) a 0
  rwa [Nat.sub_add_cancel ha, Nat.add_zero] at this
noncomputable def Rl (x : Int) (b : Nat) (tt : List (Int × Option Part)) (li di : List Int) (st : Int × Option Part) (c : Cho) : Prop := c.1 = st.1 ∧ ((st = (x, none) ∧ c.2 = (1, .lit b)) ∨ ∃ ℓ d, st = (mPrice li di ℓ d + (tt.getD (ℓ - 1) (0, none)).1, some (.mat ℓ d)) ∧ c.2 = (ℓ, .mat ℓ d))
theorem rows_same {o : List UInt8} {li di : List Int} {a ml : Nat} {l : List Nat} {t : List (Int × Option Part)} {tt : List Sx} (ht : ∀ j, (tt.getD j (0, [])).1 = (t.getD j (0, none)).1) :
    Rl (or16 li (o.getD a 0).toNat + (t.getD 0 (0, none)).1) (o.getD a 0).toNat t li di ((wayFold o a ml l).2.foldl (dpStep li di t) (or16 li (o.getD a 0).toNat + (t.getD 0 (0, none)).1, none)) (lcCh li di o a ml l tt (ml - 2)) := by
  obtain ⟨h2, hm, hn, hs, e⟩ := ways_list o a ml l
  rw [e]
  have key : ∀ j, j ≤ (wayFold o a ml l).1 - 2 → Rl (or16 li (o.getD a 0).toNat + (t.getD 0 (0, none)).1) (o.getD a 0).toNat t li di (((List.range j).map fun i => Part.mat (3 + i) (a - (fits o a ml (3 + i) l).headD 0)).foldl (dpStep li di t) (or16 li (o.getD a 0).toNat + (t.getD 0 (0, none)).1, none)) (lcCh li di o a ml l tt j) := by
    intro j
    induction j with
    | zero => exact fun _ => ⟨by show or16 _ _ + _ = _; rw [ht]; rfl, .inl ⟨rfl, rfl⟩⟩
    | succ j ih =>
      intro hj
      have ih := ih (by omega)
      rw [List.range_succ, List.map_append, List.foldl_append]
      have := hs (3 + j) (by omega) (by omega)
      unfold lcCh lcStep
      change Rl _ _ _ _ _ (dpStep li di t _ (Part.mat (3 + j) (a - (fits o a ml (3 + j) l).headD 0))) _
      generalize ((List.range j).map fun i => Part.mat (3 + i) (a - (fits o a ml (3 + i) l).headD 0)).foldl (dpStep li di t) _ = st at ih ⊢
      cases q : fits o a ml (3 + j) l with
      | nil => exact absurd q this
      | cons p r =>
        unfold fits at q
        rw [q]
        dsimp only [dpStep, List.headD_cons]
        rw [ht, ih.1]
        split
        · exact ⟨rfl, .inr ⟨_, _, rfl, rfl⟩⟩
        · exact ih
  have rest : ∀ m, lcCh li di o a ml l tt ((wayFold o a ml l).1 - 2 + m) = lcCh li di o a ml l tt ((wayFold o a ml l).1 - 2) := by
    intro m
    induction m with
    | zero => rfl
    | succ m ih =>
      rw [← ih, ← Nat.add_assoc]
      conv => lhs; unfold lcCh lcStep
      have := hn (3 + ((wayFold o a ml l).1 - 2 + m)) (by omega)
      unfold fits at this
      rw [this]
  have := rest (ml - 2 - ((wayFold o a ml l).1 - 2))
  rw [show (wayFold o a ml l).1 - 2 + (ml - 2 - ((wayFold o a ml l).1 - 2)) = ml - 2 by omega] at this
  rw [this]
  exact key _ (Nat.le_refl _)
theorem dp_row (o : List UInt8) (li di : List Int) (mb ml k i : Nat) : dpS o li di mb ml k (i + 1) = ((waysS o (o.length - (i + 1)) mb ml k).foldl (dpStep li di (dpS o li di mb ml k i)) (or16 li (o.getD (o.length - (i + 1)) 0).toNat + ((dpS o li di mb ml k i).getD 0 (0, none)).1, none)) :: dpS o li di mb ml k i := rfl
theorem lc_row (o : List UInt8) (li di : List Int) (mb ml k i : Nat) : lcS o li di mb ml k (i + 1) = lcRow (lcCh li di o (o.length - (i + 1)) ml (placesS o (o.length - (i + 1)) mb k) (lcS o li di mb ml k i) (ml - 2)) (lcS o li di mb ml k i) :: lcS o li di mb ml k i := rfl
theorem tables_same {o : List UInt8} {li di : List Int} {mb ml k : Nat} : ∀ i, ∀ j, ((lcS o li di mb ml k i).getD j (0, [])).1 = ((dpS o li di mb ml k i).getD j (0, none)).1
  | 0, 0 => rfl
  | 0, _ + 1 => rfl
  | i + 1, 0 => (rows_same (tables_same i)).1
  | i + 1, j + 1 => tables_same i j
theorem cut_same {o : List UInt8} {li di : List Int} {mb ml k : Nat} : ∀ f a, a ≤ o.length → o.length ≤ a + f →
    cutS o (chosS o li di mb ml k) f a = ((lcS o li di mb ml k (o.length - a)).getD 0 (0, [])).2 ∧ costS li di (cutS o (chosS o li di mb ml k) f a) = ((dpS o li di mb ml k (o.length - a)).getD 0 (0, none)).1
  | 0, a, ha, hf => by
    rw [show o.length - a = 0 by omega]
    exact ⟨rfl, rfl⟩
  | f + 1, a, ha, hf => by
    rw [cutS_succ]
    by_cases h : a < o.length
    · rw [if_pos h]
      obtain ⟨i, hi⟩ : ∃ i, o.length - a = i + 1 := ⟨o.length - a - 1, by omega⟩
      have ea : o.length - (i + 1) = a := by omega
      have r := rows_same (o := o) (li := li) (di := di) (a := a) (ml := ml) (l := placesS o a mb k) (tables_same (o := o) (li := li) (di := di) (mb := mb) (ml := ml) (k := k) i)
      have d := dp_row o li di mb ml k i
      have l := lc_row o li di mb ml k i
      rw [ea] at d l
      have ch : chosS o li di mb ml k a = ((waysS o a mb ml k).foldl (dpStep li di (dpS o li di mb ml k i)) (or16 li (o.getD a 0).toNat + ((dpS o li di mb ml k i).getD 0 (0, none)).1, none)).2 := by
        unfold chosS; rw [chos_at ha, hi, d]; rfl
      rw [hi, d, l]
      change _ = (lcRow _ _).2 ∧ _ = Prod.fst (List.foldl _ _ _)
      change Rl _ _ _ _ _ (List.foldl _ _ (waysS o a mb ml k)) _ at r
      have ok := fun p e => chosS_ok (o := o) (li := li) (di := di) (mb := mb) (ml := ml) (k := k) (a := a) (p := p) e
      rw [ch] at ok ⊢
      generalize (waysS o a mb ml k).foldl (dpStep li di (dpS o li di mb ml k i)) _ = st at r ok ⊢
      obtain ⟨r1, ⟨rfl, e2⟩ | ⟨ℓ, dd, rfl, e2⟩⟩ := r
      · obtain ⟨a1, a2⟩ := cut_same (o := o) (li := li) (di := di) (mb := mb) (ml := ml) (k := k) f (a + 1) (by omega) (by omega)
        rw [show o.length - (a + 1) = i by omega] at a1 a2
        dsimp only
        refine ⟨?_, ?_⟩
        · unfold lcRow
          rw [e2, a1]
          rfl
        · rw [costS_cons, a2]; rfl
      · obtain ⟨_, _, e, h3, _, hl, _⟩ := ok _ rfl
        cases e
        obtain ⟨a1, a2⟩ := cut_same (o := o) (li := li) (di := di) (mb := mb) (ml := ml) (k := k) f (a + ℓ) (by omega) (by omega)
        have s1 : (lcS o li di mb ml k (o.length - (a + ℓ))).getD 0 (0, []) = (lcS o li di mb ml k i).getD (ℓ - 1) (0, []) := by
          have key : ∀ m j i, (lcS o li di mb ml k (i + m)).getD (m + j) (0, []) = (lcS o li di mb ml k i).getD j (0, []) := by
            intro m
            induction m with
            | zero => intro j i; rw [Nat.zero_add]; rfl
            | succ m ih => intro j i; rw [← ih j i, show m + 1 + j = (m + j) + 1 by omega]; rfl
          have := key (ℓ - 1) 0 (o.length - (a + ℓ))
          rw [show o.length - (a + ℓ) + (ℓ - 1) = i by omega, Nat.add_zero] at this
          exact this.symm
        have s2 := dpS_skip o li di mb ml k (o.length - (a + ℓ)) (ℓ - 1) 0
        rw [show o.length - (a + ℓ) + (ℓ - 1) = i by omega, Nat.add_zero] at s2
        rw [s1] at a1
        rw [← s2] at a2
        dsimp only [partLen]
        refine ⟨?_, ?_⟩
        · unfold lcRow
          rw [e2, a1]
        · rw [costS_cons, a2]; rfl
    · rw [if_neg h, show o.length - a = 0 by omega]
      exact ⟨rfl, rfl⟩
theorem cut_due {o : List UInt8} {li di : List Int} {mb ml k : Nat} : cutS o (chosS o li di mb ml k) o.length 0 = ((lcS o li di mb ml k o.length).getD 0 (0, [])).2 ∧ costS li di (cutS o (chosS o li di mb ml k) o.length 0) = ((lcS o li di mb ml k o.length).getD 0 (0, [])).1 := by
  obtain ⟨a, b⟩ := cut_same (o := o) (li := li) (di := di) (mb := mb) (ml := ml) (k := k) o.length 0 (Nat.zero_le _) (by omega)
  rw [Nat.sub_zero] at a b
  exact ⟨a, b.trans (tables_same _ _).symm⟩
theorem waysS_in {o : List UInt8} {a mb ml k : Nat} {p : Part} (h : p ∈ waysS o a mb ml k) : ∃ q ℓ, q ∈ placesS o a mb k ∧ 3 ≤ ℓ ∧ ℓ ≤ comm o q a ml ∧ p = .mat ℓ (a - q) := by
  obtain ⟨h2, hm, hn, hs, e⟩ := ways_list o a ml (placesS o a mb k)
  unfold waysS at h
  rw [e] at h
  obtain ⟨i, hi, rfl⟩ := List.mem_map.mp h
  rw [List.mem_range] at hi
  have := hs (3 + i) (by omega) (by omega)
  cases q : fits o a ml (3 + i) (placesS o a mb k) with
  | nil => exact absurd q this
  | cons x r =>
    have hx : x ∈ fits o a ml (3 + i) (placesS o a mb k) := by rw [q]; exact List.mem_cons_self ..
    obtain ⟨hx1, hx2⟩ := List.mem_filter.mp hx
    exact ⟨x, 3 + i, hx1, by omega, of_decide_eq_true hx2, rfl⟩
theorem foldl_dp_in {li di : List Int} {t : List (Int × Option Part)} : ∀ (l : List Part) (st : Int × Option Part) (p : Part), (l.foldl (dpStep li di t) st).2 = some p → st.2 = some p ∨ p ∈ l
  | [], st, p, e => .inl e
  | q :: l, st, p, e => by
    rw [List.foldl_cons] at e
    rcases foldl_dp_in l _ p e with e | e
    · cases q with
      | lit b => exact .inl e
      | mat ℓ d =>
        unfold dpStep at e
        dsimp only at e
        split at e
        · cases e; exact .inr (List.mem_cons_self ..)
        · exact .inl e
    · exact .inr (List.mem_cons_of_mem _ e)
theorem chosS_in {o : List UInt8} {li di : List Int} {mb ml k a : Nat} {p : Part} (ha : a < o.length) (e : chosS o li di mb ml k a = some p) : p ∈ waysS o a mb ml k := by
  obtain ⟨i, hi⟩ : ∃ i, o.length - a = i + 1 := ⟨o.length - a - 1, by omega⟩
  unfold chosS at e
  rw [chos_at (by omega), hi, dp_row, show o.length - (i + 1) = a by omega] at e
  rcases foldl_dp_in _ _ _ e with e | e
  · cases e
  · exact e
theorem cutS_cov (o : List UInt8) (li di : List Int) (mb ml k : Nat) : ∀ f a, a ≤ o.length → o.length ≤ a + f → Cov o a (cutS o (chosS o li di mb ml k) f a)
  | 0, a, ha, hf => .nil (by omega)
  | f + 1, a, ha, hf => by
    rw [cutS_succ]
    split
    · rename_i h
      cases e : chosS o li di mb ml k a with
      | none => exact .lit h (cutS_cov o li di mb ml k f _ (by omega) (by omega))
      | some p =>
        obtain ⟨q, ℓ, hq, h3, hl, rfl⟩ := waysS_in (chosS_in h e)
        have := comm_room o ml q a
        exact Cov.at hq h3 hl (cutS_cov o li di mb ml k f (a + ℓ) (by omega) (by omega))
    · exact .nil (by omega)
theorem cutS_fine (o : List UInt8) (li di : List Int) (mb ml k : Nat) : Fine o (cutS o (chosS o li di mb ml k) o.length 0) := (cutS_cov o li di mb ml k _ _ (Nat.zero_le _) (by omega)).fine
theorem cutS_parts {o : List UInt8} {li di : List Int} {mb ml k : Nat} (hml : ml < 8) (hmb : mb < 17) (hli : li.length = 286) : ∀ f a, ∀ p ∈ cutS o (chosS o li di mb ml k) f a, partOk li p
  | 0, _, _, h => by cases h
  | f + 1, a, p, h => by
    rw [cutS_succ] at h
    split at h
    · cases e : chosS o li di mb ml k a with
      | none =>
        rw [e] at h
        rcases List.mem_cons.mp h with rfl | h
        · have := (o.getD a 0).toNat_lt
          show _ < _
          omega
        · exact cutS_parts hml hmb hli f _ p h
      | some q =>
        rw [e] at h
        rcases List.mem_cons.mp h with rfl | h
        · obtain ⟨ℓ, d, rfl, h3, h7, _, h1, hm, _⟩ := chosS_ok e
          exact ⟨h3, by omega, h1, by omega⟩
        · exact cutS_parts hml hmb hli f _ p h
    · cases h
end
section
section
variable {w : World} {σ : Shared} {A : Around} {E : Value → Heap → Nat → Prop} {h : Heap} {t n : Nat} {Q : Value → Heap → Nat → Prop} {g : Heap}
set_option maxHeartbeats 4000000 in
theorem law_all {sr : Addr} {vs : List Value} {is : List Int} {mg : Str → Option Value} (G : Gl w g) (hg : g.Ns mainGlobals mg) (B : g.BuiltinsAt mg 242) (hA : Room A (6 + 1)) (hfr : A.frames = some []) (hl : g.IsList sr vs.toArray) (hv : IntsAre vs is) (hz : is.length ≤ 1000)
    (H : Led g [(242, OIs (tabObj #[]))] h) (q : ∀ h t p, Led g [p, (242, OTab)] h → Q (.bool true) h t) : V (cx w σ) A (call (.ref 297) [.ref sr]) Q E h t := by
  have G' := G.keeps H.base
  refine callCV (ns := lawNames) (body := lawBody) (binds := [("script", _)]) (fun L => lawCells L) [("script", .ref sr)] (fun L => [(L + 3, OCell none), (L + 2, OCell none), (L + 1, OCell none)]) H (G'.X 297 _ (by rfl)) (by rfl) (by rfl) (by rfl) hA G'.lim (codeRec_of G'.X (by kernel_rfl)) (BindsTo.of_eq rfl) (by rfl) (fun L => by rfl) (by rfl) ?_ (fun L => by rfl) (fun L => by show List.Nodup [("step" : Str), "signs", "take"]; decide) rfl rfl rfl rfl rfl ?_
  · exact ll_of (by rintro p hp; simp only [List.mem_cons, List.not_mem_nil, or_false] at hp; rcases hp with rfl; rfl)
  rintro env h₁ t₁ hA N NC hf H₁
  have hfr' : (A.deeper env).frames = some [env] := Around.frames_deeper hfr
  show Vs _ _ _ (lawBody.drop 0) _ _ _ _
  refine law_1 G hg B hA hl hv hz N NC H₁ fun g₂ f pl cs h₂ t₂ k₂ T hc H₂ => ?_
  refine law_2 (G.keeps k₂) hA T hc N NC H₂ fun g₃ m b₀ b₁ b₂ s bd sg u v v' v'' h₃ t₃ k₃ hm l₀ l₁ l₂ ls Bd hs ht H₃ => ?_
  have k3 := stays_trans k₂ k₃
  refine law_3 (G.keeps k3) hA (T.keeps k₃) (hc.keeps k₃) hs hm ls ht N NC H₃ fun o yo h₄ t₄ ho H₄ => ?_
  subst ho
  refine law_5 (G.keeps k3) hA (T.keeps k₃) (hc.keeps k₃) (by omega) N NC H₄ fun g₅ la ld h₅ t₅ k₅ ea ed H₅ => ?_
  have k5 := stays_trans k3 k₅
  refine law_6 (fun lz => lawG_fine ..) (G.keeps k5) hA (Bd.keeps k₅) (by omega) (by omega) N H₅ fun h₆ t₆ H₆ => ?_
  obtain ⟨oa, ga, vl, li, ol, hli, zl⟩ := ea
  obtain ⟨od, gd, vd, di, ol', hdi, zd⟩ := ed
  refine law_7 (G.keeps k5) hA (Bd.keeps k₅) (by omega) (by omega) (by omega) (by omega) N (isList_of ⟨_, ga, ol⟩) hli (isList_of ⟨_, gd, ol'⟩) hdi zl zd H₆ fun g₇ x r r' ws ws' up h₇ t₇ k₇ P hr hp hr' hp' H₇ => ?_
  have k7 := stays_trans k5 k₇
  rw [← cut_due.1] at hp'
  have F := cutS_fine o li di (1 + b₀) (3 + b₁) b₂
  refine law_8 F cut_due.2 (cutS_parts (by omega) (by omega) zl _ _) (G.keeps k7) hA (by omega) N P hr hp hr' hp' H₇ fun h₈ t₈ H₈ => ?_
  exact law_9 (li := li) (di := di) F (G.keeps k7) hA (by omega) N hf hfr' hr hp H₈ fun h₉ t₉ H₉ => q _ _ _ (H₉.stays k7)
end
end
section
theorem law_walk : WalkQ vq lq (XL vq []) HK.says PySem.Challenge.rw_nn0118_01.row.toRowW lawDef [] := by
  intro w s₀ s₁ mg mb G Y fa o pm cd doc dV kV ho hd hcd hD hmg hg args vals as hpre hlay hrd hwl hlo
  have KX := km_in_of Y
  have hT8 := km_tabs_of Y
  wrow_args hpre hlay hrd hwl hlo
  rename_i is _ _ _ _ _ _ _ sr vs _ hL ra w1 r0 hI hr hc _
  have e : fa = 297 := by
    have := mg_of (n := "law") KX G.T.g (v := .ref 297) (by kernel_rfl)
    rw [show lawDef.name = "law" from rfl, this] at hmg
    cases hmg; rfl
  subst e
  have hT : TabsAt [(246, 242)] s₁.heap := List.forall_mem_cons.mpr ⟨⟨codeHd_of_K (c := 246) (P := 242) KX (by kernel_rfl), hT8 242 (List.mem_cons_self ..)⟩, fun _ h => nomatch h⟩
  have X' := ghost_K hT KX (by kernel_rfl)
  have T' := topRead_of (ghost_top hT G.T)
  have Gg : Gl w (ghostOf s₁.heap [(246, 242)]) := gl_of X' T'
  have B : (ghostOf s₁.heap [(246, 242)]).BuiltinsAt mg 242 := by
    obtain ⟨bm, ob, b1, b2, b3, b4, b5, b6⟩ := (ghost_top hT G.T).bmain
    have := mg_of (n := "__builtins__") KX G.T.g (v := .ref 4) (by kernel_rfl)
    rw [this] at b1
    cases b1
    exact ⟨4, ob, this, b2, by decide, by decide, b3, b4, b5, b6⟩
  have H : Led (ghostOf s₁.heap [(246, 242)]) [(242, OIs (tabObj #[]))] s₁.heap := Led.start s₁.heap [(242, OIs (tabObj #[]))] (List.forall_mem_cons.mpr ⟨⟨_, hT8 242 (List.mem_cons_self ..), rfl⟩, fun _ h => nomatch h⟩) (by decide)
  refine q_mono (law_all (σ := s₁) (t := s₁.toks) (E := NoE) (Q := fun v h _ => v = .bool true ∧ ∃ p, Led (ghostOf s₁.heap [(246, 242)]) [p, (242, OTab)] h) Gg T'.g B ⟨by decide, by decide, rfl⟩ rfl (ghost_list hT hL) hI (by omega) H fun h t p H => ⟨rfl, p, H⟩).to ?_ fun e s' ⟨_, _, _, x⟩ => x.elim
  rintro _ _ ⟨h', t', rfl, rfl, p, H'⟩
  obtain ⟨ot, ht, ps, rfl⟩ := H'.at 1 rfl
  refine ⟨.inl ⟨.bool true, .bool true, [], rfl, ?_, .bool _, ?_, fun _ => ⟨.nil, fun _ h => nomatch h⟩⟩, ⟨fun b o e => ?_, fun b o e => ?_⟩, rfl, ?_⟩
  · exact raisesW_false (r := PySem.Challenge.rw_nn0118_01.row.toRowW) allW_false_nil
  · exact postW_of (r := PySem.Challenge.rw_nn0118_01.row.toRowW) (by rfl) (by show WTm.value _ (.eq .res (.lit (.bool true))) _ = _; wtm_val) (by w_fin)
  · by_cases hb : b = 242
    · subst hb
      rw [hT8 242 (List.mem_cons_self ..)] at e
      cases e
      exact .inr (.inl ⟨((hT _ (List.mem_cons_self ..)).1.tab (hT _ (List.mem_cons_self ..)).2).isCodeTable, rfl, #[], ps, rfl, by rw [Array.empty_append]; exact ht⟩)
    · exact .inl (H'.base b o (ghost_ne e (by simpa using hb)))
  · by_cases hb : b = 242
    · subst hb; exact ⟨_, ht⟩
    · exact ⟨o, H'.base b o (ghost_ne e (by simpa using hb))⟩
  · exact .of_eq hg
theorem law_holds : PySem.Challenge.rw_nn0118_01.Holds := hd law_walk
end
end Mine
theorem PySem.Challenge.cw_nn0118_01_holds : PySem.Challenge.rw_nn0118_01.Holds := by
  exact Mine.law_holds
