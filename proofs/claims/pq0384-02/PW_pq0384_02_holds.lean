import PyProof.Rows.All
import Wide.All
import OpenK.AllK
import Wide.FinOn
import Lean
import PySem.Challenge.RW_pq0384_02
set_option Elab.async false
set_option maxRecDepth 100000
set_option maxHeartbeats 0
set_option compiler.extract_closed false
set_option linter.all false
namespace Mine
noncomputable section
section
open PySem PySem.W PyProof.Rows
noncomputable abbrev rr : OpenRow := PySem.W.Fast.tw2368527892694137696 PySem.Challenge.rw_pq0384_02
theorem sd_road : PySem.W.Fast.tw8326940854005059898 { strict := !R.allR (PySem.W.Fast.tw5923862056798008813 rr.prog.main.body) (PySem.W.Fast.tw3471404346716756564 PySem.W.Fast.tw17691160309236699985), foot := none, bare := R.filterR (PySem.W.Fast.tw13343964577679436407 rr.prog rr.prog.main.body) [⟨⟨[118, 97, 114, 115]⟩⟩, ⟨⟨[100, 105, 114]⟩⟩, ⟨⟨[108, 111, 99, 97, 108, 115]⟩⟩] } rr.prog.main.body = true := by kernel_rfl
theorem said0 : PySem.Challenge.rw_pq0384_02.wellSaid = true := by
  show OpenLaw.wellSaid PySem.Challenge.rw_pq0384_02 = true
  rewrite [PySem.W.Fast.te9446332074065402090]
  iterate 38 (refine look_both ?_ ?_)
  iterate 4 kernel_rfl
  · exact sd_road
  all_goals kernel_rfl
end
section
open PySem PySem.W PyProof.Rows
local macro_rules | `(tactic| o_head $_H) => `(tactic| assumption)
theorem kk (_h : PySem.Challenge.rw_pq0384_02.row.Holds) : PySem.Challenge.rw_pq0384_02.row.Holds := by k_head
noncomputable abbrev P0 : Program := PySem.Challenge.pw_pq0384_02
end
section
open PySem PySem.W PyProof.Rows PySem.Spec PySem.Calls
noncomputable def NxR (M : Model) (Γ : PySem.Ctx) (p : Pos) (s : Shared) (e : End) (s' : Shared) (g : Nat) (r : Resume) (k : GenResult → Sem Fin) : Prop :=
  match s.gens[g]? with
    | none => False
    | some (.fresh c) => (match r with
      | .send v => (v = .none ∧ ∃ e₁ s₁, Runs M (Γ.wake c p) p (M.den c) [] (s.setGen g .running) e₁ s₁ ∧ Runs M Γ p (k e₁.result) [] (s₁.setGen g e₁.genState) e s')
        ∨ (v ≠ .none ∧ Runs M Γ p (k .justStarted) [] s e s')
      | .throw x => Runs M Γ p (k (.raised x)) [] (s.setGen g .finished) e s')
    | some (.suspended k₀ _ c₀ p₀ fs _) => ∃ e₁ s₁, Runs M (Γ.wake c₀ p) p₀ (k₀ r) fs (s.setGen g .running) e₁ s₁ ∧ Runs M Γ p (k e₁.result) [] (s₁.setGen g e₁.genState) e s'
    | some .running => Runs M Γ p (k .running) [] s e s'
    | some .finished => Runs M Γ p (k .finished) [] s e s'
noncomputable def Nx (M : Model) (Γ : PySem.Ctx) (p : Pos) (s : Shared) (e : End) (s' : Shared) : Sem Fin → List Frame → Prop
  | t, F :: fs => ∃ e₁ s₁, Runs M (Γ.over (F :: fs)) p t [] s e₁ s₁ ∧ match e₁ with
    | .ret r => (match F with
      | .ret k _ _ _ c₁ p₁ _ => Runs M (Γ.goto c₁) p₁ (k r) fs s₁ e s'
      | .gen g k _ c₁ p₁ => Runs M (Γ.goto c₁) p₁ (k (End.ret r).result) fs (s₁.setGen g .finished) e s')
    | .susp v g₀ l₀ k₀ c₀ p₀ fs₀ => (match splitAtGen (F :: fs) with
      | none => e = .susp v g₀ l₀ k₀ c₀ p₀ (fs₀ ++ F :: fs) ∧ s' = s₁
      | some (pre, (g, k, c₁, p₁), rest) => Runs M (Γ.goto c₁) p₁ (k (.yielded v)) rest (s₁.setGen g (End.susp v g₀ l₀ k₀ c₀ p₀ (fs₀ ++ pre)).genState) e s')
  | .pure (.done f), [] => e = .ret (.ok f) ∧ s' = s
  | .raise x, [] => e = .ret (.error x) ∧ s' = s
  | .pure (.again c), [] => Runs M (Γ.goto c) p (M.den c) [] s e s'
  | .rule _ k, [] => Runs M Γ p (k ()) [] s e s'
  | .at p' k, [] => Runs M Γ p' (k ()) [] s e s'
  | .load a _ k, [] => ∃ o, s.heap.get? a = some o ∧ Runs M Γ p (k o) [] s e s'
  | .update a _ f k, [] => Runs M Γ p (k ()) [] { s with heap := s.heap.update a f } e s'
  | .loadIfAlive a k, [] => Runs M Γ p (k (s.heap.get? a)) [] s e s'
  | .point _ k, [] => Runs M Γ p (k ()) [] s e s'
  | .alloc o k, [] => Runs M Γ p (k s.heap.objs.size) [] { s with heap := s.heap.push o } e s'
  | .fresh k, [] => Runs M Γ p (k s.toks) [] { s with toks := s.toks + 1 } e s'
  | .ask k, [] => Runs M Γ p (k ⟨M.prog, M.w.params⟩) [] s e s'
  | .choose src n k, [] => Runs M Γ p (k (M.w.draws src (s.drawn.get src) % n)) [] { s with drawn := s.drawn.bump src } e s'
  | .os q _ k, [] => Runs M Γ p (k (Os.step s.os q).2) [] { s with os := (Os.step s.os q).1 } e s'
  | .handled own k, [] => Runs M Γ p (k (if own then Γ.own else Γ.handled)) [] s e s'
  | .genState g k, [] => ∃ st, s.gens[g]? = some st ∧ Runs M Γ p (k st.seen) [] s e s'
  | .stack k, [] => Runs M Γ p (k ((Γ.code, p) :: Γ.below)) [] s e s'
  | .thread k, [] => Runs M Γ p (k 0) [] s e s'
  | .newGen c k, [] => Runs M Γ p (k s.gens.size) [] { s with gens := s.gens.push (.fresh c) } e s'
  | .call c h g l k, [] => ∃ e₁ s₁, Runs M (Γ.enter c h p) p (M.den c) [] s e₁ s₁ ∧ match e₁ with
    | .ret r => Runs M Γ p (k r) [] s₁ e s'
    | .susp v g₀ l₀ k₀ c₀ p₀ fs => e = .susp v g₀ l₀ k₀ c₀ p₀ (fs ++ [.ret k h g l Γ.code p []]) ∧ s' = s₁
  | .yield v g l k, [] => e = .susp v g l k Γ.code p [] ∧ s' = s
  | .resume g r l k, [] => NxR M Γ p s e s' g r k
  | _, [] => False
theorem nx_res {M : Model} {Γ : PySem.Ctx} {p : Pos} {s s' : Shared} {e : End} {g : Nat} {r : Resume} {l} {k : GenResult → Sem Fin} : Nx M Γ p s e s' (.resume g r l k) [] = NxR M Γ p s e s' g r k := rfl
theorem nx_of {M : Model} {Γ : PySem.Ctx} {p : Pos} {t : Sem Fin} {fs : List Frame} {s s' : Shared} {e : End} (h : Runs M Γ p t fs s e s') : Nx M Γ p s e s' t fs := by
  induction h with
  | done => exact ⟨rfl, rfl⟩
  | raise => exact ⟨rfl, rfl⟩
  | yield => exact ⟨rfl, rfl⟩
  | load a b => exact ⟨_, a, b⟩
  | genState a b => exact ⟨_, a, b⟩
  | update a b => exact b
  | choose a b => exact b
  | again a b => exact b
  | call a b => exact ⟨_, _, a, b⟩
  | callSusp a => exact ⟨_, _, a, rfl, rfl⟩
  | resumeFresh a b c d => rw [nx_res]; unfold NxR; rw [a]; exact .inl ⟨rfl, _, _, b, d⟩
  | resumeSuspended a b c d => rw [nx_res]; unfold NxR; rw [a]; exact ⟨_, _, b, d⟩
  | resumeJustStarted a b c => rw [nx_res]; unfold NxR; rw [a]; exact .inr ⟨b, c⟩
  | resumeThrowFresh a b => rw [nx_res]; unfold NxR; rw [a]; exact b
  | resumeRunning a b => rw [nx_res]; unfold NxR; rw [a]; exact b
  | resumeFinished a b => rw [nx_res]; unfold NxR; rw [a]; exact b
  | segRet a b => exact ⟨_, _, a, b⟩
  | segGen a b => exact ⟨_, _, a, b⟩
  | segSuspOut a b => refine ⟨_, _, b, ?_⟩; dsimp only; rw [a]; exact ⟨rfl, rfl⟩
  | segSuspGen a b c d => refine ⟨_, _, b, ?_⟩; dsimp only; rw [a]; exact d
  | _ => assumption
theorem runs_det {M : Model} {Γ : PySem.Ctx} {p : Pos} {t : Sem Fin} {fs : List Frame} {s s' : Shared} {e : End} (h : Runs M Γ p t fs s e s') : ∀ {e₂ s₂}, Runs M Γ p t fs s e₂ s₂ → e = e₂ ∧ s' = s₂ := by
  induction h with
  | done => intro e₂ s₂ h2; have i := nx_of h2; exact ⟨i.1.symm, i.2.symm⟩
  | raise => intro e₂ s₂ h2; have i := nx_of h2; exact ⟨i.1.symm, i.2.symm⟩
  | yield => intro e₂ s₂ h2; have i := nx_of h2; exact ⟨i.1.symm, i.2.symm⟩
  | load a b ih => intro e₂ s₂ h2; obtain ⟨o, x, y⟩ := nx_of h2; cases a.symm.trans x; exact ih y
  | genState a b ih => intro e₂ s₂ h2; obtain ⟨o, x, y⟩ := nx_of h2; cases a.symm.trans x; exact ih y
  | again a b ih => intro e₂ s₂ h2; exact ih (nx_of h2)
  | update a b ih => intro e₂ s₂ h2; exact ih (nx_of h2)
  | choose a b ih => intro e₂ s₂ h2; exact ih (nx_of h2)
  | call a b iha ihb => intro e₂ s₂ h2; obtain ⟨e1, s1, x, y⟩ := nx_of h2; obtain ⟨rfl, rfl⟩ := iha x; exact ihb y
  | callSusp a iha => intro e₂ s₂ h2; obtain ⟨e1, s1, x, y⟩ := nx_of h2; obtain ⟨rfl, rfl⟩ := iha x; exact ⟨y.1.symm, y.2.symm⟩
  | resumeFresh a b c d ihb ihd =>
    intro e₂ s₂ h2
    have i := nx_of h2
    rw [nx_res] at i
    unfold NxR at i
    rw [a] at i
    rcases i with ⟨_, e1, s1, x, y⟩ | ⟨n, _⟩
    · obtain ⟨rfl, rfl⟩ := ihb x; exact ihd y
    · exact absurd rfl n
  | resumeSuspended a b c d ihb ihd =>
    intro e₂ s₂ h2
    have i := nx_of h2
    rw [nx_res] at i
    unfold NxR at i
    rw [a] at i
    obtain ⟨e1, s1, x, y⟩ := i
    obtain ⟨rfl, rfl⟩ := ihb x
    exact ihd y
  | resumeJustStarted a b c ih =>
    intro e₂ s₂ h2
    have i := nx_of h2
    rw [nx_res] at i
    unfold NxR at i
    rw [a] at i
    rcases i with ⟨n, _⟩ | ⟨_, y⟩
    · exact absurd n b
    · exact ih y
  | resumeThrowFresh a b ih => intro e₂ s₂ h2; have i := nx_of h2; rw [nx_res] at i; unfold NxR at i; rw [a] at i; exact ih i
  | resumeRunning a b ih => intro e₂ s₂ h2; have i := nx_of h2; rw [nx_res] at i; unfold NxR at i; rw [a] at i; exact ih i
  | resumeFinished a b ih => intro e₂ s₂ h2; have i := nx_of h2; rw [nx_res] at i; unfold NxR at i; rw [a] at i; exact ih i
  | segRet a b iha ihb => intro e₂ s₂ h2; obtain ⟨e1, s1, x, y⟩ := nx_of h2; obtain ⟨rfl, rfl⟩ := iha x; exact ihb y
  | segGen a b iha ihb => intro e₂ s₂ h2; obtain ⟨e1, s1, x, y⟩ := nx_of h2; obtain ⟨rfl, rfl⟩ := iha x; exact ihb y
  | segSuspOut a b ih => intro e₂ s₂ h2; obtain ⟨e1, s1, x, y⟩ := nx_of h2; obtain ⟨rfl, rfl⟩ := ih x; dsimp only at y; rw [a] at y; exact ⟨y.1.symm, y.2.symm⟩
  | segSuspGen a b c d ihb ihd => intro e₂ s₂ h2; obtain ⟨e1, s1, x, y⟩ := nx_of h2; obtain ⟨rfl, rfl⟩ := ihb x; dsimp only at y; rw [a] at y; exact ihd y
  | _ a ih => intro e₂ s₂ h2; exact ih (nx_of h2)
theorem wpCode_and {M : Model} {Γ : PySem.Ctx} {R R' : Result → Shared → Prop} {p : Pos} {s : Shared} (h : wpCode M Γ R p s) (h' : wpCode M Γ R' p s) : wpCode M Γ (fun r s => R r s ∧ R' r s) p s := by
  obtain ⟨r, s1, a, b⟩ := h
  obtain ⟨r', s1', a', b'⟩ := h'
  obtain ⟨e1, e2⟩ := runs_det a a'
  cases e1
  cases e2
  exact ⟨r, s1, a, b, b'⟩
theorem wakes_det {M : Model} {Γ : PySem.Ctx} {p : Pos} {g : Nat} {r : Resume} {s s1 s2 : Shared} {x y : GenResult} (h : Wakes M Γ p g r s x s1) (h' : Wakes M Γ p g r s y s2) : x = y ∧ s1 = s2 := by
  unfold Wakes at h h'
  split at h
  · exact h.elim
  · rename_i c e
    rw [e] at h'
    dsimp only at h'
    split at h
    · obtain ⟨e1, t1, a1, b1, rfl, rfl⟩ := h
      obtain ⟨e2, t2, a2, b2, rfl, rfl⟩ := h'
      obtain ⟨rfl, rfl⟩ := runs_det a1 a2
      exact ⟨rfl, rfl⟩
    · split at h' <;> first | exact absurd rfl (by assumption) | (obtain ⟨rfl, rfl⟩ := h; obtain ⟨rfl, rfl⟩ := h'; exact ⟨rfl, rfl⟩) | skip
      all_goals simp_all
    · obtain ⟨rfl, rfl⟩ := h
      obtain ⟨rfl, rfl⟩ := h'
      exact ⟨rfl, rfl⟩
  · rename_i e
    rw [e] at h'
    obtain ⟨e1, t1, a1, b1, rfl, rfl⟩ := h
    obtain ⟨e2, t2, a2, b2, rfl, rfl⟩ := h'
    obtain ⟨rfl, rfl⟩ := runs_det a1 a2
    exact ⟨rfl, rfl⟩
  · rename_i e
    rw [e] at h'
    obtain ⟨rfl, rfl⟩ := h
    obtain ⟨rfl, rfl⟩ := h'
    exact ⟨rfl, rfl⟩
  · rename_i e
    rw [e] at h'
    obtain ⟨rfl, rfl⟩ := h
    obtain ⟨rfl, rfl⟩ := h'
    exact ⟨rfl, rfl⟩
theorem wp_and {α : Type} {M : Model} {Γ : PySem.Ctx} {Q Q' : α → Pos → Shared → Prop} {E E' : Value → Pos → Shared → Prop} (t : Sem α) : ∀ {p : Pos} {s : Shared}, Sem.wp M Γ t Q E p s → Sem.wp M Γ t Q' E' p s →
    Sem.wp M Γ t (fun a p s => Q a p s ∧ Q' a p s) (fun a p s => E a p s ∧ E' a p s) p s := by
  induction t with
  | pure a => intro p s h h'; unfold Sem.wp at h h' ⊢; exact ⟨h, h'⟩
  | raise a => intro p s h h'; unfold Sem.wp at h h' ⊢; exact ⟨h, h'⟩
  | load a part k ih =>
    intro p s h h'
    unfold Sem.wp at h h' ⊢
    obtain ⟨o, e, h⟩ := h
    obtain ⟨o', e', h'⟩ := h'
    rw [e] at e'
    cases e'
    exact ⟨o, e, ih o h h'⟩
  | update a part f k ih => intro p s h h'; unfold Sem.wp at h h' ⊢; exact ⟨h.1, ih _ h.2 h'.2⟩
  | choose a n k ih => intro p s h h'; unfold Sem.wp at h h' ⊢; exact ⟨h.1, ih _ h.2 h'.2⟩
  | call c hh g l k ih => intro p s h h'; unfold Sem.wp at h h' ⊢; exact wpCode_mono (fun r s' z => ih r z.1 z.2) (wpCode_and h h')
  | genState g k ih =>
    intro p s h h'
    unfold Sem.wp at h h' ⊢
    obtain ⟨o, e, h⟩ := h
    obtain ⟨o', e', h'⟩ := h'
    rw [e] at e'
    cases e'
    exact ⟨o, e, ih _ h h'⟩
  | resume g r l k ih =>
    intro p s h h'
    unfold Sem.wp at h h' ⊢
    obtain ⟨x, s1, e, h⟩ := h
    obtain ⟨y, s2, e', h'⟩ := h'
    obtain ⟨rfl, rfl⟩ := wakes_det e e'
    exact ⟨x, s1, e, ih _ h h'⟩
  | _ => 
    intro p s h h'
    unfold Sem.wp at h h' ⊢
    first | exact h.elim | (rename_i ih; exact ih _ h h')
theorem wpAny_and {α : Type} {M : Model} {A : Around} {t : Sem α} {Q Q' : α → Shared → Prop} {E E' : Value → Shared → Prop} {s : Shared} (h : wpAny M A t Q E s) (h' : wpAny M A t Q' E' s) :
    wpAny M A t (fun a s => Q a s ∧ Q' a s) (fun a s => E a s ∧ E' a s) s := fun Γ p hΓ => wp_and t (h Γ p hΓ) (h' Γ p hΓ)
end
section
open PySem PySem.W PyProof.Rows PySem.Spec PySem.Calls
noncomputable def DictAt (h : Heap) (e dx : Addr) : Prop := ∃ o, h.get? e = some o ∧ o.dict = some dx
theorem dict_mapFields (o : Obj) (f : Array Value → Array Value) : (o.mapFields f).dict = o.dict := by
  obtain ⟨c, d, dt, sl⟩ := o
  cases dt <;> rfl
section
variable {M : Model} {A : Around} {E : Value → Shared → Prop} {s : Shared}
theorem entry_dict {base : Heap} {env : Env} {outer : List Env} {L e dx : Addr} {oe : Obj} {vs : Array Value} {head : Value} {hadNext : Bool}
    (hfr : A.frames = some (env :: outer)) (hl : s.heap.FunFrames base (env :: outer)) (hf : env.frame = some L)
    (he : s.heap.get? e = some oe) (hd : oe.data = .fields vs) (hsz : 1 < vs.size) (hdx : oe.dict = some dx) :
    wpAny M A (do let a ← frameOf env; let pl ← entryPlaceOf L hadNext; let b ← EntryCells.newEntry head a .none (rawInt L) .none pl; setField (.ref e) 1 b) (fun _ s' => DictAt s'.heap e dx) E s := by
  have hene : e ∉ (env :: outer).filterMap (·.frame) := fun hm => by
    obtain ⟨_, o, ho, hnf⟩ := hl.mem hm
    rw [he] at ho; injection ho with ho; subst ho; exact hnf vs hd
  refine wpAny_bind (wpAny_frameOf_fun hfr hl hf fun h₁ hs₁ => ?_)
  refine wpAny_bind (wpAny_entryPlaceOf fun pl hpl => ?_)
  unfold EntryCells.newEntry newFields
  refine wpAny_bind (wpAny_newObj_type ?_ (hpl.sizeOk5 _ _ _ _ _))
  have he₁ : h₁.get? e = some oe := (hs₁.2.1 e hene).trans he
  have he₂ := Heap.get?_push_of_some (h := h₁) { cls := .type "traceback", dict := none, data := .fields ([head, .ref L, .none, rawInt L, .none] ++ (if pl.isEmpty then List.replicate 6 Value.none else pl)).toArray } he₁
  refine wpAny_setField he₂ hd hsz ?_
  have hd₃ := Obj.data_mapFields hd (·.setIfInBounds 1 (Value.ref h₁.objs.size))
  have he₃ := Heap.get?_update_self (Obj.mapFields (·.setIfInBounds 1 (Value.ref h₁.objs.size))) he₂ (Obj.isFreed_of_fields hd₃)
  exact ⟨_, he₃, (dict_mapFields _ _).trans hdx⟩
theorem DictAt.at {h : Heap} {e dx : Addr} {oe : Obj} (d : DictAt h e dx) (he : h.get? e = some oe) : oe.dict = some dx := by
  obtain ⟨o, ho, hd⟩ := d
  rw [he] at ho
  cases ho
  exact hd
theorem note_dict {base : Heap} {env : Env} {outer : List Env} {L e dx : Addr} {cls a0 : Value}
    (hfr : A.frames = some (env :: outer)) (hl : s.heap.FunFrames base (env :: outer)) (hf : env.frame = some L) (ht : s.heap.TracedW base e cls a0) (hdx : DictAt s.heap e dx) :
    wpAny M A (noteFrame (.ref e) env) (fun _ s' => DictAt s'.heap e dx) E s := by
  obtain ⟨oe, vs, T, oT, ts, he, ⟨hcls, h0⟩, hd, h1, hnT, hTe, hT, hdT, h3⟩ := ht
  unfold noteFrame
  simp only [hf]
  refine wpAny_bind (wpAny_field he hd h1 ?_)
  rw [if_pos (show (Value.ref T != Value.none) = true from by simp)]
  refine wpAny_bind (wpAny_field hT hdT h3 ?_)
  rw [if_neg (show ¬ ((Value.none == rawInt L) = true) from by simp [rawInt])]
  refine wpAny_bind (wpAny_setField hT hdT (Array.getElem?_eq_some_iff.mp h3).1 ?_)
  have other : ∀ b, b ≠ T → (s.heap.update T (Obj.mapFields (·.setIfInBounds 3 Value.none))).get? b = s.heap.get? b := fun b hb => Heap.get?_update_other _ _ (Ne.symm hb)
  have noRecord : ∀ b o, s.heap.get? b = some o → (∀ vs, o.data ≠ .fields vs) → b ≠ T := fun b o hb hnf q => by
    rw [q, hT] at hb; injection hb with hb; subst hb; exact hnf ts hdT
  exact entry_dict hfr (hl.of_keeps fun b o hb hnf => ⟨o, (other b (noRecord b o hb hnf)).trans hb, rfl⟩) hf ((other e (Ne.symm hTe)).trans he) hd (Array.getElem?_eq_some_iff.mp h1).1 (hdx.at he)
theorem first_dict {base : Heap} {env : Env} {outer : List Env} {L e dx : Addr} {oe : Obj} {vs : Array Value}
    (hfr : A.frames = some (env :: outer)) (hl : s.heap.FunFrames base (env :: outer)) (hf : env.frame = some L)
    (he : s.heap.get? e = some oe) (hd : oe.data = .fields vs) (h1 : vs[1]? = some .none) (hdx : oe.dict = some dx) :
    wpAny M A (noteFrame (.ref e) env) (fun _ s' => DictAt s'.heap e dx) E s := by
  unfold noteFrame
  simp only [hf]
  refine wpAny_bind (wpAny_field he hd h1 ?_)
  rw [if_neg (by decide)]
  exact entry_dict hfr hl hf he hd (Array.getElem?_eq_some_iff.mp h1).1 hdx
theorem flight_dict {base : Heap} {e dx : Addr} {cls a0 fl : Value} (ht : s.heap.TracedAtW base e cls a0 fl) (hdx : DictAt s.heap e dx) :
    wpAny M A (setFlight (.ref e) none) (fun _ s' => DictAt s'.heap e dx) E s := by
  obtain ⟨oe, vs, T, oT, ts, he, hcls, hd, h1, hnT, hTe, hT, hdT, h3⟩ := ht
  unfold setFlight
  refine wpAny_bind (wpAny_field he hd h1 ?_)
  rw [if_pos (show (Value.ref T != Value.none) = true from by simp)]
  exact wpAny_setField hT hdT (Array.getElem?_eq_some_iff.mp h3).1 ⟨oe, (Heap.get?_update_other _ _ hTe).trans he, hdx.at he⟩
end
end
section
open PySem PySem.W PyProof.Rows PySem.Spec PySem.Calls
noncomputable abbrev excD (C t : Addr) (dx : Addr) : Obj := { cls := .ref C, dict := some dx, data := .fields #[.ref t, .none, .none, .none, .bool false, .none] }
section
variable {M : Model} {A : Around} {E : Value → Shared → Prop} {s : Shared}
theorem first_noteW {base : Heap} {env : Env} {outer : List Env} {L e : Addr} {oe : Obj} {vs : Array Value} {a0 : Value} {Q : Unit → Shared → Prop}
    (hfr : A.frames = some (env :: outer)) (hl : s.heap.FunFrames base (env :: outer)) (hf : env.frame = some L)
    (he : s.heap.get? e = some oe) (hkb : base.StaysIn s.heap) (hen : base.get? e = none) (hd : oe.data = .fields vs) (h1 : vs[1]? = some .none) (h0 : vs[0]? = some a0)
    (h : ∀ h', Heap.NotedW base (env :: outer) e oe.cls a0 (rawInt L) s.heap h' → Q () { s with heap := h' }) : wpAny M A (noteFrame (.ref e) env) Q E s := by
  unfold noteFrame
  simp only [hf]
  refine wpAny_bind (wpAny_field he hd h1 ?_)
  rw [if_neg (by decide)]
  exact wpAny_entryW hfr hl hf he hkb hen hd (Array.getElem?_eq_some_iff.mp h1).1 h0 h
theorem leaving_first_dict {base : Heap} {env : Env} {outer : List Env} {L e dx : Addr} {oe : Obj} {vs : Array Value} {a0 : Value}
    (hfr : A.frames = some (env :: outer)) (hl : s.heap.FunFrames base (env :: outer)) (hf : env.frame = some L)
    (he : s.heap.get? e = some oe) (hkb : base.StaysIn s.heap) (hen : base.get? e = none) (hd : oe.data = .fields vs) (h1 : vs[1]? = some .none) (h0 : vs[0]? = some a0) (hdx : oe.dict = some dx) :
    wpAny M A (leaving env (.ref e)) (fun _ s' => DictAt s'.heap e dx) E s := by
  unfold leaving
  refine wpAny_bind (wpAny_mono (wpAny_and (first_dict (E := E) hfr hl hf he hd h1 hdx) (first_noteW (E := E) (Q := fun _ s' => s'.heap.TracedAtW base e oe.cls a0 (rawInt L)) hfr hl hf he hkb hen hd h1 h0 fun h' x => x.2.2.1)) (fun _ s' z => ?_) fun _ _ z => z.1)
  exact flight_dict z.2 z.1
theorem leaving_next_dict {base : Heap} {env : Env} {outer : List Env} {L e dx : Addr} {cls a0 : Value}
    (hfr : A.frames = some (env :: outer)) (hf : env.frame = some L) (hfl : Heap.FlyingW base (env :: outer) e cls a0 s.heap) (hdx : DictAt s.heap e dx) :
    wpAny M A (leaving env (.ref e)) (fun _ s' => DictAt s'.heap e dx) E s := by
  obtain ⟨f1, f2, f3, f4⟩ := hfl
  unfold leaving
  refine wpAny_bind (wpAny_mono (wpAny_and (note_dict (E := E) hfr f3 hf f4 hdx) (wpAny_noteFrame_onW (E := E) (Q := fun _ s' => s'.heap.TracedAtW base e cls a0 (rawInt L)) hfr f3 hf f4 f1 f2 fun h' x => x.2.2.1)) (fun _ s' z => ?_) fun _ _ z => z.1)
  exact flight_dict z.2 z.1
end
noncomputable def RaisedD (base G : Heap) (l : List Env) (e : Addr) (cls : Value) (t : Addr) (vs : List Value) (dx : Addr) (news : List (Addr × Obj)) (h : Heap) : Prop :=
  RaisedS base G l e cls t vs news h ∧ DictAt h e dx
section
variable {M : Model} {A : Around} {E : Value → Shared → Prop} {s' : Shared} {base g g₂ : Heap} {outer : List Env} {L a e t dx C : Addr} {m : Str → Option Value} {name : Str} {scope : Scope} {cd : Value} {Q : Unit → Shared → Prop} {news : List (Addr × Obj)}
theorem leave_onD {cls : Value} {vs : List Value} (K : Below A base outer g) (F : Fr g L g₂ m) (R : RaisedD base g₂ (envOf name scope L a cd :: outer) e cls t vs dx news s'.heap) (hsm : g₂.UpToSlots s'.heap)
    (hQ : ∀ h', RaisedD base g outer e cls t vs dx news h' → g.UpToSlots h' → Q () { s' with heap := h' }) :
    wpAny M (A.deeper (envOf name scope L a cd)) (leaving (envOf name scope L a cd) (.ref e)) Q E s' := by
  have hfl := R.1
  obtain ⟨⟨B, hB, hBG, hl, hfl, hnew⟩, htup⟩ := hfl
  refine wpAny_mono (wpAny_and (leave_onS (E := E) (Q := fun _ s => ∃ h', RaisedS base g outer e cls t vs news h' ∧ g.UpToSlots h' ∧ s = { s' with heap := h' }) K F R.1 hsm fun h' x _ y => ⟨h', x, y, rfl⟩) (leaving_next_dict (E := E) (Around.frames_deeper K.stack) rfl hfl R.2)) (fun _ s'' z => ?_) fun _ _ z => z.1
  obtain ⟨⟨h', x, y, rfl⟩, d⟩ := z
  exact hQ h' ⟨x, d⟩ y
theorem leave_raiseD {vs : List Value} {n : Nat} (K : Below A base outer g) (F : Fr g L s'.heap m) (N : News g L s'.heap ((e, excD C t dx) :: (t, { cls := .type "tuple", data := .seq vs.toArray n }) :: news))
    (ne : ∀ q ∈ news, q.1 ≠ e ∧ q.1 ≠ t)
    (hQ : ∀ h', RaisedD base g outer e (.ref C) t vs dx news h' → g.UpToSlots h' → Q () { s' with heap := h' }) (hk : scope.kind = .function := by rfl) :
    wpAny M (A.deeper (envOf name scope L a cd)) (leaving (envOf name scope L a cd) (.ref e)) Q E s' := by
  have K' := K.push (name := name) (a := a) (cd := cd) F hk
  have Ne := N (e, excD C t dx) (.head _)
  have Nt := N (t, { cls := .type "tuple", data := .seq vs.toArray n }) (.tail _ (.head _))
  have he : s'.heap.get? e = some (excD C t dx) := Ne.1
  have ht : s'.heap.get? t = some { cls := .type "tuple", data := .seq vs.toArray n } := Nt.1
  have fr : ∀ q, g.get? q = none → q ≠ L → q ∉ (envOf name scope L a cd :: outer).filterMap (·.frame) := fun q hq hL hm => by
    rcases kts_mem hm with z | z
    · exact hL z
    · obtain ⟨o, ho, _⟩ := (K.frames.mem z).2
      rw [hq] at ho; cases ho
  have hin : ∀ env ∈ (envOf name scope L a cd :: outer), ∀ b, env.frame = some b → b ∈ e :: t :: (envOf name scope L a cd :: outer).filterMap (·.frame) := fun env he b hb => .tail _ (.tail _ (List.mem_filterMap.mpr ⟨env, he, hb⟩))
  have st : base.StaysIn (hideAll s'.heap (e :: t :: (envOf name scope L a cd :: outer).filterMap (·.frame))) := fun b o q => hideAll_get _ (K'.stays b o q) fun hm => by
    rcases List.mem_cons.mp hm with z | hm
    · have z2 := K.stays b o q; rw [z, Ne.2.2] at z2; cases z2
    rcases List.mem_cons.mp hm with z | hm
    · have z2 := K.stays b o q; rw [z, Nt.2.2] at z2; cases z2
    rw [(K'.frames.mem hm).1] at q; cases q
  have sg : ∀ b o, g.get? b = some o → b ∉ outer.filterMap (·.frame) → (hideAll s'.heap (e :: t :: (envOf name scope L a cd :: outer).filterMap (·.frame))).get? b = some o := fun b o q nm => hideAll_get _ (F.keep b o q) fun hm => by
    rcases List.mem_cons.mp hm with z | hm
    · rw [z, Ne.2.2] at q; cases q
    rcases List.mem_cons.mp hm with z | hm
    · rw [z, Nt.2.2] at q; cases q
    rcases kts_mem hm with z | z
    · rw [z, kts_self F] at q
      cases q
    · exact nm z
  have hl : ∀ q ∈ news, (hideAll s'.heap (e :: t :: (envOf name scope L a cd :: outer).filterMap (·.frame))).get? q.1 = some q.2 ∧ g.get? q.1 = none ∧ base.get? q.1 = none := fun q hq => by
    have Nq := N q (.tail _ (.tail _ hq))
    refine ⟨hideAll_get _ Nq.1 fun hm => ?_, Nq.2.2, fresh_of_stays K.stays Nq.2.2⟩
    rcases List.mem_cons.mp hm with z | hm
    · exact (ne q hq).1 z
    rcases List.mem_cons.mp hm with z | hm
    · exact (ne q hq).2 z
    exact fr q.1 Nq.2.2 Nq.2.1 hm
  have hkb : (hideAll s'.heap (e :: t :: (envOf name scope L a cd :: outer).filterMap (·.frame))).StaysIn s'.heap := fun b o q => of_hideAll _ q
  have hen : (hideAll s'.heap (e :: t :: (envOf name scope L a cd :: outer).filterMap (·.frame))).get? e = none := hideAll_none _ (.head _)
  have htn : (hideAll s'.heap (e :: t :: (envOf name scope L a cd :: outer).filterMap (·.frame))).get? t = none := hideAll_none _ (.tail _ (.head _))
  have hff := funFrames_hide (as := e :: t :: (envOf name scope L a cd :: outer).filterMap (·.frame)) K'.frames hin
  refine wpAny_mono (wpAny_and (wpAny_leaving_firstW (E := E) (a0 := .ref t) (Q := fun _ s => ∃ h', Heap.LeftW (hideAll s'.heap (e :: t :: (envOf name scope L a cd :: outer).filterMap (·.frame))) (envOf name scope L a cd :: outer) e (.ref C) (.ref t) s'.heap h' ∧ s = { s' with heap := h' })
    K'.stack hff rfl he hkb hen rfl rfl rfl fun h' x => ⟨h', x, rfl⟩)
    (leaving_first_dict (E := E) (a0 := .ref t) K'.stack hff rfl he hkb hen rfl rfl rfl rfl)) (fun _ s'' z => ?_) fun _ _ z => z.1
  obtain ⟨⟨h', ⟨k1, ⟨_, _, k2⟩, k3, k4⟩, rfl⟩, d⟩ := z
  exact hQ h' ⟨⟨⟨_, st, sg, hl, ⟨k1, hen, k2, k3⟩, htn⟩, Heap.TupAt.of_slots ⟨_, _, ht, rfl, rfl⟩ k4⟩, d⟩ ((Heap.UpToSlots.of_keeps F.keep).trans k4)
end
end
section
open PySem PySem.W PyProof.Rows PySem.Spec PySem.Calls
section
variable {prog : Program} {w : World} {A₀ : Around} {E : Value → Shared → Prop} {s' : Shared} {base g g₀ G : Heap} {outer : List Env} {L a e t dx C : Addr} {m : Str → Option Value} {name : Str} {scope : Scope} {cd : Value}
  {vs : List Value} {n : Str} {b₀ : Stmt} {suite : List Stmt} {pos np : Pos} {rest : List ExceptHandler} {Q : Flow → Shared → Prop} {news : List (Addr × Obj)} {KF : Frag}
  {p : Program} {loose : List Str} {mean : ExcName → Option Value} {mg mb : Str → Option Value} {x : Str}
theorem looks_onD {M : Model} {A : Around} {s : Shared} {B : Heap} {env : Env} {cls a0 : Value} {Q : Unit → Shared → Prop}
    (hfr : A.frames = some (env :: outer)) (hf : env.frame = some L) (hfl : Heap.FlyingW B (env :: outer) e cls a0 s.heap) (hdx : DictAt s.heap e dx)
    (hQ : ∀ h', Heap.HeldW B (env :: outer) e cls a0 L h' → s.heap.UpToSlots h' → DictAt h' e dx → Q () { s with heap := h' }) : wpAny M A (noteFrame (.ref e) env) Q E s := by
  refine wpAny_mono (wpAny_and (wpAny_looks_onW (E := E) (Q := fun _ s₁ => ∃ h', Heap.HeldW B (env :: outer) e cls a0 L h' ∧ s.heap.UpToSlots h' ∧ s₁ = { s with heap := h' }) hfr hf hfl fun h' x y => ⟨h', x, y, rfl⟩)
    (note_dict (E := E) hfr hfl.2.2.1 hf hfl.2.2.2 hdx)) (fun _ s'' z => ?_) fun _ _ z => z.1
  obtain ⟨⟨h', x, y, rfl⟩, d⟩ := z
  exact hQ h' x y d
theorem landsD {M : Model} {A : Around} {s : Shared} {B : Heap} {l : List Env} {cls a0 : Value} {Q : Unit → Shared → Prop} (hh : Heap.HeldW B l e cls a0 L s.heap) (hdx : DictAt s.heap e dx)
    (hQ : ∀ h', Heap.FlyingW B l e cls a0 h' → s.heap.UpToSlots h' → DictAt h' e dx → Q () { s with heap := h' }) : wpAny M A (setFlight (.ref e) none) Q E s := by
  refine wpAny_mono (wpAny_and (wpAny_landsW (E := E) (Q := fun _ s₁ => ∃ h', Heap.FlyingW B l e cls a0 h' ∧ s.heap.UpToSlots h' ∧ s₁ = { s with heap := h' }) hh fun h' x y => ⟨h', x, y, rfl⟩)
    (flight_dict (E := E) hh.2.2.2 hdx)) (fun _ s'' z => ?_) fun _ _ z => z.1
  obtain ⟨⟨h', x, y, rfl⟩, d⟩ := z
  exact hQ h' x y d
theorem lands_againD {M : Model} {A : Around} {s : Shared} {B : Heap} {l : List Env} {cls a0 : Value} {Q : Unit → Shared → Prop} (hh : Heap.FlyingW B l e cls a0 s.heap) (hdx : DictAt s.heap e dx)
    (hQ : ∀ h', Heap.FlyingW B l e cls a0 h' → s.heap.UpToSlots h' → DictAt h' e dx → Q () { s with heap := h' }) : wpAny M A (setFlight (.ref e) none) Q E s := by
  refine wpAny_mono (wpAny_and (lands_againW (E := E) (Q := fun _ s₁ => ∃ h', Heap.FlyingW B l e cls a0 h' ∧ s.heap.UpToSlots h' ∧ s₁ = { s with heap := h' }) hh fun h' x y => ⟨h', x, y, rfl⟩)
    (flight_dict (E := E) hh.2.2.2.at hdx)) (fun _ s'' z => ?_) fun _ _ z => z.1
  obtain ⟨⟨h', x, y, rfl⟩, d⟩ := z
  exact hQ h' x y d
theorem caughtD (R : RaisedD base G (envOf name scope L a cd :: outer) e (.ref C) t vs dx news s'.heap) (F : Fr g L G m) (K : Below A₀ base outer g) (hsm : G.UpToSlots s'.heap) (XB : KF.In base) (TB : Top p loose mean mg mb base)
    (ex : nsIn KF mainGlobals x = some (some (.ref C))) (q : ktsIn KF C "BaseException" = true)
    (k : ∀ h' g' tk oe ws, KtsTurn (outer.filterMap (·.frame)) g g' → Fr g' L h' (fun y => if y = n then some (.ref e) else m y) → oe.cls = .ref C → oe.dict = some dx → oe.data = .fields ws → News g' L h' ((e, oe) :: news) → Below A₀ base outer g' → KF.In g' → Top p loose mean mg mb g' →
      wpAny (model prog w) ((A₀.deeper (envOf name scope L a cd)).mark (some (.ref e))) (execs (b₀ :: suite) (envOf name scope L a cd))
        (fun f s₄ => wpAny (model prog w) (A₀.deeper (envOf name scope L a cd)) (do bindName (envOf name scope L a cd) n .none; unbindBehindTheSuite (envOf name scope L a cd) n pos) (fun _ s₅ => Q f s₅) E s₄)
        (AsSuiteRaised (model prog w) ((A₀.deeper (envOf name scope L a cd)).mark (some (.ref e))) (envOf name scope L a cd) n pos (notedBy (model prog w) ((A₀.deeper (envOf name scope L a cd)).mark (some (.ref e))) (envOf name scope L a cd) (cameBackBy (model prog w) (A₀.deeper (envOf name scope L a cd)) (envOf name scope L a cd) E)))
        { s' with heap := h', toks := tk })
    (hk : scope.kind = .function := by rfl) (hlo : (envOf name scope L a cd).kindOf n = some .local := by rfl) (hx : (envOf name scope L a cd).kindOf x = some .globalImplicit := by rfl) (hd : (x == ("__debug__" : Str)) = false := by decide) :
    wpAny (model prog w) (A₀.deeper (envOf name scope L a cd)) (noteFrame (.ref e) (envOf name scope L a cd))
      (fun _ s₂ => wpAny (model prog w) (A₀.deeper (envOf name scope L a cd)) (setFlight (.ref e) none) (fun _ s₃ =>
        wpAny (model prog w) (A₀.deeper (envOf name scope L a cd)) (handleBy (.ref e) (envOf name scope L a cd) (.ExceptHandler (some (.Name x np)) (some n) (b₀ :: suite) pos :: rest)) Q E s₃) E s₂) E s' := by
  obtain ⟨⟨⟨B, hB, hBG, hl, hfl, hnew⟩, htup⟩, hdx⟩ := R
  have hL : B.get? L = none := by
    obtain ⟨_, ⟨L', _, hf, hn', _⟩, _⟩ := hfl.2.2.1
    obtain rfl : L = L' := Option.some.inj hf
    exact hn'
  refine looks_onD (Around.frames_deeper K.stack) rfl hfl hdx fun h₄ hheld₄ hsm₄ hdx₄ => ?_
  refine landsD hheld₄ hdx₄ fun h₅ hheld hsm₅' hdx₅ => ?_
  have hsm₅ := hsm₄.trans hsm₅'
  obtain ⟨g₅, T₅, F₅, K₅⟩ := kts_ground K F hBG hheld.1 (hsm.trans hsm₅)
  have X₅ : KF.In g₅ := XB.keeps K₅.stays
  have P₅ : TopRead p loose mg mb g₅ := topRead_of (TB.keeps K₅.stays)
  obtain ⟨ob, hob, hobc⟩ := hheld.there
  obtain ⟨nm, q', N, bs, bm, hdct, sn, sub, ab, col, dd, k0, k1, k2, k3, k5, newId, hC, hbase, hbT⟩ := kts_cls X₅ q
  have hC₅ := F₅.keep _ _ hC
  refine wpAny_handleBy_cons (codeAny_handlers_test (name_K F₅ X₅ P₅ ex ?_ hk hx hd)) (by intro q; cases q)
  refine wpAny_excMatches_sub_self hC₅ hob hobc hbase (codeAny_handlers_suite_as ?_)
  refine lands_againD hheld hdx₅ fun h₆ hfl₆ hsm₆ hdx₆ => ?_
  obtain ⟨g₆, T₆, F₆, K₆⟩ := kts_ground K F hBG hfl₆.1 ((hsm.trans hsm₅).trans hsm₆)
  obtain ⟨oe, ws, hoe, hoec, hoed, hoe0⟩ := hfl₆.first
  have ne₆ : g₆.get? e = none := T₆.none_ _ (kts_fresh F hBG hfl₆.2.1 fun o ho m => by
    obtain ⟨_, o', ho', hd⟩ := K.frames.mem m
    rw [ho] at ho'
    cases ho'
    obtain ⟨sl, hs⟩ := ((hsm.trans hsm₅).trans hsm₆) _ _ (F.keep _ _ ho) hd
    rw [hoe] at hs
    cases hs
    exact hd _ hoed)
  have N₆ := News.more F₆ News.nil hoe (fun es n q => by rw [hoed] at q; cases q) ne₆
  have Nl : News g₆ L h₆ news := fun q hq => ⟨hfl₆.1 _ _ (hl q hq).1, (fun z => by have := (hl q hq).1; rw [z, hL] at this; cases this), T₆.none_ _ (kts_none F.keep (hl q hq).2.1)⟩
  have X₆ : KF.In g₆ := XB.keeps K₆.stays
  have P₆ : Top p loose mean mg mb g₆ := TB.keeps K₆.stays
  refine stN F₆ (news := (e, oe) :: news) (fun q hq => (List.mem_cons.mp hq).elim (fun z => z ▸ N₆ (e, oe) (.head _)) (Nl q)) (fun h₇ F₇ N₇ => ?_) hk hlo
  exact k h₇ g₆ _ oe ws T₆ F₇ hoec (hdx₆.at hoe) hoed N₇ K₆ X₆ P₆
end
end
section
open PySem PySem.W PyProof.Rows PySem.Spec PySem.Calls
theorem mem_frames {env : Env} {L b : Addr} {outer : List Env} (hf : env.frame = some L) (hm : b ∈ (env :: outer).filterMap (·.frame)) : b = L ∨ b ∈ outer.filterMap (·.frame) := by
  obtain ⟨x, he, hx⟩ := List.mem_filterMap.mp hm
  rcases List.mem_cons.mp he with rfl | he
  · rw [hf] at hx
    exact .inl (Option.some.inj hx).symm
  · exact .inr (List.mem_filterMap.mpr ⟨x, he, hx⟩)
theorem leave_onX {M : Model} {A : Around} {E : Value → Shared → Prop} {s' : Shared} {base g g₂ : Heap} {env : Env} {outer : List Env} {L e t dx : Addr} {m : Str → Option Value} {Q : Unit → Shared → Prop} {news : List (Addr × Obj)} {cls : Value} {vs : List Value}
    (K : Below A base outer g) (F : Fr g L g₂ m) (R : RaisedD base g₂ (env :: outer) e cls t vs dx news s'.heap) (hsm : g₂.UpToSlots s'.heap)
    (hQ : ∀ h', RaisedD base g outer e cls t vs dx news h' → g.UpToSlots h' → Q () { s' with heap := h' }) (hf : env.frame = some L) :
    wpAny M (A.deeper env) (leaving env (.ref e)) Q E s' := by
  obtain ⟨⟨⟨B, hB, hBG, hl, hfl, hnew⟩, htup⟩, hd⟩ := R
  refine wpAny_mono (wpAny_and (wpAny_leaves_onW (E := E) (Q := fun _ s => ∃ h', Heap.FlyingW B outer e cls (.ref t) h' ∧ s'.heap.UpToSlots h' ∧ s = { s' with heap := h' }) (Around.frames_deeper K.stack) hf hfl fun h' x y => ⟨h', x, y, rfl⟩)
    (leaving_next_dict (E := E) (Around.frames_deeper K.stack) hf hfl hd)) (fun _ s'' z => ?_) fun _ _ z => z.1
  obtain ⟨⟨h', x1, x2, rfl⟩, d⟩ := z
  exact hQ h' ⟨⟨⟨B, hB, fun b o q nm => hBG b o (F.keep b o q) (fun hm => by
      rcases mem_frames hf hm with z | z
      · rw [z, kts_self F] at q
        cases q
      · exact nm z), fun q hq => ⟨(hl q hq).1, kts_none F.keep (hl q hq).2.1, (hl q hq).2.2⟩, x1, hnew⟩, htup.of_slots x2⟩, d⟩ ((Heap.UpToSlots.of_keeps F.keep).trans (hsm.trans x2))
end
section
open PySem
section
variable {prog : Program} {w : World} {A : Around} {R : Result → Shared → Prop} {h : Heap} {g : Array GenState} {d : Drawn} {t : Nat} {os : OsState}
variable {nm q : Str} {C N : Addr} {bs bm bmB : List Value} {hdct : Bool} {sn : List Str} {sub : List Value} {ab : Bool} {col : Option Bool} {dd : Option Addr} {k0 k1 k2 k3 k5 : Option Value} {B newId initId : String}
theorem kf_check (F : ExcBaseFacts B newId initId bmB) {E : Value → Shared → Prop} {rest : List Value} {Q : Unit → Shared → Prop} (hb : bm.contains (.type B) = true) (hC : h.get? C = some (excClassObj nm q C N bs bm hdct sn sub ab col dd k0 k1 k2 k3 k5 newId))
    (hq : Q () ⟨h, g, d, t, os⟩) : wpAny (model prog w) A (checkBuiltinCall newId ⟨.ref C :: rest, []⟩) Q E ⟨h, g, d, t, os⟩ := by
  have hcont : (Value.ref C :: bm).contains (.type B) = true := by rw [List.contains_cons, hb, Bool.or_true]
  have hstar := F.noStar
  simp only [checkBuiltinCall, F.newKind, F.newSplit, F.newRow]
  repeat (first | refine wpAny_loadPart_at hC ?_ | (refine wpAny_isSubtype_exc hC ?_; rw [hcont]) | refine wpAny_staticBase_exc hC ?_ | refine wpAny_madeBy_exc hC ?_ | simp only [bne_self_eq_false, Bool.false_eq_true, if_false] | wp_step)
  exact hq
theorem kf_new (F : ExcBaseFacts B newId initId bmB) {rest : List Value} (hb : bm.contains (.type B) = true) (ha : bm.contains (.type "AttributeError") = false) (hn : bm.contains (.type "NameError") = false)
    (hC : h.get? C = some (excClassObj nm q C N bs bm hdct sn sub ab col dd k0 k1 k2 k3 k5 newId))
    (hq : R (.ok (.ret (.ref (h.objs.size + 1)))) ⟨(h.push { cls := .type "tuple", data := .seq rest.toArray }).push ({ cls := .ref C, data := .fields #[.ref h.objs.size, .none, .none, .none, .bool false, .none] }), g, d, t, os⟩) (hrest : rest.length ≤ sizeLine) :
    codeAny (model prog w) A (.builtin newId ⟨.ref C :: rest, []⟩) R ⟨h, g, d, t, os⟩ := by
  have hends := F.ends
  have hcB : (Value.ref C :: bm).contains (.type B) = true := by rw [List.contains_cons, hb, Bool.or_true]
  have hcA : (Value.ref C :: bm).contains (.type "AttributeError") = false := by rw [List.contains_cons, ha]; rfl
  have hcN : (Value.ref C :: bm).contains (.type "NameError") = false := by rw [List.contains_cons, hn]; rfl
  refine codeAny_builtinAt F.entry ?_
  unfold Builtin.«BaseException.__new__»
  refine wpAt_bind ?_
  show wpAt _ _ _ (stack >>= _) _ _ _
  refine wpAt_bind (wpAt_stack fun p below => wpAt_of_wpAny ?_)
  wp_walk
  refine wpAt_of_wpAny ?_
  rw [F.owner]
  repeat (first | with_reducible refine wpAny_madeHere_exc F.canon hC ?_ | with_reducible refine wpAny_loadPart_at hC ?_ | (with_reducible refine wpAny_isSubtype_exc hC ?_; first | rw [hcB] | rw [hcA] | rw [hcN]) | wp_step)
  show R _ _
  rw [Heap.size_push]
  exact hq
end
end
section
open PySem PySem.W PyProof.Rows PySem.Spec PySem.Calls
noncomputable abbrev excO (C t : Addr) : Obj := { cls := .ref C, data := .fields #[.ref t, .none, .none, .none, .bool false, .none] }
section
variable {prog : Program} {w : World} {A : Around} {K : Frag} {R : Result → Shared → Prop} {h : Heap} {g : Array GenState} {d : Drawn} {t : Nat} {os : OsState}
variable {nm q : Str} {C N : Addr} {bs bm bmB : List Value} {hdct : Bool} {sn : List Str} {sub : List Value} {ab : Bool} {col : Option Bool} {dd : Option Addr} {k0 k1 k2 k3 k5 : Option Value} {B newId initId : String}
theorem kf_core {rest : List Value} {fI : Addr} (F : ExcBaseFacts B newId initId bmB) (hb : bm.contains (.type B) = true) (ha : bm.contains (.type "AttributeError") = false) (hn : bm.contains (.type "NameError") = false) (X : K.In h) (hC : h.get? C = some (excClassObj nm q C N bs bm hdct sn sub ab col dd k0 k1 k2 k3 k5 newId))
    (hcall : specialIn K (.ref C) "__call__" = some (some (.builtin "type.__call__"))) (htyp : instIn K (.ref C) (.type "type") = some true) (hmro : findIn K (.ref C) "__init__" = some (some (.ref fI)))
    (hf : typeIn K (.ref fI) = some (.type "function")) (hrest : rest.length ≤ sizeLine)
    (hq : codeAny (model prog w) (A.under (.builtin "type.__call__" ⟨.ref C :: rest, []⟩)) (.call (.ref fI) ⟨.ref (h.objs.size + 1) :: rest, []⟩) (InitBack (h.objs.size + 1) R)
      ⟨(h.push { cls := .type "tuple", data := .seq rest.toArray }).push (excO C h.objs.size), g, d, t, os⟩) :
    codeAny (model prog w) A (.call (.ref C) ⟨rest, []⟩) R ⟨h, g, d, t, os⟩ := by
  have call : Looks (model prog w) h (specialOf (.ref C) "__call__") (some (.builtin "type.__call__")) := looks_specialIn X hcall
  have typ : Looks (model prog w) h (isInstance (.ref C) (.type "type")) true := looks_instIn X htyp
  refine codeAny_of_tree ?_
  show wpAny _ _ (callAny (.ref C) _) _ _ _
  refine nd_load hC ?_
  show wpAny _ _ (callAny.viaDunder (.ref C) _) _ _ _
  unfold callAny.viaDunder
  refine wpAny_bind (call.at ?_)
  dsimp only
  rw [tc_bind]
  refine wpAny_bind (wpAny_pure (wpAny_bind (wpAny_pure ?_)))
  refine wpAny_pure (a := Fin.again (.call (.builtin "type.__call__") ⟨.ref C :: rest, []⟩)) (And.intro rfl ?_)
  refine codeAny_call_builtin_at (Code.quiet_builtin _ (by decide +kernel)) entry_typeCall (check_slot tc_kind tc_split typ (tc_args _ _ _) ?_)
  repeat (first | with_reducible refine wpAny_loadPart_at hC ?_ | with_reducible refine wpAny_madeBy_exc hC ?_ | wp_step)
  refine codeAny_call_builtin_code (Code.quiet_builtin _ F.quiet) (kf_check F hb hC ?_)
  refine kf_new F hb ha hn hC ?_ hrest
  show wpAny _ _ _ _ _ _
  have k : ∀ b o, h.get? b = some o → ((h.push { cls := .type "tuple", data := .seq rest.toArray }).push (excO C h.objs.size)).get? b = some o := fun b o e => Heap.get?_push_of_some _ (Heap.get?_push_of_some _ e)
  have hget : ((h.push { cls := .type "tuple", data := .seq rest.toArray }).push (excO C h.objs.size)).get? (h.objs.size + 1) = some (excO C h.objs.size) := by heap_get
  have t1 : Looks (model prog w) ((h.push { cls := .type "tuple", data := .seq rest.toArray }).push (excO C h.objs.size)) (typeOf (.ref (h.objs.size + 1))) (.ref C) := (Looks.ld hget).andThen .now
  have s1 : Looks (model prog w) ((h.push { cls := .type "tuple", data := .seq rest.toArray }).push (excO C h.objs.size)) (isSubtype (.ref C) (.ref C)) true := fun A Q E s kk hq => by
    obtain ⟨hh, g, d, t, os⟩ := s
    exact wpAny_isSubtype_exc (kk _ _ (k _ _ hC)) (by simpa using hq)
  have i1 : Looks (model prog w) ((h.push { cls := .type "tuple", data := .seq rest.toArray }).push (excO C h.objs.size)) (typeLookup (.ref C) "__init__") (some (.ref fI)) := (looks_findIn X hmro).keeps k
  have b1 : Looks (model prog w) ((h.push { cls := .type "tuple", data := .seq rest.toArray }).push (excO C h.objs.size)) (bindSpecial (.ref fI) (.ref (h.objs.size + 1))) (.ref fI, [.ref (h.objs.size + 1)]) := (bind_fn X _ hf).keeps k
  unfold isInstance callSpecial? specialOf
  repeat (first | with_reducible refine wpAny_call ?_ | lk)
  refine codeAny_mono hq fun r s' z => ?_
  rcases r with e | (v | _ | _ | _) <;> first | exact z | exact z.elim | skip
  obtain ⟨rfl, z⟩ := z
  exact wpAny_pure (wpAny_pure z)
end
end
section
open PySem PySem.W PyProof.Rows PySem.Spec PySem.Calls
theorem slot_wget : Slot "wrapper_descriptor" "__get__" "wrapper_descriptor.__get__" := .of (owner := "wrapper_descriptor") (n := "__get__") (by rw [typeLookup_type, builtinLookup_eq_fast]; kernel_rfl) (by decide +kernel) (by decide +kernel) (by decide +kernel) (by decide +kernel) (by rw [isSubtype_type]; kernel_rfl)
theorem entry_wget : entryFor table "wrapper_descriptor.__get__" = some Builtin.«wrapper_descriptor.__get__» := entryFor_of_tree (by kernel_rfl)
theorem wget_args (a b c : Value) : argsOk "wrapper_descriptor.__get__" ⟨[a, b, c], []⟩ := by unfold argsOk; kernel_rfl
theorem wd_type : typeOf (.builtin "Exception.__init__") = pure (.type "wrapper_descriptor") := by
  show builtinType _ = _
  rw [builtinType_eq_fast]; kernel_rfl
theorem wd_owner : (".".intercalate ("Exception.__init__".cutAt '.').dropLast) = "Exception" := by kernel_rfl
noncomputable abbrev mwO (x : Addr) : Obj := { cls := .type "method-wrapper", data := .fields #[.builtin "Exception.__init__", .ref x] }
section
variable {prog : Program} {w : World} {A : Around} {E : Value → Shared → Prop} {h : Heap} {g : Array GenState} {d : Drawn} {t : Nat} {os : OsState}
theorem super_ga_b {so D x C : Addr} {l₀ l : List Value} {K : Frag} {tk : Tok} {Q : Fin → Shared → Prop}
    (hso : h.get? so = some { cls := .type "super", dict := none, data := .fields #[.ref D, .ref x, .ref C], slots := #[] }) (hno : Looks (model prog w) h (opaqueClassAbove (.ref C)) none)
    (hC : Looks (model prog w) h (mroOf (.ref C)) l₀) (hl : (l₀.dropWhile (· != .ref D)).drop 1 = l) (X : K.In h)
    (hf : alongIn K "__init__" l = some (some (.builtin "Exception.__init__"))) (hxC : x ≠ C) {ox : Obj} (hx : h.get? x = some ox) (hxc : ox.cls = .ref C) (hsub : Looks (model prog w) h (isSubtype (.ref C) (.type "Exception")) true)
    (hq : Q (.done (.ret (.ref h.objs.size))) ⟨h.push (mwO x), g, d, t, os⟩) :
    wpAny (model prog w) A (Builtin.«super.__getattribute__» ⟨[.ref so, .str "__init__" tk], []⟩) Q E ⟨h, g, d, t, os⟩ := by
  have hlk := slot_wget.lookup
  have hne : (Value.ref x == Value.ref C) = false := by simp [hxC]
  have hn : (("__init__" : Str) == ("__class__" : Str)) = false := by decide
  have hTf : (⟨h, g, d, t, os⟩ : Shared).TypeIs (.builtin "Exception.__init__") "wrapper_descriptor" := wd_type
  have hdt : ({ cls := .type "super", dict := none, data := .fields #[.ref D, .ref x, .ref C], slots := #[] } : Obj).data = .fields #[.ref D, .ref x, .ref C] := rfl
  have f0 : (#[.ref D, .ref x, .ref C] : Array Value)[0]? = some (.ref D) := rfl
  have f1 : (#[.ref D, .ref x, .ref C] : Array Value)[1]? = some (.ref x) := rfl
  have f2 : (#[.ref D, .ref x, .ref C] : Array Value)[2]? = some (.ref C) := rfl
  unfold Builtin.«super.__getattribute__»
  repeat (first
    | (with_reducible refine wpAny_field hso hdt f0 ?_) | (with_reducible refine wpAny_field hso hdt f1 ?_) | (with_reducible refine wpAny_field hso hdt f2 ?_)
    | (with_reducible refine PySem.ks_wpAny_notOpaque hno ?_)
    | (with_reducible refine Looks.at hC ?_; rw [hl])
    | (refine PySem.ks_forIn_along X (fun _ _ => rfl) rfl ?_ hf)
    | (with_reducible refine wpAny_typeOf hTf ?_)
    | (with_reducible refine wpAny_call_entry slot_wget hTf entry_wget ?_ (wget_args _ _ _))
    | (with_reducible refine ⟨_, rfl, ?_⟩)
    | (with_reducible refine wpAny_loadPart_at hx ?_; simp only [hxc])
    | (simp only [wd_owner]; with_reducible refine Looks.at hsub ?_)
    | (simp only [hn, hne, Bool.or_false, Bool.false_eq_true, if_false])
    | wp_step
    | dsimp only)
  all_goals exact hq
theorem getMethod_super_b {so D x C : Addr} {l₀ l : List Value} {K : Frag} {pl : Sem Bool} {Q : Value × List Value → Shared → Prop}
    (hso : h.get? so = some { cls := .type "super", dict := none, data := .fields #[.ref D, .ref x, .ref C], slots := #[] }) (hno : Looks (model prog w) h (opaqueClassAbove (.ref C)) none)
    (hC : Looks (model prog w) h (mroOf (.ref C)) l₀) (hl : (l₀.dropWhile (· != .ref D)).drop 1 = l) (X : K.In h)
    (hf : alongIn K "__init__" l = some (some (.builtin "Exception.__init__"))) (hxC : x ≠ C) {ox : Obj} (hx : h.get? x = some ox) (hxc : ox.cls = .ref C) (hsub : Looks (model prog w) h (isSubtype (.ref C) (.type "Exception")) true)
    (hq : Q (.ref h.objs.size, []) ⟨h.push (mwO x), g, d, t + 1, os⟩) :
    wpAny (model prog w) A (getMethod (.ref so) "__init__" pl) Q E ⟨h, g, d, t, os⟩ := by
  have hlk := PySem.F.ks_slot_super_ga.lookup
  have hcan := PySem.F.ks_canon_super_ga
  have hT : ∀ t', (⟨h, g, d, t', os⟩ : Shared).TypeIs (.ref so) "super" := fun _ => ⟨_, hso, rfl⟩
  unfold getMethod
  refine wpAny_bind (wpAny_specialOf (hT _) hlk ?_)
  show wpAny _ _ (if (Manifest.canonical "super.__getattribute__" != "object.__getattribute__") = true then _ else _) _ _ _
  rw [if_pos hcan]
  unfold getAttr getAttrBy
  refine wpAny_bind (wpAny_bind (wpAny_mkText (wpAny_holding (wpAny_bind (wpAny_typeOf (hT _) (wpAny_bind (wpAny_of_eq hlk ?_)))))))
  show wpAny _ _ (getAttrByItsOwn (.ref so) (.str "__init__" t) (.type "super") (.builtin "super.__getattribute__") true false) _ _ _
  unfold getAttrByItsOwn hookBefore callGetattribute boundAndCalled
  refine wpAny_bind (wpAny_of_eq (show (if onTheHeap (.type "super") then typeLookup (.type "super") "__getattr__" else pure none) = pure none from rfl) ?_)
  refine wpAny_bind (wpAny_attempt (wpAny_holding ?_))
  show wpAny _ _ (bindSpecial (.builtin "super.__getattribute__") (.ref so) >>= _) _ _ _
  refine wpAny_bind (wpAny_of_eq (PySem.F.ks_slot_super_ga.bind _) ?_)
  refine wpAny_mono (Q := fun v s' => v = .ref h.objs.size ∧ s' = ⟨h.push (mwO x), g, d, t + 1, os⟩) (E := fun _ _ => False)
    (wpAny_call_entry PySem.F.ks_slot_super_ga (hT _) PySem.F.ks_entry_super_ga (super_ga_b hso hno hC hl X hf hxC hx hxc hsub ⟨_, rfl, rfl, rfl⟩) (PySem.F.ks_gaArgs_super _ _)) (fun v s' hv => ?_) fun _ _ z => z.elim
  obtain ⟨rfl, rfl⟩ := hv
  exact wpAny_pure (wpAny_pure hq)
end
section
variable {prog : Program} {w : World} {A : Around} {E : Value → Shared → Prop} {s : Shared} {h₀ : Heap} {L : Addr} {m : Str → Option Value} {news : List (Addr × Obj)} {K : Frag} {x C D so : Addr} {ox : Obj} {odx : Option Obj}
theorem excInit_method {pl : Sem Bool} {Q : Value × List Value → Shared → Prop} (F : Fr h₀ L s.heap m) (X₀ : K.In h₀) (N : News h₀ L s.heap news) (hso : (so, ks_superObj D x C) ∈ news) (I : PySem.W.InstAt s.heap x ox C odx) (ho : nsIn K cStatics "thirdparty.any" = some none)
    (hm : ks_superIn K C D "__init__" = some (some (.builtin "Exception.__init__"))) (hs : mroIn K C (.type "Exception") = some true)
    (h : ∀ q h', Fr h₀ L h' m → News h₀ L h' ((q, mwO x) :: news) → (∀ p ∈ news, p.1 < q) → Q (.ref q, []) { s with heap := h', toks := s.toks + 1 }) : wpAny (model prog w) A (getMethod (.ref so) "__init__" pl) Q E s := by
  have X : K.In s.heap := X₀.keeps F.keep
  obtain ⟨hh, g, d, t, os⟩ := s
  cases hc : clsIn K C with
  | none => unfold ks_superIn at hm; rw [hc] at hm; cases hm
  | some cd =>
    unfold ks_superIn at hm
    rw [hc] at hm
    refine getMethod_super_b (N _ hso).1 (looks_opaque X ho) (l₀ := cd.mro) ?_ rfl X hm (ks_ne X I hc) I.at_ I.cls (looks_mroIn X hs) ?_
    · exact fun A Q E s k q => wpAny_bind ((looks_clsIn X hc) A _ E s k (wpAny_pure q))
    · obtain ⟨F', N', l'⟩ := ks_newsPush (s := ⟨hh, g, d, t, os⟩) (o := mwO x) F N rfl (Heap.get?_push_at rfl rfl) (fun b o e => Heap.get?_push_of_some _ e)
      exact h _ _ F' N' l'
theorem keeps_mw {M : Model} {q : Addr} {h : Heap} (hq : h.get? q = some (mwO x)) : ∃ k, (k = Keeper.frame ∨ k = Keeper.machine ∨ k = Keeper.boundFrame) ∧ Looks M h (keeperOf (.ref q)) k :=
  ⟨.machine, .inr (.inl rfl), (Looks.ld (part := none) hq).andThen .now⟩
end
end
section
open PySem PySem.W PyProof.Rows PySem.Spec PySem.Calls
theorem wpAny_bound_init {M : Model} {A : Around} {E : Value → Shared → Prop} {h : Heap} {g : Array GenState} {d : Drawn} {t : Nat} {os : OsState} {nm q : Str} {C N : Addr} {bs bm : List Value} {hdct : Bool} {sn : List Str} {sub : List Value} {ab : Bool} {col : Option Bool} {dd : Option Addr} {k0 k1 k2 k3 k5 : Option Value} {newId : String}
    {e : Addr} {oe : Obj} {v : Value} {Q : Unit → Shared → Prop} (hC : h.get? C = some (excClassObj nm q C N bs bm hdct sn sub ab col dd k0 k1 k2 k3 k5 newId)) (he : h.get? e = some oe) (hcls : oe.cls = .ref C) (hq : Q () ⟨h, g, d, t, os⟩) :
    wpAny M A (checkBoundCall "Exception.__init__" ⟨[.ref e, v], []⟩) Q E ⟨h, g, d, t, os⟩ := by
  have FB := PySem.F.excBase_Exception
  have hshort := FB.noStar
  simp only [checkBoundCall, FB.initKind, FB.initRow]
  repeat (first | (with_reducible refine wpAny_loadPart_at he ?_; rw [hcls]) | with_reducible refine wpAny_loadPart_at hC ?_ | wp_step)
  exact hq
noncomputable abbrev tup1 (v : Value) : Obj := { cls := .type "tuple", data := .seq #[v] }
section
variable {prog : Program} {w : World} {A : Around} {E : Value → Shared → Prop} {s : Shared} {h₀ : Heap} {L : Addr} {m : Str → Option Value} {news : List (Addr × Obj)}
theorem excInit_call {K : Frag} {q e C t0 : Addr} {v : Value} {nw : Addr → List (Addr × Obj)} {Q : Value → Shared → Prop} (F : Fr h₀ L s.heap m) (N : News h₀ L s.heap news) (X₀ : K.In h₀) (hk : ktsIn K C "BaseException" = true) (hq : (q, mwO e) ∈ news)
    (U : ∀ t1, Upd e (excO C t0) (excO C t1) news (nw t1))
    (h : ∀ t1 h', Fr h₀ L h' m → News h₀ L h' ((t1, tup1 v) :: nw t1) → (∀ p ∈ news, p.1 < t1) → Q .none { s with heap := h' }) :
    wpAny (model prog w) A (call (.ref q) [v]) Q E s := by
  obtain ⟨hh, g, d, tk, os⟩ := s
  have hmw := (N _ hq).1
  have FB := PySem.F.excBase_Exception
  refine wpAny_call (codeAny_of_tree ?_)
  show wpAny _ A.in1 (callAny (.ref q) ⟨[v], []⟩) _ _ _
  unfold callAny
  refine wpAny_bind (wpAny_load hmw ?_)
  show wpAny _ _ (checkBoundCall "Exception.__init__" ⟨[.ref e, v], []⟩ >>= fun _ => again (.builtin "Exception.__init__" ⟨[.ref e, v], []⟩)) _ _ _
  obtain ⟨pre, post, e1, e2, n1, n2⟩ := (U hh.objs.size).split
  have he : hh.get? e = some (excO C t0) := (N (e, excO C t0) (by rw [e1]; simp)).1
  obtain ⟨nm, qn, NN, bs, bm, hdct, sn, sub, ab, col, dd, k0, k1, k2, k3, k5, newId, hC, _, _⟩ := kts_cls (X₀.keeps F.keep) hk
  refine wpAny_bind (wpAny_bound_init hC he rfl ?_)
  refine wpAny_pure (And.intro (Code.quiet_builtin _ (by decide +kernel)) ?_)
  refine codeAny_builtin FB.initEntry ?_
  have hp := (N.push F (tup1 v))
  have Fp := F.push (tup1 v)
  have he' : (hh.push (tup1 v)).get? e = some (excO C t0) := Heap.get?_push_of_some _ he
  have hlt : e < hh.objs.size := Heap.lt_size he
  unfold Builtin.«BaseException.__init__» Builtin.BaseException.bexcPut
  repeat (first | (with_reducible refine wpAny_field he' rfl rfl ?_) | (with_reducible refine wpAny_setField he' rfl (by decide) ?_) | wp_step)
  rw [e1] at hp
  obtain ⟨F2, N2⟩ := news_upd (pre := (hh.objs.size, tup1 v) :: pre) (o' := excO C hh.objs.size) (f := Obj.mapFields fun x => x.setIfInBounds 0 (Value.ref hh.objs.size)) Fp hp (fun p hp => by
    rcases List.mem_cons.mp hp with rfl | hp
    · exact Nat.ne_of_gt (Heap.lt_size he)
    · exact n1 p hp) n2 rfl rfl
  exact h hh.objs.size _ F2 (by rw [e2]; exact N2) (fun p hp => Heap.lt_size (N p hp).1)
end
end
section
open PySem PySem.W PyProof.Rows PySem.Spec PySem.Calls PySem.Builtin PySem.Builtin.ObjectAttr
noncomputable def excOnly : List Value → Bool
  | .ref _ :: r => excOnly r
  | [.type a, .type b, .type c] => a == "Exception" && b == "BaseException" && c == "object"
  | _ => false
theorem exc_refuse (self : Value) : ∀ {l : List Value}, excOnly l = true → refuseLoop self "__setattr__" l = pure ()
  | .ref c :: r, e => by rw [refuseLoop_ref]; exact exc_refuse self (by cases r <;> first | exact e | cases e)
  | [.type a, .type b, .type c], e => by
    simp only [excOnly, Bool.and_eq_true, beq_iff_eq] at e
    obtain ⟨⟨rfl, rfl⟩, rfl⟩ := e
    exact PySem.F.store_Exception.passes self
theorem exc_has : ∀ {l : List Value}, excOnly l = true → l.contains (.type "object") = true
  | .ref c :: r, e => by rw [List.contains_cons, exc_has (l := r) (by cases r <;> first | exact e | cases e), Bool.or_true]
  | [.type a, .type b, .type c], e => by
    simp only [excOnly, Bool.and_eq_true, beq_iff_eq] at e
    obtain ⟨⟨rfl, rfl⟩, rfl⟩ := e
    simp
theorem exc_any {o : Option ClassData} {f : ClassData → Bool} (h : o.any f = true) : ∃ c, o = some c ∧ f c = true := by
  cases o with
  | none => cases h
  | some c => exact ⟨c, rfl, h⟩
noncomputable def excOver (K : Frag) (C : Addr) : Bool := (clsIn K C).any fun cd => excOnly cd.mro && cd.hasDict
section
variable {prog : Program} {w : World} {A : Around} {E : Value → Shared → Prop} {s : Shared} {K : Frag} {x C L : Addr} {h₀ : Heap} {m : Str → Option Value} {news news' : List (Addr × Obj)} {ox od : Obj} {name : Str} {v : Value} {R : Result → Shared → Prop}
theorem setx_open {od : Option Obj} {tk : Tok} (X : K.In s.heap) (I : PySem.W.InstAt s.heap x ox C od) (hp : excOver K C = true) (ht : takerIn K C name = some none)
    (h : ∀ b, wpAny (model prog w) A.in1 (storeInOwnDict (.ref x) (.ref C) (.str name tk) name v b)
      (fun fin s' => match fin with | .done f => R (.ok f) s' | .again c' => c'.quiet = true ∧ codeAny (model prog w) A c' R s') (fun e s' => R (.error e) s') s) :
    codeAny (model prog w) A (.call (.builtin "object.__setattr__") ⟨[.ref x, .str name tk, v], []⟩) R s := by
  have SF := PySem.F.store_object
  obtain ⟨cd, hc, hod⟩ := exc_any hp
  have ho := (Bool.and_eq_true_iff.mp hod).1
  have ne : cd.mro.isEmpty = false := by cases q : cd.mro with | nil => rw [q] at ho; cases ho | cons _ _ => rfl
  have sub : Looks (model prog w) s.heap (isInstance (.ref x) (.type "object")) true := I.type.andThen (looks_mroIn X (by unfold mroIn; rw [hc, Option.bind_some, if_neg (by rw [ne]; decide), exc_has ho]))
  refine codeAny_call_builtin SF.slot.plain SF.entry (@check_slot (model prog w) _ _ s "object.__setattr__" "object" "__setattr__" (.ref x) [.str name tk, v] [] _ SF.kind SF.split sub (SF.args (.ref x) (.str name tk) v) ?_)
  obtain ⟨attr, ha, hr⟩ := Option.bind_eq_some_iff.mp ht
  have hm : Looks (model prog w) s.heap (mroOf (.ref C)) cd.mro := (looks_clsIn X hc).andThen .now
  have L3 : Looks (model prog w) s.heap (storeTaker? attr) none := by
    cases attr with
    | none => exact .now
    | some a =>
      obtain ⟨b, hb, e⟩ := Option.map_eq_some_iff.mp hr
      refine (looks_takesIn X hb).andThen ?_
      cases b
      · exact .now
      · cases e
  rw [osa_eq, refuse_eq]
  refine wpAny_bind (wpAny_bind (I.type.here (wpAny_bind (hm.here ?_))))
  rw [exc_refuse _ ho]
  refine wpAny_pure (wpAny_bind (I.type.here (wpAny_bind ((looks_findIn X ha).here (wpAny_bind (L3.here ?_))))))
  exact h _
theorem setx_new {Q : Unit → Shared → Prop} {vs : Array Value} {sl : Array (Option Value)} {nw : Addr → List (Addr × Obj)} (F : Fr h₀ L s.heap m) (X₀ : K.In h₀) (N : News h₀ L s.heap news)
    (hs : findIn K (.ref C) "__setattr__" = some (some (.builtin "object.__setattr__"))) (hp : excOver K C = true) (ht : takerIn K C name = some none)
    (U : ∀ dx, Upd x ⟨.ref C, none, .fields vs, sl⟩ ⟨.ref C, some dx, .fields vs, sl⟩ news (nw dx))
    (h : ∀ dx h', Fr h₀ L h' m → News h₀ L h' ((dx, dictOf [⟨PyData.keyHash w.params name, .str name (s.toks + 1), v⟩] 1) :: nw dx) → (∀ p ∈ news, p.1 < dx) → Q () { s with heap := h', toks := s.toks + 2 }) :
    wpAny (model prog w) A (setAttr (.ref x) name v) Q E s := by
  obtain ⟨hh, g, d, tk, os⟩ := s
  have hmem : (x, (⟨.ref C, none, .fields vs, sl⟩ : Obj)) ∈ news := by
    obtain ⟨pre, post, e1, -⟩ := (U 0).split
    rw [e1]; simp
  have hx : hh.get? x = some ⟨.ref C, none, .fields vs, sl⟩ := (N _ hmem).1
  have I : PySem.W.InstAt hh x ⟨.ref C, none, .fields vs, sl⟩ C none := ⟨hx, rfl, rfl, trivial⟩
  have X : K.In hh := X₀.keeps F.keep
  refine set_plain (s := ⟨hh, g, d, tk, os⟩) X I hs ?_
  show codeAny _ _ _ _ ⟨hh, g, d, tk + 1, os⟩
  refine setx_open X I hp ht fun b => ?_
  obtain ⟨cd, hc, hod⟩ := exc_any hp
  have hd := (Bool.and_eq_true_iff.mp hod).2
  refine wpAny_bind (wpAny_pure (wpAny_bind (wpAny_bind (wpAny_loadPart hx (wpAny_bind ((looks_clsIn X hc).here ?_))))))
  rw [hd]
  dsimp only
  refine wpAny_bind (wpAny_alloc' ?_)
  obtain ⟨pre, post, e1, e2, n1, n2⟩ := (U hh.objs.size).split
  have hp' := N.push F emptyDict
  have Fp := F.push emptyDict
  rw [e1] at hp'
  have hx₁ : (hh.push emptyDict).get? x = some ⟨.ref C, none, .fields vs, sl⟩ := Heap.get?_push_of_some _ hx
  obtain ⟨F2, N2⟩ := news_upd (pre := (hh.objs.size, emptyDict) :: pre) (o' := ⟨.ref C, some hh.objs.size, .fields vs, sl⟩) (f := fun o => { o with dict := some hh.objs.size }) Fp hp' (fun p hp => by
    rcases List.mem_cons.mp hp with rfl | hp
    · exact Nat.ne_of_gt (Heap.lt_size hx)
    · exact n1 p hp) n2 rfl rfl
  refine wpAny_bind (wpAny_update' hx₁ ?_)
  refine wpAny_pure ?_
  have D := (N2 (hh.objs.size, emptyDict) (by simp)).1
  obtain ⟨F3, N3⟩ := news_upd (pre := []) (o := emptyDict) (o' := dictOf [⟨PyData.keyHash w.params name, .str name (tk + 1), v⟩] 1) (f := Obj.putName name (PyData.keyHash w.params name) (.str name (tk + 1)) v) F2 N2 (fun _ h => (nomatch h)) (fun p hp => by
    have hm : p.1 < hh.objs.size := by
      have : p ∈ pre ++ (x, (⟨.ref C, some hh.objs.size, .fields vs, sl⟩ : Obj)) :: post := hp
      rcases List.mem_append.mp this with q | q
      · exact Heap.lt_size (N p (by rw [e1]; exact List.mem_append_left _ q)).1
      · rcases List.mem_cons.mp q with rfl | q
        · exact Heap.lt_size hx
        · exact Heap.lt_size (N p (by rw [e1]; exact List.mem_append_right _ (.tail _ q))).1
    exact Nat.ne_of_lt hm) (putName_dict name (PyData.keyHash w.params name) (.str name (tk + 1)) v [] 0) rfl
  have D' := (N3 (hh.objs.size, dictOf [⟨PyData.keyHash w.params name, .str name (tk + 1), v⟩] 1) (by simp)).1
  show wpAny _ _ (storeInDict hh.objs.size (.str name tk) name v) _ _ _
  unfold storeInDict newKeyGuard
  refine wpAny_bind (wpAny_pure (wpAny_bind ?_))
  unfold nsSet
  refine wpAny_bind (wpAny_bind (wpAny_askSetting (wpAny_pure (wpAny_bind (wpAny_mkText (wpAny_bind (wpAny_loadPart D ?_)))))))
  have c : (!(#[] : Array DictEntry).any (·.key.isStr name) && (#[] : Array DictEntry).any (·.refKey)) = false := by simp
  dsimp only
  rw [aRefKeyMayBeTheName_at, c]
  refine wpAny_updatePart D ?_
  refine wpAny_bind (wpAny_lookBehind D' (pastItsLine_dict (by rw [List.size_toArray, sizeLine_eq]; exact Nat.le_of_ble_eq_true rfl)) ?_)
  refine wpAny_pure ?_
  exact h hh.objs.size _ F3 (by rw [e2]; exact N3) (fun p hp => Heap.lt_size (N p hp).1)
theorem setx_old {Q : Unit → Shared → Prop} {vs : Array Value} {sl : Array (Option Value)} {dx n n' : Nat} {es es' : List DictEntry} (F : Fr h₀ L s.heap m) (X₀ : K.In h₀) (N : News h₀ L s.heap news)
    (hs : findIn K (.ref C) "__setattr__" = some (some (.builtin "object.__setattr__"))) (hp : excOver K C = true) (ht : takerIn K C name = some none)
    (hm : (x, (⟨.ref C, some dx, .fields vs, sl⟩ : Obj)) ∈ news) (_hmd : (dx, dictOf es n) ∈ news) (hl : (getL name es).isSome = true)
    (e : (putL name (PyData.keyHash w.params name) (.str name (s.toks + 1)) v es, putN name es n) = (es', n')) (U : Upd dx (dictOf es n) (dictOf es' n') news news') (hz : es'.length ≤ 1000)
    (h : ∀ h', Fr h₀ L h' m → News h₀ L h' news' → Q () { s with heap := h', toks := s.toks + 2 }) :
    wpAny (model prog w) A (setAttr (.ref x) name v) Q E s := by
  obtain ⟨hh, g, d, tk, os⟩ := s
  have hx : hh.get? x = some ⟨.ref C, some dx, .fields vs, sl⟩ := (N _ hm).1
  obtain ⟨pre, post, e1, e2, n1, n2⟩ := U.split
  have D : hh.get? dx = some (dictOf es n) := (N (dx, dictOf es n) (by rw [e1]; simp)).1
  have I : PySem.W.InstAt hh x ⟨.ref C, some dx, .fields vs, sl⟩ C (some (dictOf es n)) := ⟨hx, rfl, rfl, D⟩
  have X : K.In hh := X₀.keeps F.keep
  refine set_plain (s := ⟨hh, g, d, tk, os⟩) X I hs ?_
  show codeAny _ _ _ _ ⟨hh, g, d, tk + 1, os⟩
  refine setx_open X I hp ht fun b => ?_
  obtain ⟨cd, hc, hod⟩ := exc_any hp
  have hd := (Bool.and_eq_true_iff.mp hod).2
  refine wpAny_bind (wpAny_pure (wpAny_bind (wpAny_bind (wpAny_loadPart hx (wpAny_bind ((looks_clsIn X hc).here ?_))))))
  rw [hd]
  refine wpAny_pure (a := some dx) ?_
  rw [e1] at N
  obtain ⟨q1, q2⟩ := Prod.mk.inj e
  obtain ⟨F3, N3⟩ := news_upd (o := dictOf es n) (o' := dictOf es' n') (f := Obj.putName name (PyData.keyHash w.params name) (.str name (tk + 1)) v) F N n1 n2 (by rw [putName_dict]; exact congr (congrArg dictOf q1) q2) rfl
  have D' := (N3 (dx, dictOf es' n') (by simp)).1
  show wpAny _ _ (storeInDict dx (.str name tk) name v) _ _ _
  unfold storeInDict newKeyGuard
  refine wpAny_bind (wpAny_pure (wpAny_bind ?_))
  unfold nsSet
  refine wpAny_bind (wpAny_bind (wpAny_askSetting (wpAny_pure (wpAny_bind (wpAny_mkText (wpAny_bind (wpAny_loadPart D ?_)))))))
  dsimp only
  have c : (!es.toArray.any (·.key.isStr name) && es.toArray.any (·.refKey)) = false := by
    rw [← Array.any_toList, ← Array.any_toList]
    unfold getL at hl
    split at hl
    · rename_i en he
      rw [List.any_eq_true.mpr ⟨en, List.mem_of_find?_eq_some he, List.find?_some he⟩]; rfl
    · split at hl
      · cases hl
      · rename_i z; rw [Bool.not_eq_true] at z; rw [z, Bool.and_false]
  rw [aRefKeyMayBeTheName_at, c]
  refine wpAny_updatePart D ?_
  refine wpAny_bind (wpAny_lookBehind D' (pastItsLine_dict (by rw [List.size_toArray, sizeLine_eq]; omega)) ?_)
  refine wpAny_pure ?_
  exact h _ F3 (by rw [e2]; exact N3)
end
end
section
open PySem PySem.W PyProof.Rows PySem.Spec PySem.Calls
theorem fill0 : PySem.Challenge.rw_pq0384_02 = PySem.Challenge.rw_pq0384_02 ∧ kk.heap_1 = kk.heap_1 := by
  k_fill
  exact ⟨rfl, rfl⟩
theorem exc_pushed {h₀ h : Heap} {L : Addr} {m : Str → Option Value} {news : List (Addr × Obj)} {C : Addr} (o : Obj) (ho : o.isFreed = false) (F : Fr h₀ L h m) (N : News h₀ L h news) :
    Fr h₀ L ((h.push o).push (excO C h.objs.size)) m ∧ News h₀ L ((h.push o).push (excO C h.objs.size)) ((h.objs.size + 1, excO C h.objs.size) :: (h.objs.size, o) :: news) := by
  have N1 := N.push F o ho
  have N2 := N1.push (F.push o) (excO C h.objs.size)
  rw [Heap.size_push] at N2
  exact ⟨(F.push o).push _, N2⟩
theorem inst_exc {h₀ h : Heap} {L : Addr} {news : List (Addr × Obj)} {x C : Addr} {vs : Array Value} (N : News h₀ L h news) (hm : (x, ({ cls := .ref C, data := .fields vs } : Obj)) ∈ news) :
    PySem.W.InstAt h x { cls := .ref C, data := .fields vs } C none := ⟨(N _ hm).1, rfl, rfl, trivial⟩
theorem inst_excD {h₀ h : Heap} {L : Addr} {news : List (Addr × Obj)} {x C dx : Addr} {vs : Array Value} {o : Obj} (N : News h₀ L h news) (hm : (x, ({ cls := .ref C, dict := some dx, data := .fields vs } : Obj)) ∈ news) (hd : (dx, o) ∈ news) :
    PySem.W.InstAt h x { cls := .ref C, dict := some dx, data := .fields vs } C (some o) := ⟨(N _ hm).1, rfl, rfl, (N _ hd).1⟩
local macro_rules | `(tactic| k_inst) => `(tactic| first
  | (refine' inst_exc ?kN ?h1; (case kN => k_asm); (case h1 => k_mem))
  | (refine' inst_excD ?kN ?h1 ?h2; (case kN => k_asm); (case h1 | h2 => k_mem)))
local macro_rules | `(tactic| ks_enter) => `(tactic| (refine' ks_code_super ?k1 ?k2 ?k3 ?k4 ?k5 ?kA ?kF ?kK ?k6 ?k7 ?k8 ?k9 ?kB ?_ ?c1 ?c2 ?c3 ?c4; (case kA | kF => exact rfl); (case kK => first | assumption | exact rfl); (case k1 | k2 | k3 | k4 | k5 => k_asm); (case k6 | k7 => k_is); (case k8 => k_room); (case k9 => exact BindsTo.of_eq rfl); (case kB => exact locs rfl); (case c1 => decide); (case c2 | c3 | c4 => exact rfl); k_whole; intro g' L' h' FG' F' N' B' X' T' l1; (try k_lt l1); (try dsimp only); (try k_lift B')))
noncomputable def MwP (q x : Addr) (h : Heap) : Prop := h.get? q = some (mwO x)
theorem mwP {h₀ h : Heap} {L q x : Addr} {news : List (Addr × Obj)} (N : News h₀ L h news) (hq : (q, mwO x) ∈ news) : MwP q x h := (N _ hq).1
theorem callWith_mw {M : Model} {A : Around} {E : Value → Shared → Prop} {s : Shared} {env : Env} {pos : Pos} {first : List Value} {Q : Value → Shared → Prop} {h₀ : Heap} {L : Addr} {news : List (Addr × Obj)} {q x : Addr} {e : PySem.Expr} {rest : List PySem.Expr} (_N : News h₀ L s.heap news) (_q : (q, mwO x) ∈ news)
    (h : wpAny M A (spliced (backTo pos (starEach (e :: rest) env))) (fun vs s₁ => MwP q x s₁.heap ∧ wpAny M A (call (.ref q) (first ++ vs)) Q E s₁) E s)
    (he : starEach (e :: rest) env = (false, eval e env) :: starEach rest env := by rfl) (hplain : (backTo pos (starEach rest env)).any (·.1) = false := by rfl) :
    wpAny M A (callWith pos (.ref q) first (backTo pos (starEach (e :: rest) env)) []) Q E s := by
  rw [he] at h ⊢
  exact callWith_of (by show ((false || (backTo pos (starEach rest env)).any (·.1)) || false) = false; rw [hplain]; rfl) (fun h X => keeps_mw X) (evalArgs_plain h)
local macro_rules | `(tactic| walk_at "getMethod ref") => `(tactic| (k_here; k_dflt (refine' excInit_method ?k1 ?k2 ?k3 ?k4 ?k5 ?k6 ?k7 ?k8 ?_; (case k1 | k2 | k3 => k_asm); (case k4 => k_mem); (case k5 => k_inst); (case k6 => k_is); (case k7 => ks_is); (case k8 => k_is)); intro q' h' F' N' l1; (try k_lt l1)))
local macro_rules | `(tactic| walk_at "callWith ref") => `(tactic| (k_here; k_dflt (refine' callWith_mw ?k1 ?k2 ?_; (case k1 => k_asm); (case k2 => k_mem))))
local macro_rules | `(tactic| walk_at "And") => `(tactic| ((with_reducible show MwP _ _ _ ∧ _); refine And.intro ?kc ?_; (case kc => (refine' mwP ?k1 ?k2; (case k1 => k_asm); (case k2 => k_mem))); try dsimp only [List.nil_append, List.cons_append]))
local macro_rules | `(tactic| walk_at "call ref") => `(tactic| (k_here; k_dflt (refine' excInit_call ?k1 ?k2 ?k3 ?k4 ?k5 ?k6 ?_; (case k1 | k2 | k3 => k_asm); (case k5 => k_mem); (case k6 => (intro t1; k_upd)); (case k4 => kts_isx)); intro t1 h' F' N' l1; (try k_lt l1)))
local macro_rules | `(tactic| walk_at "setAttr ref") => `(tactic| (k_here; k_dflt (first
  | (refine' setx_new ?k1 ?k2 ?k3 ?k4 ?k5 ?k6 ?k7 ?_; (case k1 | k2 | k3 => k_asm); (case k7 => (intro dx; k_upd)); (case k4 => k_is); (case k5 => kernel_rfl); (case k6 => k_is); intro dx h' F' N' l1; (try k_lt l1))
  | (refine' setx_old ?k1 ?k2 ?k3 ?k4 ?k5 ?k6 ?k7 ?k7b ?k8 ?k9 ?k10 ?k11 ?_; (case k1 | k2 | k3 => k_asm); (case k7 | k7b => k_mem); (case k4 => k_is); (case k5 => kernel_rfl); (case k6 => k_is); (case k9 => k_put); (case k10 => k_upd); (case k8 => exact rfl); (case k11 => exact Nat.le_of_ble_eq_true rfl); intro h' F' N'))))
local macro_rules | `(tactic| k_all) => `(tactic| with_reducible assumption)
local macro_rules | `(tactic| k_room) => `(tactic| ktr_room)
noncomputable abbrev spotD (w : World) (k1 : Tok) (kv : Value) (k2 : Tok) (spot : Int) (ts : Tok) (n : Nat) : Obj := dictOf [⟨PyData.keyHash w.params (Str.ofString "what"), .str (Str.ofString "what") k1, kv⟩, ⟨PyData.keyHash w.params (Str.ofString "spot"), .str (Str.ofString "spot") k2, .int spot ts⟩] n
theorem mk_end {w : World} {h₀ h' : Heap} {L e t1 dx n : Nat} {m : Str → Option Value} {nn news : List (Addr × Obj)} {k1 k2 ts tm : Tok} {kv : Value} {spot : Int} {msg : Str} {P : Prop}
    (F : Fr h₀ L h' m) (N : News h₀ L h' nn) (h1 : (e, excD 88 t1 dx) ∈ nn) (h3 : (t1, tup1 (.str msg tm)) ∈ nn) (h2 : (dx, spotD w k1 kv k2 spot ts n) ∈ nn) (h4 : ∀ p ∈ news, p ∈ nn) (h5 : ∀ p ∈ news, p.1 < e) (h6 : e < t1) (h7 : t1 < dx)
    (hret : Fr h₀ L h' m → News h₀ L h' ((e, excD 88 t1 dx) :: (t1, tup1 (.str msg tm)) :: (dx, spotD w k1 kv k2 spot ts n) :: news) → (∀ p ∈ news, p.1 < e ∧ p.1 < t1) → e < t1 → t1 < dx → P) : P :=
  hret F (fun p hp => N p (by
    rcases List.mem_cons.mp hp with rfl | hp
    · exact h1
    rcases List.mem_cons.mp hp with rfl | hp
    · exact h3
    rcases List.mem_cons.mp hp with rfl | hp
    · exact h2
    exact h4 p hp)) (fun p hp => ⟨h5 p hp, Nat.lt_trans (h5 p hp) h6⟩) h6 h7
theorem init_walk (w : World) (p : Program) (loose : List Str) (mean : ExcName → Option Value) (mg mb : Str → Option Value) (dp un : Nat) (gd : Option (List Code)) (cn : Str) (cs : Scope) (a : Addr) (ccd : Value) (cl : List (Str × Addr)) (outer : List Env) (A₀ : Around) (base h₀ : Heap) (L : Addr) (m : Str → Option Value) (news : List (Addr × Obj)) (s : Shared) (R : Result → Shared → Prop)
    (msg : Str) (tm ts : Tok) (spot : Int) (e t0 : Addr) (ot : Obj) (B : Below A₀ base outer h₀) (F : Fr h₀ L s.heap m) (X : (kk.heap_1 w.params).In h₀) (N : News h₀ L s.heap ((e, excO 88 t0) :: (t0, ot) :: news)) (T : Top p loose mean mg mb h₀) (hk : cs.kind = .function) (hdp : dp + 6 < recursionLimit) (hun : un + 50 < cLine)
    (l0 : ∀ p ∈ ((t0, ot) :: news), p.1 < e)
    (hret : ∀ e dx n t1 k1 kv k2 h' tk', Fr h₀ L h' m → News h₀ L h' ((e, excD 88 t1 dx) :: (t1, tup1 (.str msg tm)) :: (dx, spotD w k1 kv k2 spot ts n) :: news) → (∀ p ∈ news, p.1 < e ∧ p.1 < t1) → e < t1 → t1 < dx → R (.ok (.ret (.ref e))) { s with heap := h', toks := tk' }) :
    codeAny (model P0 w) ((ktrTop dp un gd cn cs L a ccd cl outer).under (.builtin "type.__call__" ⟨.ref 88 :: [.str msg tm, .int spot ts], []⟩)) (.call (.ref 66) ⟨[.ref e, .str msg tm, .int spot ts], []⟩) (InitBack e R) s := by
  have l00 : @LT.lt Nat _ t0 e := l0 (t0, ot) (.head _)
  have lne : ∀ p ∈ news, p.1 ≠ e := fun p hp => Nat.ne_of_lt (l0 p (.tail _ hp))
  ks_enter
  k_steps
  · refine' mwP ?N ?q
    (case N => k_asm)
    (case q => k_mem)
  refine' mk_end ?kF ?kN ?h1 ?h3 ?h2 ?h4 ?h5 ?h6 ?h7 (hret _ _ _ _ _ _ _ _ _)
  (case kF => k_asm)
  (case kN => k_asm)
  (case h1 => k_mem)
  (case h3 => k_mem)
  (case h2 => k_mem)
  (case h4 => (intro p hp; repeat (first | exact hp | refine List.mem_cons_of_mem _ ?_)))
  (case h5 => exact fun p hp => l0 p (.tail _ hp))
  (case h6 => omega)
  (case h7 => omega)
theorem mk_fault (w : World) (p : Program) (loose : List Str) (mean : ExcName → Option Value) (mg mb : Str → Option Value) (dp un : Nat) (gd : Option (List Code)) (cn : Str) (cs : Scope) (a : Addr) (ccd : Value) (cl : List (Str × Addr)) (outer : List Env) (A₀ : Around) (base h₀ : Heap) (L : Addr) (m : Str → Option Value) (news : List (Addr × Obj)) (s : Shared) (R : Result → Shared → Prop)
    (msg : Str) (tm ts : Tok) (spot : Int) (B : Below A₀ base outer h₀) (F : Fr h₀ L s.heap m) (X : (kk.heap_1 w.params).In h₀) (N : News h₀ L s.heap news) (T : Top p loose mean mg mb h₀) (hk : cs.kind = .function) (hdp : dp + 6 < recursionLimit) (hun : un + 50 < cLine)
    (hret : ∀ e dx n t1 k1 kv k2 h' tk', Fr h₀ L h' m → News h₀ L h' ((e, excD 88 t1 dx) :: (t1, tup1 (.str msg tm)) :: (dx, spotD w k1 kv k2 spot ts n) :: news) → (∀ p ∈ news, p.1 < e ∧ p.1 < t1) → e < t1 → t1 < dx → R (.ok (.ret (.ref e))) { s with heap := h', toks := tk' }) :
    codeAny (model P0 w) (ktrTop dp un gd cn cs L a ccd cl outer) (.call (.ref 88) ⟨[.str msg tm, .int spot ts], []⟩) R s := by
  obtain ⟨hh, g, d, tk, os⟩ := s
  have hK : (kk.heap_1 w.params).In hh := X.keeps F.keep
  have hC := hK 88 _ (by k_is)
  refine kf_core (K := kk.heap_1 w.params) (B := "Exception") (newId := "Exception.__new__") PySem.F.excBase_Exception ?_ ?_ ?_ hK hC (by k_is) (by k_is) (by k_is) (by k_is) (by size_fits) ?_
  · exact rfl
  · exact rfl
  · exact rfl
  obtain ⟨F1, N1⟩ := exc_pushed (C := 88) { cls := .type "tuple", data := .seq [Value.str msg tm, Value.int spot ts].toArray } rfl F N
  refine init_walk w p loose mean mg mb dp un gd cn cs a ccd cl outer A₀ base h₀ L m news _ R msg tm ts spot _ _ _ B F1 X N1 T hk hdp hun ?_ hret
  intro p hp
  rcases List.mem_cons.mp hp with rfl | hp
  · exact Nat.lt_succ_self _
  · exact Nat.lt_succ_of_lt (Heap.lt_size (N p hp).1)
end
section
open PySem PySem.W PyProof.Rows PySem.Spec PySem.Calls
theorem bga_kind : builtinKind "BaseException.__getattribute__" = some .slot := by decide +kernel
theorem bga_split : splitId "BaseException.__getattribute__" = some ("BaseException", "__getattribute__") := by decide +kernel
theorem bga_ne : (Value.builtin "BaseException.__getattribute__" == Value.builtin "object.__getattribute__") = false := by decide +kernel
theorem exc_get {prog : Program} {w : World} {A : Around} {E : Value → Shared → Prop} {s : Shared} {K : Frag} {x C : Addr} {ox od : Obj} {name : Str} {v : Value} {attr : Option Value} {expr : Bool} {Q : Value → Shared → Prop} (X : K.In s.heap) (I : PySem.W.InstAt s.heap x ox C (some od))
    (hga : findIn K (.ref C) "__getattribute__" = some (some (.builtin "BaseException.__getattribute__"))) (hgh : findIn K (.ref C) "__getattr__" = some none) (hb : mroIn K C (.type "BaseException") = some true)
    (hh : hasDictIn K C = true) (ha : findIn K (.ref C) name = some attr) (hn : noGet K attr = true) (hl : lookIn name od = some (some v)) (hv : handedIn v = true)
    (h : Q v { s with toks := s.toks + 1 }) : wpAny (model prog w) A (getAttr (.ref x) name expr) Q E s := by
  have hf : findObj K C (some od) name = some (.value v) := findObj_own hh ha hn hl
  obtain ⟨hh', g, d, t, os⟩ := s
  have L0 := I.type (M := model prog w)
  have L1 := looks_findIn (M := model prog w) X hga
  have L2 := looks_findIn (M := model prog w) X hgh
  have L3 := looks_find (M := model prog w) X I hf
  have Lb : Looks (model prog w) hh' (isInstance (.ref x) (.type "BaseException")) true := L0.andThen (looks_mroIn X hb)
  unfold getAttr getAttrBy
  refine wpAny_bind (wpAny_mkText (wpAny_holding (wpAny_bind (L0.at (wpAny_bind (L1.at ?_))))))
  show wpAny _ _ (if onTheHeap (.ref C) && (Value.builtin "BaseException.__getattribute__" == Value.builtin "object.__getattribute__") then _ else _) _ _ _
  rw [bga_ne]
  show wpAny _ _ (getAttrByItsOwn (.ref x) (.str name t) (.ref C) (.builtin "BaseException.__getattribute__") true expr) _ _ _
  unfold getAttrByItsOwn hookBefore callGetattribute boundAndCalled
  refine wpAny_bind (L2.at ?_)
  have he : (expr && onTheHeap (Value.builtin "BaseException.__getattribute__")) = false := by cases expr <;> rfl
  rw [he]
  refine wpAny_bind (wpAny_attempt (wpAny_holding ?_))
  show wpAny _ _ (bindSpecial (.builtin "BaseException.__getattribute__") (.ref x) >>= _) _ _ _
  refine wpAny_bind (wpAny_of_eq (PySem.F.attrBase_Exception.ga.bind _) ?_)
  refine wpAny_mono (Q := fun r s' => r = v ∧ s' = ⟨hh', g, d, t + 1, os⟩) (E := fun _ _ => False) ?_ (fun r s' hr => ?_) fun _ _ z => z.elim
  · refine wpAny_call (codeAny_call_builtin PySem.F.attrBase_Exception.ga.plain PySem.F.entry_bexc_ga (@check_slot (model prog w) _ _ ⟨hh', g, d, t + 1, os⟩ "BaseException.__getattribute__" "BaseException" "__getattribute__" (.ref x) [.str name t] [] _ bga_kind bga_split Lb (PySem.F.args_bexc_ga _ _) ?_))
    show wpAny _ _ (Builtin.«object.__getattribute__» ⟨[.ref x, .str name t], []⟩) _ _ _
    unfold Builtin.«object.__getattribute__»
    refine wpAny_bind (wpAny_pure ?_)
    refine wpAny_bind (wpAny_pure (wpAny_bind (L0.at (wpAny_bind (L3.at ?_)))))
    exact wpAny_pure ⟨rfl, rfl⟩
  · obtain ⟨rfl, rfl⟩ := hr
    show wpAny _ _ (handedOut _) _ _ _
    rw [handedOut_of hv]
    exact wpAny_pure h
end
section
open PySem PySem.W PyProof.Rows PySem.Spec PySem.Calls
inductive Bs | int | bool | str | set | none
noncomputable def Bs.s : Bs → Str
  | .int => Str.ofString "int"
  | .bool => Str.ofString "bool"
  | .str => Str.ofString "str"
  | .set => Str.ofString "set"
  | .none => Str.ofString "none"
noncomputable def Bs.eqb : Bs → Bs → Bool
  | .int, .int => true
  | .bool, .bool => true
  | .str, .str => true
  | .set, .set => true
  | .none, .none => true
  | _, _ => false
structure Kd where
  b : Bs
  v : Bool
  d : Int
noncomputable abbrev tupO (k : Kd) (t1 t2 : Tok) (n : Nat) (d : Option Addr) (sl : Array (Option Value)) : Obj := { cls := .type "tuple", dict := d, data := .seq #[.str k.b.s t1, .bool k.v, .int k.d t2] n, slots := sl }
noncomputable def KdIn (K : Frag) (news : List (Addr × Obj)) (a : Addr) (k : Kd) : Prop := ∃ t1 t2 n d sl, (a, tupO k t1 t2 n d sl) ∈ news ∨ K.lookup a = some (tupO k t1 t2 n d sl)
theorem KdIn.mono {K : Frag} {news news' : List (Addr × Obj)} {a : Addr} {k : Kd} (x : KdIn K news a k) (h : ∀ p ∈ news, p ∈ news') : KdIn K news' a k := by
  obtain ⟨t1, t2, n, d, sl, x⟩ := x
  exact ⟨t1, t2, n, d, sl, x.imp (h _) id⟩
theorem KdIn.tup {K : Frag} {news : List (Addr × Obj)} {a : Addr} {k : Kd} {h₀ h : Heap} {L : Addr} {m : Str → Option Value} (x : KdIn K news a k) (F : Fr h₀ L h m) (X : K.In h₀) (N : News h₀ L h news) :
    ∃ t1 t2, IsTup h a #[.str k.b.s t1, .bool k.v, .int k.d t2] := by
  obtain ⟨t1, t2, n, d, sl, x | x⟩ := x
  · exact ⟨t1, t2, N.isTup x⟩
  · exact ⟨t1, t2, _, F.keep _ _ (X _ _ x), rfl, n, rfl⟩
section
variable {prog : Program} {w : World} {A : Around} {E : Value → Shared → Prop} {s : Shared} {K : Frag} {news : List (Addr × Obj)} {a : Addr} {k : Kd} {h₀ : Heap} {L : Addr} {m : Str → Option Value} {value slice : PySem.Expr} {u : Tok} {Q : Value → Shared → Prop}
theorem kd_item0 {i : Int} (x : KdIn K news a k) (F : Fr h₀ L s.heap m) (X : K.In h₀) (N : News h₀ L s.heap news) (hi : i = 0) (h : ∀ t1, Q (.str k.b.s t1) s)
    (hs : subscripted slice false (.ref a) (.int i u) = operate [.ref a, .int i u] (getItem (.ref a) (.int i u))) : wpAny (model prog w) A (subscriptTail value slice (.ref a) (.int i u)) Q E s := by
  subst hi
  obtain ⟨t1, t2, T⟩ := x.tup F X N
  exact item_tupleT (j := 0) (l := [.str k.b.s t1, .bool k.v, .int k.d t2]) T (by decide) (by decide) rfl rfl (h t1) hs
theorem kd_item1 {i : Int} (x : KdIn K news a k) (F : Fr h₀ L s.heap m) (X : K.In h₀) (N : News h₀ L s.heap news) (hi : i = 1) (h : Q (.bool k.v) s)
    (hs : subscripted slice false (.ref a) (.int i u) = operate [.ref a, .int i u] (getItem (.ref a) (.int i u))) : wpAny (model prog w) A (subscriptTail value slice (.ref a) (.int i u)) Q E s := by
  subst hi
  obtain ⟨t1, t2, T⟩ := x.tup F X N
  exact item_tupleT (j := 1) (l := [.str k.b.s t1, .bool k.v, .int k.d t2]) T (by decide) (by decide) rfl rfl h hs
theorem kd_item2 {i : Int} (x : KdIn K news a k) (F : Fr h₀ L s.heap m) (X : K.In h₀) (N : News h₀ L s.heap news) (hi : i = 2) (h : ∀ t2, Q (.int k.d t2) s)
    (hs : subscripted slice false (.ref a) (.int i u) = operate [.ref a, .int i u] (getItem (.ref a) (.int i u))) : wpAny (model prog w) A (subscriptTail value slice (.ref a) (.int i u)) Q E s := by
  subst hi
  obtain ⟨t1, t2, T⟩ := x.tup F X N
  exact item_tupleT (j := 2) (l := [.str k.b.s t1, .bool k.v, .int k.d t2]) T (by decide) (by decide) rfl rfl (h t2) hs
theorem ite_bne {a b : Str} {P R : Prop} (h1 : (a == b) = true → R) (h2 : (a == b) = false → P) : if (a != b) = true then P else R := by
  cases hc : (a == b) with
  | true => rw [if_neg (by simp [bne, hc])]; exact h1 hc
  | false => rw [if_pos (by simp [bne, hc])]; exact h2 hc
end
noncomputable def CallC (w : World) (dN uN : Nat) (f : Addr) (vs : List Value) (news : List (Addr × Obj)) (Post : Value → List (Addr × Obj) → Prop) (Bad : Prop) (sp : Int) : Prop :=
  ∀ (p : Program) (loose : List Str) (mean : ExcName → Option Value) (mg mb : Str → Option Value) (dp un : Nat) (gd : Option (List Code)) (cn : Str) (cs : Scope) (a : Addr) (ccd : Value) (cl : List (Str × Addr)) (outer : List Env) (A₀ : Around) (base h₀ : Heap) (L : Addr) (m : Str → Option Value) (s : Shared) (Q E : Value → Shared → Prop),
    Below A₀ base outer h₀ → Fr h₀ L s.heap m → (kk.heap_1 w.params).In h₀ → News h₀ L s.heap news → Top p loose mean mg mb h₀ → cs.kind = .function → dp + dN < recursionLimit → un + uN < cLine →
    (∀ r tl h' tk', Fr h₀ L h' m → News h₀ L h' (tl ++ news) → (∀ q ∈ news, ∀ p ∈ tl, q.1 < p.1) → Post r tl → Q r { s with heap := h', toks := tk' }) →
    (∀ e t ws dx k1 kv k2 ts n g h' tk', Bad → Fr h₀ L g m → RaisedD base g (envX cn cs L a ccd cl :: outer) e (.ref 88) t ws dx ((dx, spotD w k1 kv k2 sp ts n) :: news) h' → g.UpToSlots h' → E (.ref e) { s with heap := h', toks := tk' }) →
    wpAny (model P0 w) (ktrTop dp un gd cn cs L a ccd cl outer) (call (.ref f) vs) Q E s
theorem CallC.use {w : World} {dN uN : Nat} {f : Addr} {vs : List Value} {news : List (Addr × Obj)} {Post : Value → List (Addr × Obj) → Prop} {Bad : Prop} {sp : Int}
    {p : Program} {loose : List Str} {mean : ExcName → Option Value} {mg mb : Str → Option Value} {dp un : Nat} {gd : Option (List Code)} {cn : Str} {cs : Scope} {a : Addr} {ccd : Value} {cl : List (Str × Addr)} {outer : List Env} {A₀ : Around} {base h₀ : Heap} {L : Addr} {m : Str → Option Value} {s : Shared} {Q E : Value → Shared → Prop}
    (c : CallC w dN uN f vs news Post Bad sp) (B : Below A₀ base outer h₀) (F : Fr h₀ L s.heap m) (X : (kk.heap_1 w.params).In h₀) (N : News h₀ L s.heap news) (T : Top p loose mean mg mb h₀) (hk : cs.kind = .function) (hd : dp + dN < recursionLimit) (hu : un + uN < cLine)
    (ret : ∀ r tl h' tk', Fr h₀ L h' m → News h₀ L h' (tl ++ news) → (∀ q ∈ news, ∀ p ∈ tl, q.1 < p.1) → Post r tl → Q r { s with heap := h', toks := tk' })
    (bad : ∀ e t ws dx k1 kv k2 ts n g h' tk', Bad → Fr h₀ L g m → RaisedD base g (envX cn cs L a ccd cl :: outer) e (.ref 88) t ws dx ((dx, spotD w k1 kv k2 sp ts n) :: news) h' → g.UpToSlots h' → E (.ref e) { s with heap := h', toks := tk' }) :
    wpAny (model P0 w) (ktrTop dp un gd cn cs L a ccd cl outer) (call (.ref f) vs) Q E s := c p loose mean mg mb dp un gd cn cs a ccd cl outer A₀ base h₀ L m s Q E B F X N T hk hd hu ret bad
noncomputable def fitsF (k wt : Kd) : Bool := k.d == wt.d && (!k.v || wt.v) && (k.b.eqb wt.b || k.b.eqb .none || (wt.b.eqb .int && k.b.eqb .bool))
theorem kd_unpack {prog : Program} {w : World} {A : Around} {E : Value → Shared → Prop} {s : Shared} {K : Frag} {news : List (Addr × Obj)} {t : Addr} {k : Kd} {h₀ : Heap} {L : Addr} {m : Str → Option Value} {env : Env} {elts : List PySem.Expr} {kc} {pos : Pos} {Q : Unit → Shared → Prop}
    (x : KdIn K news t k) (F : Fr h₀ L s.heap m) (X : K.In h₀) (N : News h₀ L s.heap news)
    (hh : A.handled = none) (hn : (assignEach elts env).length = 3) (hstar : (assignEach elts env).findIdx? (·.1) = none)
    (h : ∀ t1 t2 h', Fr h₀ L h' m → News h₀ L h' news → wpAny (model prog w) A (assignInOrder ((assignEach elts env).map (·.2)) [.str k.b.s t1, .bool k.v, .int k.d t2]) Q E { s with heap := h' }) :
    wpAny (model prog w) A (assign (.Tuple elts kc pos) env (.ref t)) Q E s := by
  obtain ⟨t1, t2, T⟩ := x.tup F X N
  exact unpackN_ F N T hh hn hstar (h t1 t2)
theorem bs_len (b : Bs) : b.s.length ≤ 100 := by cases b <;> decide
theorem d_len {d : Int} (h : 0 ≤ d ∧ d ≤ 2) : (Str.ofString (toString d)).length ≤ 100 := by
  obtain ⟨h1, h2⟩ := h
  have : d = 0 ∨ d = 1 ∨ d = 2 := by omega
  rcases this with rfl | rfl | rfl <;> decide
theorem empty_len : (Str.empty : Str).length ≤ 100 := by decide
theorem lit_len {x : String} (h : (Str.ofString x).length ≤ 100) : (Str.ofString x).length ≤ 100 := h
theorem len_snoc {a b : Str} {m : Nat} (ha : a.length ≤ m) (hb : b.length ≤ 100) : (a ++ b).length ≤ m + 100 := KT.len_app ha hb
theorem len_fin {a : Str} {m n : Nat} (h : a.length ≤ m) (hm : m ≤ n) : a.length ≤ n := Nat.le_trans h hm
theorem s_beq (a b : Bs) : (a.s == b.s) = a.eqb b := by cases a <;> cases b <;> rfl
section
variable {k1 k2 : Kd}
theorem fitA (h : k1.d ≠ k2.d) : false = fitsF k1 k2 := by simp [fitsF, h]
theorem fit0 (h1 : k1.d = k2.d) (hv : k1.v = false ∨ k2.v = true) : fitsF k1 k2 = (k1.b.eqb k2.b || k1.b.eqb .none || (k2.b.eqb .int && k1.b.eqb .bool)) := by
  have e1 : (k1.d == k2.d) = true := beq_iff_eq.mpr h1
  have e2 : (!k1.v || k2.v) = true := by rcases hv with e | e <;> rw [e] <;> simp
  unfold fitsF
  rw [e1, e2, Bool.true_and, Bool.true_and]
theorem eqb_comm (a b : Bs) : a.eqb b = b.eqb a := by cases a <;> cases b <;> rfl
theorem fit_any : ([k2.b.s, Str.ofString "none"].any fun x => x == k1.b.s) = (k1.b.eqb k2.b || k1.b.eqb .none) := by
  show (k2.b.s == k1.b.s || (Bs.none.s == k1.b.s || false)) = _
  rw [s_beq, s_beq, Bool.or_false, eqb_comm k1.b, eqb_comm k1.b]
theorem fitB (h1 : k1.d = k2.d) (hv : k1.v = false ∨ k2.v = true) (ha : ([k2.b.s, Str.ofString "none"].any fun x => x == k1.b.s) = true) : ([k2.b.s, Str.ofString "none"].any fun x => x == k1.b.s) = fitsF k1 k2 := by
  rw [ha, fit0 h1 hv, ← fit_any, ha, Bool.true_or]
theorem fitC (h1 : k1.d = k2.d) (hv : k1.v = false ∨ k2.v = true) (ha : ([k2.b.s, Str.ofString "none"].any fun x => x == k1.b.s) = false) (hi : (k2.b.s == Str.ofString "int") = true) : (k1.b.s == Str.ofString "bool") = fitsF k1 k2 := by
  have e1 : (k2.b.s == Bs.int.s) = true := hi
  rw [fit0 h1 hv, ← fit_any, ha, Bool.false_or, ← s_beq k2.b, e1, Bool.true_and, ← s_beq]
  rfl
theorem fitD (h1 : k1.d = k2.d) (hv : k1.v = false ∨ k2.v = true) (ha : ([k2.b.s, Str.ofString "none"].any fun x => x == k1.b.s) = false) (hi : (k2.b.s == Str.ofString "int") = false) : (k2.b.s == Str.ofString "int") = fitsF k1 k2 := by
  have e1 : (k2.b.s == Bs.int.s) = false := hi
  rw [fit0 h1 hv, ← fit_any, ha, Bool.false_or, ← s_beq k2.b, e1, Bool.false_and, hi]
theorem fitE (h1 : k1.v = true) (h2 : k2.v = false) : false = fitsF k1 k2 := by simp [fitsF, h1, h2]
end
theorem all_keep {l : List (Addr × Obj)} {d : Addr} (h : ∀ p ∈ l, p.1 < d) : ∀ p ∈ l, p.1 < d := h
theorem lt_of_all {nn news : List (Addr × Obj)} {D : Addr} (h : ∀ p ∈ nn, p.1 < D) (hs : ∀ p ∈ news, p ∈ nn) : ∀ q ∈ news, q.1 < D := fun q hq => h q (hs q hq)
theorem mem_up {α : Type} {a : α} {l : List α} (h : a ∈ l) : List.Mem a l := h
theorem room0 {d a R : Nat} (h : d + a < R) : d < R := Nat.lt_of_le_of_lt (Nat.le_add_right _ _) h
theorem room1 {d a b R : Nat} (h : d + a < R) (hb : b ≤ a) : d + b < R := Nat.lt_of_le_of_lt (Nat.add_le_add_left hb _) h
theorem room2 {d a b c R : Nat} (h : d + a < R) (hb : b + c ≤ a) : d + b + c < R := by rw [Nat.add_assoc]; exact room1 h hb
theorem room3 {d a b c e R : Nat} (h : d + a < R) (hb : b + c + e ≤ a) : d + b + c + e < R := by rw [Nat.add_assoc d b c]; exact room2 h hb
theorem news_refl {l : List (Addr × Obj)} : ∀ p ∈ l, p ∈ l := fun _ h => h
noncomputable def RaiseOk (E : Value → Shared → Prop) (v : Value) (s₁ : Shared) : Prop := ∃ e t dx nm q N bs bm hdct sn sub ab col dd k0 k1 k2 k3 k5 newId, v = .ref e ∧ s₁.heap.get? 88 = some (excClassObj nm q 88 N bs bm hdct sn sub ab col dd k0 k1 k2 k3 k5 newId) ∧ bm.contains (.type "BaseException") = true ∧
      s₁.heap.get? e = some (excD 88 t dx) ∧ E (.ref e) s₁
theorem raiseD {M : Model} {A : Around} {E : Value → Shared → Prop} {s : Shared} {env : Env} {x : PySem.Expr} {pos : Pos} {Q : Flow → Shared → Prop} (hh : A.handled = none)
    (h : wpAny M A (eval x env) (RaiseOk E) E s) :
    wpAny M A (exec (.Raise (some x) none pos) env) Q E s := by
  rw [arm_exec_Raise]
  refine wpAny_bind (wpAny_standAt ?_)
  simp only [evalOpt, Option.map]
  unfold raiseStmt
  refine wpAny_bind (wpAny_mono (wpAny_bind (wpAny_mono h (fun v s₁ h₁ => wpAny_bind (wpAny_standAt (wpAny_pure h₁))) fun _ _ x => x)) (fun v s₁ h₁ => ?_) fun _ _ x => x)
  obtain ⟨e, t, dx, nm, q, N, bs, bm, hdct, sn, sub, ab, col, dd, k0, k1, k2, k3, k5, newId, rfl, hC, hbase, he, hE⟩ := h₁
  have hcB : (Value.ref 88 :: bm).contains (.type "BaseException") = true := by rw [List.contains_cons, hbase, Bool.or_true]
  obtain ⟨hp, g, d, tk, os⟩ := s₁
  repeat (first | with_reducible refine wpAny_loadPart_at he ?_ | with_reducible refine wpAny_loadPart_at hC ?_ | (with_reducible refine wpAny_isSubtype_exc hC ?_; rw [hcB]) | wp_step)
  exact wpAny_raiseNew_none hh hE
theorem raise_done {K : Frag} {E : Value → Shared → Prop} {s : Shared} {h₀ : Heap} {L e t dx : Addr} {m : Str → Option Value} {rest : List (Addr × Obj)} (F : Fr h₀ L s.heap m) (X : K.In h₀) (N : News h₀ L s.heap ((e, excD 88 t dx) :: rest)) (q : ktsIn K 88 "BaseException" = true) (hE : E (.ref e) s) :
    RaiseOk E (.ref e) s := by
  obtain ⟨nm, qn, NN, bs, bm, hdct, sn, sub, ab, col, dd, k0, k1, k2, k3, k5, newId, hC, hb, _⟩ := kts_cls (X.keeps F.keep) q
  exact ⟨e, t, dx, nm, qn, NN, bs, bm, hdct, sn, sub, ab, col, dd, k0, k1, k2, k3, k5, newId, rfl, hC, hb, (N _ (.head _)).1, hE⟩
theorem ne_made {news : List (Addr × Obj)} {e t dx : Nat} {o : Obj} (hn : ∀ p ∈ news, p.1 < e ∧ p.1 < t) (h1 : e < t) (h2 : t < dx) : ∀ q ∈ ((dx, o) :: news : List (Addr × Obj)), q.1 ≠ e ∧ q.1 ≠ t := by
  intro q hq
  rcases List.mem_cons.mp hq with rfl | hq
  · exact ⟨Nat.ne_of_gt (Nat.lt_trans h1 h2), Nat.ne_of_gt h2⟩
  · exact ⟨Nat.ne_of_lt (hn q hq).1, Nat.ne_of_lt (hn q hq).2⟩
end
open PySem PySem.W PyProof.Rows PySem.Spec PySem.Calls
theorem fill_all : PySem.Challenge.rw_pq0384_02 = PySem.Challenge.rw_pq0384_02 ∧ kk.heap_1 = kk.heap_1 := by
  k_fill
  exact ⟨rfl, rfl⟩
local macro_rules | `(tactic| k_lt $h:ident) => `(tactic| (have hall := all_keep $h; (replace $h := allLt_of $h); simp only [AllLt, and_true] at $h:ident))
local macro_rules | `(tactic| k_mem) => `(tactic| (refine mem_up ?_; with_reducible assumption))
local macro_rules | `(tactic| ktr_room) => `(tactic| (first
  | exact room1 (d := _) (R := recursionLimit) (by assumption) (Nat.le_of_ble_eq_true rfl)
  | exact room2 (R := recursionLimit) (by assumption) (Nat.le_of_ble_eq_true rfl)
  | exact room3 (R := recursionLimit) (by assumption) (Nat.le_of_ble_eq_true rfl)
  | exact room0 (R := recursionLimit) (by assumption)))
local macro_rules | `(tactic| ktr_units) => `(tactic| (first
  | exact room1 (R := cLine) (by assumption) (Nat.le_of_ble_eq_true rfl)
  | exact room2 (R := cLine) (by assumption) (Nat.le_of_ble_eq_true rfl)
  | exact room3 (R := cLine) (by assumption) (Nat.le_of_ble_eq_true rfl)
  | exact room0 (R := cLine) (by assumption)))
local macro_rules | `(tactic| walk_at "subscriptTail") => `(tactic| (k_here; (with_reducible show wpAny _ _ (subscriptTail _ _ (Value.ref _) (Value.int _ _)) _ _ _); k_dflt
  (first
  | (refine' kd_item0 (KdIn.mono ?kx ?km) ?kF ?kX ?kN ?k1 ?_ ?k6; (case kx => with_reducible assumption); (case kN | kF | kX => k_asm); (case km => ktd_sub); (case k1 => exact rfl); (case k6 => with_unfolding_all rfl); k_whole; intro tk1)
  | (refine' kd_item1 (KdIn.mono ?kx ?km) ?kF ?kX ?kN ?k1 ?_ ?k6; (case kx => with_reducible assumption); (case kN | kF | kX => k_asm); (case km => ktd_sub); (case k1 => exact rfl); (case k6 => with_unfolding_all rfl); k_whole)
  | (refine' kd_item2 (KdIn.mono ?kx ?km) ?kF ?kX ?kN ?k1 ?_ ?k6; (case kx => with_reducible assumption); (case kN | kF | kX => k_asm); (case km => ktd_sub); (case k1 => exact rfl); (case k6 => with_unfolding_all rfl); k_whole; intro tk2))))
local macro_rules | `(tactic| walk_at "assign Tuple") => `(tactic| (k_here; (with_reducible show wpAny _ _ (assign (Expr.Tuple _ _ _) _ (Value.ref _)) _ _ _); k_dflt (refine' kd_unpack (KdIn.mono ?kx ?km) ?kF ?kX ?kN ?k1 ?k2 ?k3 ?_; (case kx => with_reducible assumption); (case kN | kF | kX => k_asm); (case km => ktd_sub); (case k1 | k2 | k3 => exact rfl)); intro t1 t2 h' F' N'))
local macro_rules | `(tactic| ktr_rel) => `(tactic| first | with_reducible assumption | with_reducible exact empty_len | with_reducible exact bs_len _ | with_reducible exact d_len (by assumption) | with_reducible exact lit_len (Nat.le_of_ble_eq_true (by decide)))
local macro_rules | `(tactic| kt_len) => `(tactic| first | ((with_reducible refine' KT.len_app ?ka ?kb); (case ka | kb => kt_len)) | ktr_rel)
local macro_rules | `(tactic| walk_at "And") => `(tactic| ((with_reducible show PySem.Str.length _ ≤ sizeLine ∧ _); refine And.intro ?ka ?_; (case ka => (refine' len_fin ?kc ?kd; (case kc => kt_len); (case kd => decide)))))
local macro_rules | `(tactic| walk_at "joinParts") => `(tactic| (k_here; (first | (with_reducible show wpAny _ _ (joinParts _ []) _ _ _) | (with_reducible show wpAny _ _ (joinParts _ (evalEach [] _)) _ _ _)); k_dflt (refine' joinParts_nil ?_ ?ka; (case ka => (refine' len_fin ?kc ?kd; (case kc => kt_len); (case kd => decide))))))
local macro_rules | `(tactic| walk_at "binaryOp Add str str") => `(tactic| (k_here; (with_reducible show wpAny _ _ (binaryOp Operator.Add (Value.str _ _) (Value.str (Bs.s _) _)) _ _ _); (refine' KXadd.add (K := 1000) (L := 1000) ?ka ?kb ?kc ?_; (case ka | kb => (refine' len_fin ?kc ?kd; (case kc => kt_len); (case kd => decide))); (case kc => decide)); intro _ _ _))
local macro_rules | `(tactic| walk_at "formatField str") => `(tactic| (k_here; (with_reducible show wpAny _ _ (formatField (Value.str _ _) _) _ _ _); (refine' formatField_str ?_ ?ka; (case ka => (refine' len_fin ?kc ?kd; (case kc => kt_len); (case kd => decide)))); intro _ _))
section
theorem fits_end {news nn : List (Addr × Obj)} {h₀ h' : Heap} {L : Addr} {m : Str → Option Value} {k1 k2 : Kd} {b : Bool} {Q : Value → Shared → Prop} {s : Shared} {tk : Nat}
    (hret : ∀ r tl h' tk', Fr h₀ L h' m → News h₀ L h' (tl ++ news) → (∀ q ∈ news, ∀ p ∈ tl, q.1 < p.1) → (r = .bool (fitsF k1 k2) ∧ tl = []) → Q r { s with heap := h', toks := tk' })
    (F : Fr h₀ L h' m) (N : News h₀ L h' nn) (hs : ∀ p ∈ news, p ∈ nn) (e : b = fitsF k1 k2) : Q (.bool b) { s with heap := h', toks := tk } :=
  hret _ [] _ _ F (cb_drop N hs) ktn_ord0 ⟨congrArg Value.bool e, rfl⟩
theorem fits_ct (w : World) (news : List (Addr × Obj)) (a1 a2 : Addr) (k1 k2 : Kd) (h1 : KdIn (kk.heap_1 w.params) news a1 k1) (h2 : KdIn (kk.heap_1 w.params) news a2 k2) :
    CallC w 5 50 198 [.ref a1, .ref a2] news (fun r tl => r = .bool (fitsF k1 k2) ∧ tl = []) False 0 := by
  intro p loose mean mg mb dp un gd cn cs a ccd cl outer A₀ base h₀ L m s Q E B F X N T hk hdp hun hret _
  refine wpAny_call ?_
  k_dflt ktr_enter
  k_steps
  all_goals (refine' fits_end hret ?kF ?kN ?kS ?kE; (case kF => k_asm); (case kN => k_asm); (case kS => ktd_sub); (case kE => first | exact fitA (by assumption) | exact fitB (by assumption) (by first | exact Or.inl (by assumption) | exact Or.inr (by assumption)) (by assumption) | exact fitC (by assumption) (by first | exact Or.inl (by assumption) | exact Or.inr (by assumption)) (by assumption) (by assumption) | exact fitD (by assumption) (by first | exact Or.inl (by assumption) | exact Or.inr (by assumption)) (by assumption) (by assumption) | exact fitE (by assumption) (by assumption)))
theorem fits_use {w : World} {news : List (Addr × Obj)} {a1 a2 : Addr} {k1 k2 : Kd}
    {p : Program} {loose : List Str} {mean : ExcName → Option Value} {mg mb : Str → Option Value} {dp un : Nat} {gd : Option (List Code)} {cn : Str} {cs : Scope} {a : Addr} {ccd : Value} {cl : List (Str × Addr)} {outer : List Env} {A₀ : Around} {base h₀ : Heap} {L : Addr} {m : Str → Option Value} {s : Shared} {Q E : Value → Shared → Prop}
    (h1 : KdIn (kk.heap_1 w.params) news a1 k1) (h2 : KdIn (kk.heap_1 w.params) news a2 k2) (B : Below A₀ base outer h₀) (F : Fr h₀ L s.heap m) (X : (kk.heap_1 w.params).In h₀) (N : News h₀ L s.heap news) (T : Top p loose mean mg mb h₀) (hk : cs.kind = .function) (hd : dp + 5 < recursionLimit) (hu : un + 50 < cLine)
    (ret : ∀ h' tk', Fr h₀ L h' m → News h₀ L h' news → Q (.bool (fitsF k1 k2)) { s with heap := h', toks := tk' }) :
    wpAny (model P0 w) (ktrTop dp un gd cn cs L a ccd cl outer) (call (.ref 198) [.ref a1, .ref a2]) Q E s :=
  CallC.use (fits_ct w news a1 a2 k1 k2 h1 h2) B F X N T hk hd hu (fun r tl h' tk' F' N' _ e => by obtain ⟨rfl, rfl⟩ := e; exact ret h' tk' F' N') (fun _ _ _ _ _ _ _ _ _ _ _ _ e => e.elim)
end
section
theorem text_end {news nn : List (Addr × Obj)} {h₀ h' : Heap} {L : Addr} {m : Str → Option Value} {x : Str} {t : Tok} {Q : Value → Shared → Prop} {s : Shared} {tk : Nat}
    (hret : ∀ r tl h' tk', Fr h₀ L h' m → News h₀ L h' (tl ++ news) → (∀ q ∈ news, ∀ p ∈ tl, q.1 < p.1) → ((∃ x t, r = .str x t ∧ x.length ≤ 1000) ∧ tl = []) → Q r { s with heap := h', toks := tk' })
    (F : Fr h₀ L h' m) (N : News h₀ L h' nn) (hs : ∀ p ∈ news, p ∈ nn) (e : x.length ≤ 1000) : Q (.str x t) { s with heap := h', toks := tk } :=
  hret _ [] _ _ F (cb_drop N hs) ktn_ord0 ⟨⟨x, t, rfl, e⟩, rfl⟩
theorem text_ct (w : World) (news : List (Addr × Obj)) (a1 : Addr) (k1 : Kd) (h1 : KdIn (kk.heap_1 w.params) news a1 k1) (hd1 : 0 ≤ k1.d ∧ k1.d ≤ 2) :
    CallC w 5 50 191 [.ref a1] news (fun r tl => (∃ x t, r = .str x t ∧ x.length ≤ 1000) ∧ tl = []) False 0 := by
  intro p loose mean mg mb dp un gd cn cs a ccd cl outer A₀ base h₀ L m s Q E B F X N T hk hdp hun hret _
  refine wpAny_call ?_
  k_dflt ktr_enter
  k_steps
  all_goals (refine' text_end hret ?kF ?kN ?kS ?kE; (case kF => k_asm); (case kN => k_asm); (case kS => ktd_sub); (case kE => (refine' len_fin ?kc ?kd; (case kc => kt_len); (case kd => decide))))
theorem text_use {w : World} {news : List (Addr × Obj)} {a1 : Addr} {k1 : Kd}
    {p : Program} {loose : List Str} {mean : ExcName → Option Value} {mg mb : Str → Option Value} {dp un : Nat} {gd : Option (List Code)} {cn : Str} {cs : Scope} {a : Addr} {ccd : Value} {cl : List (Str × Addr)} {outer : List Env} {A₀ : Around} {base h₀ : Heap} {L : Addr} {m : Str → Option Value} {s : Shared} {Q E : Value → Shared → Prop}
    (h1 : KdIn (kk.heap_1 w.params) news a1 k1) (hd1 : 0 ≤ k1.d ∧ k1.d ≤ 2) (B : Below A₀ base outer h₀) (F : Fr h₀ L s.heap m) (X : (kk.heap_1 w.params).In h₀) (N : News h₀ L s.heap news) (T : Top p loose mean mg mb h₀) (hk : cs.kind = .function) (hd : dp + 5 < recursionLimit) (hu : un + 50 < cLine)
    (ret : ∀ x t h' tk', x.length ≤ 1000 → Fr h₀ L h' m → News h₀ L h' news → Q (.str x t) { s with heap := h', toks := tk' }) :
    wpAny (model P0 w) (ktrTop dp un gd cn cs L a ccd cl outer) (call (.ref 191) [.ref a1]) Q E s :=
  CallC.use (text_ct w news a1 k1 h1 hd1) B F X N T hk hd hu (fun r tl h' tk' F' N' _ e => by obtain ⟨⟨x, t, rfl, hx⟩, rfl⟩ := e; exact ret x t h' tk' hx F' N') (fun _ _ _ _ _ _ _ _ _ _ _ _ e => e.elim)
end
local macro_rules | `(tactic| walk_at "exec Raise some none") => `(tactic| (k_here; (with_reducible show wpAny _ _ (exec (Stmt.Raise (some (Expr.Call (Expr.Name _ _) (_ :: _) [] _)) none _) _) _ _ _); k_dflt (refine' raiseD ?h ?_; (case h => exact rfl))))
local macro_rules | `(tactic| walk_at "call ref") => `(tactic| (k_here; (with_reducible show wpAny _ _ (call (Value.ref 88) _) _ _ _); k_dflt (refine' wpAny_call (mk_fault _ _ _ _ _ _ _ _ _ _ _ _ _ _ _ _ _ _ _ _ _ _ _ _ _ _ _ ?k1 ?k2 ?k3 ?k4 ?k5 ?k6 ?k7 ?k8 ?_); (case k1 | k2 | k3 | k4 | k5 => k_asm); (case k6 => first | exact rfl | assumption); (case k7 => ktr_room); (case k8 => ktr_units)); intro e' dx' n' t' k1' kv' k2' h' tk' F' N' ln' l1' l2'; (try dsimp only)))
local macro_rules | `(tactic| walk_at "RaiseOk") => `(tactic| (k_here; k_dflt (refine' raise_done ?k1 ?k2 ?k3 ?k4 ?_; (case k1 | k2 | k3 => k_asm); (case k4 => kts_isx))))
local macro_rules | `(tactic| walk_at "leaving ref") => `(tactic| (k_here; k_dflt (first
  | (refine' leave_onX ?k1 ?k2 ?k3 ?k4 ?_ ?k5; (case k3 => assumption); (case k1 | k2 => k_asm); (case k4 => assumption); (case k5 => exact rfl); intro h' R' U')
  | (refine' leave_raiseD ?k1 ?k2 ?k3 ?k4 ?_ ?k5; (case k1 | k2 | k3 => k_asm); (case k4 => exact ne_made (by assumption) (by assumption) (by assumption)); (case k5 => exact rfl); intro h' R' U')); (try dsimp only)))
local macro_rules | `(tactic| walk_at "call ref") => `(tactic| (k_here; (with_reducible show wpAny _ _ (call (Value.ref 198) _) _ _ _); k_dflt (refine' fits_use (KdIn.mono ?h1 ?m1) (KdIn.mono ?h2 ?m2) ?k1 ?k2 ?k3 ?k4 ?k5 ?k6 ?k7 ?k8 ?_; (case h1 | h2 => with_reducible assumption); (case k1 | k2 | k3 | k4 | k5 => k_asm); (case k6 => first | exact rfl | assumption); (case k7 => ktr_room); (case k8 => ktr_units); (case m1 | m2 => ktd_sub)); intro h' tk' F' N'))
local macro_rules | `(tactic| walk_at "call ref") => `(tactic| (k_here; (with_reducible show wpAny _ _ (call (Value.ref 191) _) _ _ _); k_dflt (refine' text_use (KdIn.mono ?h1 ?m1) ?d1 ?k1 ?k2 ?k3 ?k4 ?k5 ?k6 ?k7 ?k8 ?_; (case h1 | d1 => with_reducible assumption); (case k1 | k2 | k3 | k4 | k5 => k_asm); (case k6 => first | exact rfl | assumption); (case k7 => ktr_room); (case k8 => ktr_units); (case m1 => ktd_sub)); intro x' t' h' tk' hx' F' N'))
local macro_rules | `(tactic| walk_at "ite") => `(tactic| ((with_reducible refine' ite_bne ?_ ?_) <;> intro hb'))
section
theorem want_ct (w : World) (news : List (Addr × Obj)) (a1 a2 : Addr) (k1 k2 : Kd) (sp : Int) (ts tw : Tok) (what : Str) (h1 : KdIn (kk.heap_1 w.params) news a1 k1) (h2 : KdIn (kk.heap_1 w.params) news a2 k2) (hd1 : 0 ≤ k1.d ∧ k1.d ≤ 2) (hd2 : 0 ≤ k2.d ∧ k2.d ≤ 2) (hw : what.length ≤ 1000) :
    CallC w 20 200 205 [.ref a1, .ref a2, .int sp ts, .str what tw] news (fun r tl => fitsF k1 k2 = true ∧ r = .none ∧ tl = []) (fitsF k1 k2 = false) sp := by
  intro p loose mean mg mb dp un gd cn cs a ccd cl outer A₀ base h₀ L m s Q E B F X N T hk hdp hun hret hbad
  refine wpAny_call ?_
  k_dflt ktr_enter
  k_steps
  · (refine' hret _ [] _ _ ?kF (cb_drop ?kN ?kS) ktn_ord0 ⟨?kE, rfl, rfl⟩; (case kF => k_asm); (case kN => k_asm); (case kS => ktd_sub); (case kE => assumption))
  · (refine' hbad _ _ _ _ _ _ _ _ _ _ _ _ ?kE ?k1 ?k2 ?k3; (case kE => assumption); (case k2 => with_reducible assumption); (case k1 => k_asm); (case k3 => assumption))
end
section
theorem or_kd {w : World} {A : Around} {E : Value → Shared → Prop} {s : Shared} {news : List (Addr × Obj)} {h₀ : Heap} {L : Addr} {m : Str → Option Value} {Q : Value → Shared → Prop} {cn : Str} {cs : Scope} {a : Addr} {ccd : Value} {x y : Str} {n2 n5 : Nat} {p1 p2 p3 p4 p5 p6 p7 : Pos} {a1 a2 : Addr} {k1 k2 : Kd}
    (F : Fr h₀ L s.heap m) (X : (kk.heap_1 w.params).In h₀) (N : News h₀ L s.heap news) (hx : m x = some (.ref a1)) (hy : m y = some (.ref a2)) (hk : cs.kind = .function) (kx : (envOf cn cs L a ccd).kindOf x = some .local) (ky : (envOf cn cs L a ccd).kindOf y = some .local) (dx : (x == ("__debug__" : Str)) = false) (dy : (y == ("__debug__" : Str)) = false)
    (h1 : KdIn (kk.heap_1 w.params) news a1 k1) (h2 : KdIn (kk.heap_1 w.params) news a2 k2) (h : ∀ tk, Q (.bool (k1.v || k2.v)) { s with toks := tk }) :
    wpAny (model P0 w) A (eval (.BoolOp .Or [.Subscript (.Name x p1) (.Constant (.int 1) n2 p2) p3, .Subscript (.Name y p4) (.Constant (.int 1) n5 p5) p6] p7) (envOf cn cs L a ccd)) Q E s := by
  refine BoolOp_or ?_
  refine Subscript_ ?_
  refine ld F hx ?_ hk kx dx
  k_steps
  · rename_i hv
    have hq := h (s.toks + 1)
    rw [hv, Bool.true_or] at hq
    rw [hv]
    exact hq
  · rename_i hv
    refine ld F hy ?_ hk ky dy
    k_steps
    have hq := h (s.toks + 1 + 1)
    rw [hv, Bool.false_or] at hq
    exact hq
end
section
open PySem PySem.W PyProof.Rows PySem.Spec PySem.Calls
section
variable {prog : Program} {w : World} {A : Around} {E : Value → Shared → Prop} {s : Shared} {h₀ : Heap} {L : Addr} {m : Str → Option Value} {news : List (Addr × Obj)} {vs : List Value} {T : Value}
theorem collect_tup {l : Addr} {Q : List Value → Shared → Prop} (hl : IsTup s.heap l vs.toArray)
    (h : Q vs { s with heap := (s.heap.push (seqObj "list" #[] 0)).update s.heap.objs.size (Obj.mapSeq (· ++ vs.toArray)) }) (hsz : vs.length ≤ sizeLine) :
    wpAny (model prog w) A (collect (.ref l)) Q E s := by
  obtain ⟨o, ho, hc, n, hd⟩ := id hl
  unfold collect
  refine wpAny_bind (wpAny_runValue (codeAny_builtin entry_proto_collect' ?_))
  show wpAny _ _ (do again (.builtin "list.__iadd__" ⟨[← newList [], .ref l], []⟩)) _ _ s
  refine wpAny_bind (wpAny_newList (wpAny_pure ⟨Code.quiet_builtin _ (by decide +kernel), codeAny_builtin entry_list_iadd' ?_⟩))
  show wpAny _ _ (Builtin.List.listExtendWith (.ref s.heap.objs.size) (.ref l) (.ref s.heap.objs.size)) _ _ { s with heap := s.heap.push (seqObj "list" #[] 0) }
  unfold Builtin.List.listExtendWith
  have ho' : (s.heap.push (seqObj "list" #[] 0)).get? l = some o := Heap.get?_push_of_some _ ho
  refine wpAny_bind (wpAny_typeOf (T := "tuple") ⟨o, ho', hc⟩ ?_)
  rw [if_pos (by simp)]
  refine wpAny_bind (listItems_at ho' hd ?_)
  refine wpAny_bind (listItems_at (xs := #[]) (n := 0) (Heap.get?_push_size _ rfl) rfl ?_)
  rw [if_neg (by simp)]
  refine wpAny_bind (listUpdate_at (xs := #[]) (n := 0) (Heap.get?_push_size _ rfl) rfl ?_ (Nat.zero_le _) (by show (#[] ++ vs.toArray).size ≤ sizeLine + 1; simp only [Array.size_append, List.size_toArray, List.length_nil]; omega))
  refine wpAny_pure ?_
  show wpAny (model prog w) A (do
      let o ← load s.heap.objs.size
      match o.data with
      | .seq xs _ => pure xs.toList
      | _ => unsupported "internal:collect") Q E { s with heap := (s.heap.push (seqObj "list" #[] 0)).update s.heap.objs.size (Obj.mapSeq (· ++ vs.toArray)) }
  refine wpAny_bind (wpAny_load (get?_update_seq (Heap.get?_push_size _ rfl) _) ?_)
  show wpAny _ _ (pure ((#[] : Array Value) ++ vs.toArray).toList) Q E _
  rw [show ((#[] : Array Value) ++ vs.toArray).toList = vs by simp]
  exact wpAny_pure h
theorem sorted_tup {l : Addr} {Q : Value → Shared → Prop} (F : Fr h₀ L s.heap m) (N : News h₀ L s.heap news) (hl : IsTup s.heap l vs.toArray) (h2 : 2 ≤ vs.length) (h64 : vs.length < 64)
    (hT : ∀ h, Fr h₀ L h m → News h₀ L h news → ∀ v ∈ vs, Looks (model prog w) h (typeOf v) T) (hT1 : (T != Value.type "tuple" && (T != Value.type "int" && T == T)) = true)
    (h : ∀ D e1 h', Fr h₀ L h' m → News h₀ L h' ((D, seqObj "list" #[] e1) :: news) → (∀ q ∈ news, q.1 < D) →
      (kas_sort vs.length).kasWp (kas_ask prog w A.in1.in1 oneType' vs) (fun p s' => KasFin h₀ L m D e1 (p.toList.map fun i => vs.getD i Value.none) (fun s'' => Q (.ref D) s'') s') { s with heap := h' }) :
    wpAny (model prog w) A (call (.builtin "sorted") [.ref l]) Q E s := by
  simp only [Bool.and_eq_true] at hT1
  refine Calls.call_function_entry kind_sorted plain_sorted entry_sorted (args_sorted1 _) ?_
  unfold Builtin.«sorted»
  refine wpAny_bind (m := checkCount "sorted" 1 1 _) (wpAny_pure ?_)
  refine wpAny_bind (collect_tup hl ?_ (by rw [sizeLine_eq]; omega))
  refine wpAny_bind (wpAny_newList ?_ (by rw [sizeLine_eq]; omega))
  have hsz : ((s.heap.push (seqObj "list" #[] 0)).update s.heap.objs.size (Obj.mapSeq (· ++ vs.toArray))).objs.size = s.heap.objs.size + 1 := by
    rw [Heap.size_update, size_push']
  have hoL : (((s.heap.push (seqObj "list" #[] 0)).update s.heap.objs.size (Obj.mapSeq (· ++ vs.toArray))).push (seqObj "list" vs.toArray 0)).get? (s.heap.objs.size + 1) = some (seqObj "list" vs.toArray 0) := by
    rw [← hsz]; exact Heap.get?_push_size _ rfl
  have keep : ∀ b o, s.heap.get? b = some o → (((s.heap.push (seqObj "list" #[] 0)).update s.heap.objs.size (Obj.mapSeq (· ++ vs.toArray))).push (seqObj "list" vs.toArray 0)).get? b = some o := fun b o q => by
    have hlt : b < s.heap.objs.size := Heap.lt_size q
    rw [Heap.get?_push_ne _ _ _ (by rw [hsz]; exact Nat.ne_of_lt (Nat.lt_succ_of_lt hlt)), Heap.get?_update_ne _ _ _ _ (Nat.ne_of_lt hlt), Heap.get?_push_ne _ _ _ (Nat.ne_of_lt hlt)]
    exact q
  have hL : L < s.heap.objs.size := F.ns.lt
  show wpAny _ _ _ _ _ { s with heap := ((s.heap.push (seqObj "list" #[] 0)).update s.heap.objs.size (Obj.mapSeq (· ++ vs.toArray))).push (seqObj "list" vs.toArray 0) }
  rw [hsz]
  refine wpAny_bind (wpAny_holding (wpAny_call_entry slot_list_sort ⟨_, hoL, rfl⟩ entry_list_sort ?body (args_list_sort _)))
  case body =>
    refine kas_list_sort (s := { s with heap := ((s.heap.push (seqObj "list" #[] 0)).update s.heap.objs.size (Obj.mapSeq (· ++ vs.toArray))).push (seqObj "list" vs.toArray 0) })
      (F.kept keep) (N.grown keep) hoL (Nat.ne_of_gt (Nat.lt_succ_of_lt hL)) (Heap.get?_none_of_le (Nat.le_trans F.above (Nat.le_succ_of_le (Nat.le_of_lt hL))))
      (fun p hp => Nat.ne_of_lt (Nat.lt_succ_of_lt (Heap.lt_size (N p hp).1))) h2 h64 (fun e1 h' F' N' => hT h' F' fun p hp => N' p (.tail _ hp)) hT1.1 hT1.2.2 fun e1 h' F' N' => ?_
    have ask := h _ e1 h' F' N' fun q hq => Nat.lt_succ_of_lt (Heap.lt_size (N q hq).1)
    rw [kas_ask_eq] at ask ⊢
    exact kas_wp_mono ask fun p s' hk => hk.mono fun s'' hq => ⟨_, rfl, wpAny_pure ⟨_, rfl, hq⟩⟩
theorem sorted2 {l : Addr} {a b : Str} {ta tb : Tok} {Q : Value → Shared → Prop} (F : Fr h₀ L s.heap m) (N : News h₀ L s.heap news) (hl : IsTup s.heap l [.str a ta, .str b tb].toArray)
    (h1 : ∀ D c h', decide (b.cps.toList < a.cps.toList) = true → Fr h₀ L h' m → News h₀ L h' ((D, listOf #[.str b tb, .str a ta] c) :: news) → (∀ q ∈ news, q.1 < D) → Q (.ref D) { s with heap := h' })
    (h2 : ∀ D c h', decide (b.cps.toList < a.cps.toList) = false → Fr h₀ L h' m → News h₀ L h' ((D, listOf #[.str a ta, .str b tb] c) :: news) → (∀ q ∈ news, q.1 < D) → Q (.ref D) { s with heap := h' }) :
    wpAny (model prog w) A (call (.builtin "sorted") [.ref l]) Q E s := by
  refine sorted_tup (T := .type "str") F N hl (Nat.le_of_ble_eq_true rfl) (Nat.le_of_ble_eq_true rfl) (fun h F' N' v hv => ?_) (by rfl) (fun D e1 h' F' N' l1 => ?_)
  · rcases List.mem_cons.mp hv with rfl | hv
    · exact Looks.of_pure rfl
    rcases List.mem_cons.mp hv with rfl | hv
    · exact Looks.of_pure rfl
    cases hv
  kas_step
  refine kas_lt_str ?_
  refine kas_split (fun hb => ?_) (fun hb => ?_)
  · k_steps
    exact h1 D _ _ hb (by assumption) (by assumption) l1
  · k_steps
    exact h2 D _ _ hb (by assumption) (by assumption) l1
end
end
section
open PySem PySem.W PyProof.Rows PySem.Spec PySem.Calls PySem.SeqAt
section
variable {prog : Program} {w : World} {A : Around} {E : Value → Shared → Prop} {s : Shared} {h₀ : Heap} {L : Addr} {m : Str → Option Value} {news : List (Addr × Obj)} {K : Frag}
theorem pair_eqv (x y p q : Str) : PyData.eqv (.list [.str x, .str y]) (.list [.str p, .str q]) = (x == p && y == q) := by
  simp [PyData.eqv, PyData.eqvAll]
theorem pair_shaped {x y : Str} (hx : PyData.strOk x = true) (hy : PyData.strOk y = true) : shaped (.list [.str x, .str y]) = true := by simp [shaped, PyData.canLay0, PyData.canLayAll0, PyData.depth, PyData.depthAll, hx, hy]
theorem s_ok (b : Bs) : PyData.strOk b.s = true := by cases b <;> decide +kernel
theorem cond_ok (c : Bool) (a b : Bs) : PyData.strOk (bif c then a.s else b.s) = true := by cases c; exact s_ok b; exact s_ok a
theorem ne_pair {a b : Addr} {x y p q : Str} {tx ty tp tq : Tok} {Q : Value → Shared → Prop} (ha : s.heap.IsList a #[.str x tx, .str y ty]) (hb : s.heap.IsList b #[.str p tp, .str q tq]) (hx : PyData.strOk x = true) (hy : PyData.strOk y = true) (hp : PyData.strOk p = true) (hq : PyData.strOk q = true) (hu : A.units + 64 < cLine)
    (h : Q (.bool (!(x == p && y == q))) s) : wpAny (model prog w) A (compareOp .NotEq (.ref a) (.ref b)) Q E s := by
  obtain ⟨oa, ga, ca, na, da⟩ := ha
  obtain ⟨ob, gb, cb, nb, db⟩ := hb
  refine ne_dataH (reads_list_at ga ca da (.cons (.str _ _) (.cons (.str _ _) .nil))) (reads_list_at gb cb db (.cons (.str _ _) (.cons (.str _ _) .nil))) (pair_shaped hx hy) (pair_shaped hp hq) hu ?_
  rw [pair_eqv]
  exact h
theorem kd_eqv (k1 k2 : Kd) : PyData.eqv (.tuple [.str k1.b.s, .bool k1.v, .int k1.d]) (.tuple [.str k2.b.s, .bool k2.v, .int k2.d]) = (k1.b.eqb k2.b && (k1.v == k2.v && k1.d == k2.d)) := by
  simp [PyData.eqv, PyData.eqvAll, s_beq]
theorem kd_reads {a : Addr} {k : Kd} (x : KdIn K news a k) (F : Fr h₀ L s.heap m) (X : K.In h₀) (N : News h₀ L s.heap news) : ∃ as, Reads s.heap (.ref a) (.tuple [.str k.b.s, .bool k.v, .int k.d]) as := by
  obtain ⟨t1, t2, o, g, c, n, d⟩ := x.tup F X N
  exact ⟨_, reads_tuple_at g c d (.cons (.str _ _) (.cons (.bool _) (.cons (.int _ _) .nil)))⟩
theorem kd_shaped (k : Kd) : shaped (.tuple [.str k.b.s, .bool k.v, .int k.d]) = true := by simp [shaped, PyData.canLay0, PyData.canLayAll0, PyData.depth, PyData.depthAll, s_ok]
theorem eq_kd {a b : Addr} {k1 k2 : Kd} {Q : Value → Shared → Prop} (x : KdIn K news a k1) (y : KdIn K news b k2) (F : Fr h₀ L s.heap m) (X : K.In h₀) (N : News h₀ L s.heap news) (hu : A.units + 64 < cLine)
    (h : Q (.bool (k1.b.eqb k2.b && (k1.v == k2.v && k1.d == k2.d))) s) : wpAny (model prog w) A (compareOp .Eq (.ref a) (.ref b)) Q E s := by
  obtain ⟨_, r1⟩ := kd_reads x F X N
  obtain ⟨_, r2⟩ := kd_reads y F X N
  refine eq_dataH r1 r2 (kd_shaped k1) (kd_shaped k2) hu ?_
  rw [kd_eqv]
  exact h
theorem ne_kd {a b : Addr} {k1 k2 : Kd} {Q : Value → Shared → Prop} (x : KdIn K news a k1) (y : KdIn K news b k2) (F : Fr h₀ L s.heap m) (X : K.In h₀) (N : News h₀ L s.heap news) (hu : A.units + 64 < cLine)
    (h : Q (.bool (!(k1.b.eqb k2.b && (k1.v == k2.v && k1.d == k2.d)))) s) : wpAny (model prog w) A (compareOp .NotEq (.ref a) (.ref b)) Q E s := by
  obtain ⟨_, r1⟩ := kd_reads x F X N
  obtain ⟨_, r2⟩ := kd_reads y F X N
  refine ne_dataH r1 r2 (kd_shaped k1) (kd_shaped k2) hu ?_
  rw [kd_eqv]
  exact h
theorem eq_kd_int {a : Addr} {k1 : Kd} {i : Int} {t : Tok} {Q : Value → Shared → Prop} (x : KdIn K news a k1) (F : Fr h₀ L s.heap m) (X : K.In h₀) (N : News h₀ L s.heap news) (hu : A.units + 64 < cLine)
    (h : Q (.bool false) s) : wpAny (model prog w) A (compareOp .Eq (.ref a) (.int i t)) Q E s := by
  obtain ⟨_, r1⟩ := kd_reads x F X N
  exact eq_dataH r1 (.int i t) (kd_shaped k1) (by simp [shaped, PyData.canLay0, PyData.depth]) hu (by simpa [PyData.eqv] using h)
theorem eq_int_kd {a : Addr} {k1 : Kd} {i : Int} {t : Tok} {Q : Value → Shared → Prop} (x : KdIn K news a k1) (F : Fr h₀ L s.heap m) (X : K.In h₀) (N : News h₀ L s.heap news) (hu : A.units + 64 < cLine)
    (h : Q (.bool false) s) : wpAny (model prog w) A (compareOp .Eq (.int i t) (.ref a)) Q E s := by
  obtain ⟨_, r1⟩ := kd_reads x F X N
  exact eq_dataH (.int i t) r1 (by simp [shaped, PyData.canLay0, PyData.depth]) (kd_shaped k1) hu (by simpa [PyData.eqv] using h)
noncomputable def ltS (a b : Str) : Bool := decide (a.cps.toList < b.cps.toList)
theorem sortedP {l : Addr} {a b : Str} {ta tb : Tok} {Q : Value → Shared → Prop} (F : Fr h₀ L s.heap m) (N : News h₀ L s.heap news) (hl : IsTup s.heap l [.str a ta, .str b tb].toArray)
    (h : ∀ D c h' t1 t2, Fr h₀ L h' m → News h₀ L h' ((D, listOf #[.str (bif ltS b a then b else a) t1, .str (bif ltS b a then a else b) t2] c) :: news) → (∀ q ∈ news, q.1 < D) → Q (.ref D) { s with heap := h' }) :
    wpAny (model prog w) A (call (.builtin "sorted") [.ref l]) Q E s := by
  refine sorted2 F N hl (fun D c h' hb F' N' l1 => h D c h' tb ta F' ?_ l1) (fun D c h' hb F' N' l1 => h D c h' ta tb F' ?_ l1)
  · have e : ltS b a = true := hb
    rw [e]; exact N'
  · have e : ltS b a = false := hb
    rw [e]; exact N'
theorem ite_any2 {a b c : Str} {P R : Prop} (h1 : (a == c) = true → P) (h2 : (a == c) = false → (b == c) = true → P)
    (h3 : (a == c) = false → (b == c) = false → R) : if ([a, b].any fun x => x == c) = true then P else R := by
  cases hc : (a == c) with
  | true => rw [if_pos (by simp [hc])]; exact h1 hc
  | false =>
    cases hd : (b == c) with
    | true => rw [if_pos (by simp [hd])]; exact h2 hc hd
    | false =>
      rw [if_neg (by rw [List.any_cons, List.any_cons, List.any_nil, hc, hd]; decide)]
      exact h3 hc hd
theorem raisedD_drop {base G : Heap} {l : List Env} {e : Addr} {cls : Value} {t : Addr} {vs : List Value} {dx : Addr} {x : Addr × Obj} {nn news : List (Addr × Obj)} {h : Heap} (R : RaisedD base G l e cls t vs dx (x :: nn) h) (hs : ∀ p ∈ news, p ∈ nn) : RaisedD base G l e cls t vs dx (x :: news) h := by
  obtain ⟨⟨⟨B, a, b, c, d⟩, e⟩, f⟩ := R
  exact ⟨⟨⟨B, a, b, fun q hq => c q (by
    rcases List.mem_cons.mp hq with rfl | hq
    · exact .head _
    · exact .tail _ (hs q hq)), d⟩, e⟩, f⟩
end
end
local macro_rules | `(tactic| walk_at "call builtin:sorted") => `(tactic| (k_here; (with_reducible show wpAny _ _ (call (Value.builtin _) [Value.ref _]) _ _ _); k_dflt (refine' sortedP ?k1 ?k2 ?k3 ?_; (case k1 | k2 => k_asm); (case k3 => (refine News.isTup (by k_asm) (by k_mem)))); intro D' c' h' t1' t2' F' N' l1; (try k_lt l1)))
local macro_rules | `(tactic| walk_at "compareOp NotEq ref ref") => `(tactic| (k_here; (with_reducible show wpAny _ _ (compareOp CmpOp.NotEq (Value.ref _) (Value.ref _)) _ _ _); k_dflt (refine' ne_pair ?k1 ?k2 ?k3 ?k4 ?k5 ?k6 ?k7 ?_; (case k1 | k2 => (refine News.isList (by k_asm) (by k_mem))); (case k3 | k4 => exact cond_ok _ _ _); (case k5 | k6 => decide +kernel); (case k7 => ktr_units))))
local macro_rules | `(tactic| walk_at "ite") => `(tactic| ((with_reducible refine' ite_any2 ?_ ?_ ?_) <;> intros))
local macro_rules | `(tactic| walk_at "eval BoolOp") => `(tactic| (k_here; (with_reducible show wpAny _ _ (eval (Expr.BoolOp BoolOp.Or [_, _] _) _) _ _ _); k_dflt (refine' or_kd ?k1 ?k2 ?k3 ?k4 ?k5 ?k6 ?k7 ?k8 ?k9 ?ka (KdIn.mono ?h1 ?m1) (KdIn.mono ?h2 ?m2) ?_; (case k1 | k2 | k3 => k_asm); (case k4 | k5 | k6 | k7 | k8 => exact rfl); (case k9 | ka => decide); (case h1 | h2 => with_reducible assumption); (case m1 | m2 => ktd_sub)); intro tk'))
section
noncomputable def joinB (a b : Bs) : Option Bs := if a.eqb b || b.eqb .none then some a else if a.eqb .none then some b else if (a.eqb .int && b.eqb .bool) || (a.eqb .bool && b.eqb .int) then some .int else none
noncomputable def commonF (k1 k2 : Kd) : Option Kd := if k1.d == k2.d then (joinB k1.b k2.b).map fun b => ⟨b, k1.v || k2.v, k1.d⟩ else none
theorem common_end {news nn ll : List (Addr × Obj)} {h₀ h' : Heap} {L D : Addr} {m : Str → Option Value} {k1 k2 k : Kd} {b : Str} {v : Bool} {d : Int} {t1 t2 : Tok} {Q : Value → Shared → Prop} {s : Shared} {tk : Nat}
    (hret : ∀ r tl h' tk', Fr h₀ L h' m → News h₀ L h' (tl ++ news) → (∀ q ∈ news, ∀ p ∈ tl, q.1 < p.1) → (∃ k, commonF k1 k2 = some k ∧ ∃ a t1 t2 n, r = .ref a ∧ tl = [(a, tupO k t1 t2 n none #[])]) → Q r { s with heap := h', toks := tk' })
    (F : Fr h₀ L h' m) (N : News h₀ L h' ((D, { cls := .type "tuple", data := .seq #[.str b t1, .bool v, .int d t2] }) :: nn)) (hs : ∀ p ∈ news, p ∈ nn) (hl : ∀ p ∈ ll, p.1 < D) (hsl : ∀ p ∈ news, p ∈ ll)
    (e : commonF k1 k2 = some k) (eb : b = k.b.s) (ev : v = k.v) (ed : d = k.d) : Q (.ref D) { s with heap := h', toks := tk } := by
  subst eb ev ed
  refine hret _ [(D, tupO k t1 t2 0 none #[])] _ _ F (fun p hp => N p ?_) (fun q hq p hp => ?_) ⟨k, e, D, t1, t2, 0, rfl, rfl⟩
  · rcases List.mem_cons.mp hp with rfl | hp
    · exact .head _
    · exact .tail _ (hs p hp)
  · rcases List.mem_cons.mp hp with rfl | hp
    · exact hl q (hsl q hq)
    · cases hp
section
variable {k1 k2 : Kd}
theorem cmA (h : k1.d ≠ k2.d) : commonF k1 k2 = none := by simp [commonF, h]
theorem cm0 (h : k1.d = k2.d) {b : Bs} (e : joinB k1.b k2.b = some b) : commonF k1 k2 = some ⟨b, k1.v || k2.v, k1.d⟩ := by simp [commonF, h, e]
theorem cmV1 (h : k1.v = true) : k1.v = (k1.v || k2.v) := by rw [h]; rfl
theorem cmV2 (h : k1.v = false) : k2.v = (k1.v || k2.v) := by rw [h]; rfl
theorem jb1 {a b : Bs} (h : (a.s == b.s) = true) : joinB a b = some a := by rw [s_beq] at h; simp [joinB, h]
theorem jb2 {a b : Bs} (h : (b.s == Str.ofString "none") = true) : joinB a b = some a := by
  have e : (b.s == Bs.none.s) = true := h
  rw [s_beq] at e; simp [joinB, e]
theorem jb3 {a b : Bs} (h0 : (a.s == b.s) = false) (h1 : (b.s == Str.ofString "none") = false) (h : (a.s == Str.ofString "none") = true) : joinB a b = some b := by
  have e : (a.s == Bs.none.s) = true := h
  have e1 : (b.s == Bs.none.s) = false := h1
  rw [s_beq] at e e1 h0; simp [joinB, e, e1, h0]
theorem jb4 {a b : Bs} (h0 : (a.s == b.s) = false) (h1 : (b.s == Str.ofString "none") = false) (h : (a.s == Str.ofString "none") = false)
    (hp : ((bif ltS b.s a.s then b.s else a.s) == Str.ofString "bool" && (bif ltS b.s a.s then a.s else b.s) == Str.ofString "int") = true) : joinB a b = some .int := by
  revert h0 h1 h hp
  cases a <;> cases b <;> first | (intro h0; exact absurd h0 (by decide)) | (intro _ h0; exact absurd h0 (by decide)) | (intro _ _ h0; exact absurd h0 (by decide)) | (intros; rfl) | (intro _ _ _ h0; exact absurd h0 (by decide))
theorem jb5 {a b : Bs} (h0 : (a.s == b.s) = false) (h1 : (b.s == Str.ofString "none") = false) (h : (a.s == Str.ofString "none") = false)
    (hp : ((bif ltS b.s a.s then b.s else a.s) == Str.ofString "bool" && (bif ltS b.s a.s then a.s else b.s) == Str.ofString "int") = false) : joinB a b = none := by
  revert h0 h1 h hp
  cases a <;> cases b <;> first | (intro h0; exact absurd h0 (by decide)) | (intro _ h0; exact absurd h0 (by decide)) | (intro _ _ h0; exact absurd h0 (by decide)) | (intros; rfl) | (intro _ _ _ h0; exact absurd h0 (by decide))
theorem cmB (e : joinB k1.b k2.b = none) : commonF k1 k2 = none := by simp [commonF, e]
end
theorem common_ct (w : World) (news : List (Addr × Obj)) (a1 a2 : Addr) (k1 k2 : Kd) (sp : Int) (ts tw : Tok) (what : Str) (h1 : KdIn (kk.heap_1 w.params) news a1 k1) (h2 : KdIn (kk.heap_1 w.params) news a2 k2) (hd1 : 0 ≤ k1.d ∧ k1.d ≤ 2) (hd2 : 0 ≤ k2.d ∧ k2.d ≤ 2) (hw : what.length ≤ 1000) :
    CallC w 20 200 212 [.ref a1, .ref a2, .int sp ts, .str what tw] news (fun r tl => ∃ k, commonF k1 k2 = some k ∧ ∃ a t1 t2 n, r = .ref a ∧ tl = [(a, tupO k t1 t2 n none #[])]) (commonF k1 k2 = none) sp := by
  intro p loose mean mg mb dp un gd cn cs a ccd cl outer A₀ base h₀ L m s Q E B F X N T hk hdp hun hret hbad
  refine wpAny_call ?_
  k_dflt ktr_enter
  k_steps
  all_goals first
  | (refine' hbad _ _ _ _ _ _ _ _ _ _ _ _ ?kE ?k1 ?k2 ?k3; (case kE => first | exact cmA (by assumption) | exact cmB (jb5 (by assumption) (by assumption) (by assumption) (by assumption))); (case k2 => (refine' raisedD_drop ?kr ?ks; (case kr => with_reducible assumption); (case ks => ktd_sub))); (case k1 => k_asm); (case k3 => assumption))
  | (refine' common_end hret ?kF ?kN ?kS ?kA ?kB (cm0 (by assumption) ?kE) ?e1 ?e2 ?e3; (case kF => k_asm); (case kN => k_asm); (case kS => ktd_sub); (case kA => with_reducible assumption); (case kB => ktd_sub); (case kE => first | exact jb1 (by assumption) | exact jb2 (by assumption) | exact jb3 (by assumption) (by assumption) (by assumption) | exact jb4 (by assumption) (by assumption) (by assumption) (by assumption)); (case e1 => exact rfl); (case e2 => first | exact rfl | exact cmV1 (by assumption) | exact cmV2 (by assumption)); (case e3 => exact rfl))
theorem commonF_d {k1 k2 k : Kd} (e : commonF k1 k2 = some k) (h : 0 ≤ k1.d ∧ k1.d ≤ 2) : 0 ≤ k.d ∧ k.d ≤ 2 := by
  unfold commonF at e
  split at e
  · obtain ⟨b, _, rfl⟩ := Option.map_eq_some_iff.mp e
    exact h
  · cases e
theorem KdIn.head {K : Frag} {news : List (Addr × Obj)} {a : Addr} {k : Kd} {t1 t2 : Tok} {n : Nat} {d : Option Addr} {sl : Array (Option Value)} : KdIn K ((a, tupO k t1 t2 n d sl) :: news) a k := ⟨t1, t2, n, d, sl, .inl (.head _)⟩
theorem common_use {w : World} {news : List (Addr × Obj)} {a1 a2 : Addr} {k1 k2 : Kd} {sp : Int} {ts tw : Tok} {what : Str}
    {p : Program} {loose : List Str} {mean : ExcName → Option Value} {mg mb : Str → Option Value} {dp un : Nat} {gd : Option (List Code)} {cn : Str} {cs : Scope} {a : Addr} {ccd : Value} {cl : List (Str × Addr)} {outer : List Env} {A₀ : Around} {base h₀ : Heap} {L : Addr} {m : Str → Option Value} {s : Shared} {Q E : Value → Shared → Prop}
    (h1 : KdIn (kk.heap_1 w.params) news a1 k1) (h2 : KdIn (kk.heap_1 w.params) news a2 k2) (hd1 : 0 ≤ k1.d ∧ k1.d ≤ 2) (hd2 : 0 ≤ k2.d ∧ k2.d ≤ 2) (hw : what.length ≤ 1000) (B : Below A₀ base outer h₀) (F : Fr h₀ L s.heap m) (X : (kk.heap_1 w.params).In h₀) (N : News h₀ L s.heap news) (T : Top p loose mean mg mb h₀) (hk : cs.kind = .function) (hd : dp + 20 < recursionLimit) (hu : un + 200 < cLine)
    (ret : ∀ k D t1 t2 n h' tk', commonF k1 k2 = some k → 0 ≤ k.d ∧ k.d ≤ 2 → Fr h₀ L h' m → News h₀ L h' ((D, tupO k t1 t2 n none #[]) :: news) → (∀ p ∈ news, p.1 < D) → KdIn (kk.heap_1 w.params) ((D, tupO k t1 t2 n none #[]) :: news) D k → Q (.ref D) { s with heap := h', toks := tk' })
    (bad : ∀ e t ws dx k1' kv' k2' ts n g h' tk', commonF k1 k2 = none → Fr h₀ L g m → RaisedD base g (envX cn cs L a ccd cl :: outer) e (.ref 88) t ws dx ((dx, spotD w k1' kv' k2' sp ts n) :: news) h' → g.UpToSlots h' → E (.ref e) { s with heap := h', toks := tk' }) :
    wpAny (model P0 w) (ktrTop dp un gd cn cs L a ccd cl outer) (call (.ref 212) [.ref a1, .ref a2, .int sp ts, .str what tw]) Q E s :=
  CallC.use (common_ct w news a1 a2 k1 k2 sp ts tw what h1 h2 hd1 hd2 hw) B F X N T hk hd hu (fun r tl h' tk' F' N' l e => by
    obtain ⟨k, ek, D, t1, t2, n, rfl, rfl⟩ := e
    exact ret k D t1 t2 n h' tk' ek (commonF_d ek hd1) F' N' (fun p hp => l p hp _ (.head _)) KdIn.head) bad
end
local macro_rules | `(tactic| walk_at "call ref") => `(tactic| (k_here; (with_reducible show wpAny _ _ (call (Value.ref 212) _) _ _ _); k_dflt (refine' common_use (KdIn.mono ?h1 ?m1) (KdIn.mono ?h2 ?m2) ?d1 ?d2 ?d3 ?k1 ?k2 ?k3 ?k4 ?k5 ?k6 ?k7 ?k8 ?_ ?_; (case h1 | h2 | d1 | d2 => with_reducible assumption); (case d3 => (refine' len_fin ?kc ?kd; (case kc => kt_len); (case kd => decide))); (case k1 | k2 | k3 | k4 | k5 => k_asm); (case k6 => first | exact rfl | assumption); (case k7 => ktr_room); (case k8 => ktr_units); (case m1 | m2 => ktd_sub)); (first | intro k' D' t1' t2' n' h' tk' ec' ed' F' N' l1 kd' | skip)))
local macro_rules | `(tactic| walk_at "compareOp NotEq ref ref") => `(tactic| (k_here; (with_reducible show wpAny _ _ (compareOp CmpOp.NotEq (Value.ref _) (Value.ref _)) _ _ _); k_dflt (refine' ne_kd (KdIn.mono ?kx ?kmx) (KdIn.mono ?ky ?kmy) ?k1 ?k2 ?k3 ?k4 ?_; (case kx | ky => with_reducible assumption); (case k3 | k1 | k2 => k_asm); (case kmx | kmy => ktd_sub); (case k4 => ktr_units))))
section
noncomputable def togetherF (k1 k2 : Kd) : Option Kd := (commonF k1 k2).bind fun k => if k.d == 1 || (k.b.eqb .str && (k.v == false && k.d == 0)) then some k else none
theorem text_kd (w : World) (news : List (Addr × Obj)) : KdIn (kk.heap_1 w.params) news 99 ⟨.str, false, 0⟩ := ⟨_, _, _, _, _, .inr (by k_is)⟩
theorem made_end {news : List (Addr × Obj)} {h₀ h' : Heap} {L D : Addr} {m : Str → Option Value} {k : Kd} {FF : Option Kd} {t1 t2 : Tok} {n : Nat} {Q : Value → Shared → Prop} {s : Shared} {tk : Nat}
    (hret : ∀ r tl h' tk', Fr h₀ L h' m → News h₀ L h' (tl ++ news) → (∀ q ∈ news, ∀ p ∈ tl, q.1 < p.1) → (∃ k, FF = some k ∧ ∃ a t1 t2 n, r = .ref a ∧ tl = [(a, tupO k t1 t2 n none #[])]) → Q r { s with heap := h', toks := tk' })
    (F : Fr h₀ L h' m) (N : News h₀ L h' ((D, tupO k t1 t2 n none #[]) :: news)) (hl : ∀ p ∈ news, p.1 < D) (e : FF = some k) : Q (.ref D) { s with heap := h', toks := tk } := by
  refine hret _ [(D, tupO k t1 t2 n none #[])] _ _ F N (fun q hq p hp => ?_) ⟨k, e, D, t1, t2, n, rfl, rfl⟩
  rcases List.mem_cons.mp hp with rfl | hp
  · exact hl q hq
  · cases hp
theorem tgA {k1 k2 k : Kd} (e : commonF k1 k2 = some k) (h : k.d = 1) : togetherF k1 k2 = some k := by unfold togetherF; rw [e]; simp [h]
theorem tgB {k1 k2 k : Kd} (e : commonF k1 k2 = some k) (h : (k.b.eqb .str && (k.v == false && k.d == 0)) = true) : togetherF k1 k2 = some k := by unfold togetherF; rw [e]; simp only [Option.bind_some, h, Bool.or_true, if_true]
theorem tgC {k1 k2 k : Kd} (e : commonF k1 k2 = some k) (h0 : k.d ≠ 1) (h : (k.b.eqb .str && (k.v == false && k.d == 0)) = false) : togetherF k1 k2 = none := by
  unfold togetherF; rw [e]
  have e1 : (k.d == 1) = false := by simp [h0]
  simp only [Option.bind_some, h, e1, Bool.or_false, Bool.false_eq_true, if_false]
theorem tgD {k1 k2 : Kd} (e : commonF k1 k2 = none) : togetherF k1 k2 = none := by unfold togetherF; rw [e]; rfl
theorem together_ct (w : World) (news : List (Addr × Obj)) (self a1 a2 : Addr) (k1 k2 : Kd) (sp : Int) (ts : Tok) (h1 : KdIn (kk.heap_1 w.params) news a1 k1) (h2 : KdIn (kk.heap_1 w.params) news a2 k2) (hd1 : 0 ≤ k1.d ∧ k1.d ≤ 2) (hd2 : 0 ≤ k2.d ∧ k2.d ≤ 2) :
    CallC w 40 400 315 [.ref self, .ref a1, .ref a2, .int sp ts] news (fun r tl => ∃ k, togetherF k1 k2 = some k ∧ ∃ a t1 t2 n, r = .ref a ∧ tl = [(a, tupO k t1 t2 n none #[])]) (togetherF k1 k2 = none) sp := by
  intro p loose mean mg mb dp un gd cn cs a ccd cl outer A₀ base h₀ L m s Q E B F X N T hk hdp hun hret hbad
  have hT := text_kd w news
  refine wpAny_call ?_
  k_dflt ktr_enter
  k_steps
  all_goals first
  | (refine' hbad _ _ _ _ _ _ _ _ _ _ _ _ ?kE ?k1 ?k2 ?k3; (case kE => first | exact tgD (by assumption) | exact tgC (by assumption) (by assumption) (by assumption)); (case k2 => (refine' raisedD_drop ?kr ?ks; (case kr => with_reducible assumption); (case ks => ktd_sub))); (case k1 => k_asm); (case k3 => assumption))
  | (refine' made_end hret ?kF ?kN ?kA ?kE; (case kF => k_asm); (case kN => k_asm); (case kA => with_reducible assumption); (case kE => first | exact tgA (by assumption) (by assumption) | exact tgB (by assumption) (by assumption)))
end
section
noncomputable def KdC (w : World) (dN uN : Nat) (f : Addr) (vs : List Value) (news : List (Addr × Obj)) (FF : Option Kd) (sp : Int) : Prop :=
  CallC w dN uN f vs news (fun r tl => ∃ k, FF = some k ∧ ∃ a, r = .ref a ∧ KdIn (kk.heap_1 w.params) (tl ++ news) a k) (FF = none) sp
theorem KdC.use {w : World} {dN uN : Nat} {f : Addr} {vs : List Value} {news : List (Addr × Obj)} {FF : Option Kd} {sp : Int}
    {p : Program} {loose : List Str} {mean : ExcName → Option Value} {mg mb : Str → Option Value} {dp un : Nat} {gd : Option (List Code)} {cn : Str} {cs : Scope} {a : Addr} {ccd : Value} {cl : List (Str × Addr)} {outer : List Env} {A₀ : Around} {base h₀ : Heap} {L : Addr} {m : Str → Option Value} {s : Shared} {Q E : Value → Shared → Prop}
    (c : KdC w dN uN f vs news FF sp) (B : Below A₀ base outer h₀) (F : Fr h₀ L s.heap m) (X : (kk.heap_1 w.params).In h₀) (N : News h₀ L s.heap news) (T : Top p loose mean mg mb h₀) (hk : cs.kind = .function) (hd : dp + dN < recursionLimit) (hu : un + uN < cLine)
    (ret : ∀ k D tl h' tk', FF = some k → Fr h₀ L h' m → News h₀ L h' (tl ++ news) → (∀ q ∈ news, ∀ p ∈ tl, q.1 < p.1) → KdIn (kk.heap_1 w.params) (tl ++ news) D k → Q (.ref D) { s with heap := h', toks := tk' })
    (bad : ∀ e t ws dx k1' kv' k2' ts n g h' tk', FF = none → Fr h₀ L g m → RaisedD base g (envX cn cs L a ccd cl :: outer) e (.ref 88) t ws dx ((dx, spotD w k1' kv' k2' sp ts n) :: news) h' → g.UpToSlots h' → E (.ref e) { s with heap := h', toks := tk' }) :
    wpAny (model P0 w) (ktrTop dp un gd cn cs L a ccd cl outer) (call (.ref f) vs) Q E s :=
  CallC.use c B F X N T hk hd hu (fun r tl h' tk' F' N' l e => by
    obtain ⟨k, ek, D, rfl, hkd⟩ := e
    exact ret k D tl h' tk' ek F' N' l hkd) bad
theorem KdC.of_made {w : World} {dN uN : Nat} {f : Addr} {vs : List Value} {news : List (Addr × Obj)} {FF : Option Kd} {sp : Int}
    (c : CallC w dN uN f vs news (fun r tl => ∃ k, FF = some k ∧ ∃ a t1 t2 n, r = .ref a ∧ tl = [(a, tupO k t1 t2 n none #[])]) (FF = none) sp) : KdC w dN uN f vs news FF sp := by
  intro p loose mean mg mb dp un gd cn cs a ccd cl outer A₀ base h₀ L m s Q E B F X N T hk hdp hun hret hbad
  refine c p loose mean mg mb dp un gd cn cs a ccd cl outer A₀ base h₀ L m s Q E B F X N T hk hdp hun (fun r tl h' tk' F' N' l e => hret r tl h' tk' F' N' l ?_) hbad
  obtain ⟨k, ek, a, t1, t2, n, rfl, rfl⟩ := e
  exact ⟨k, ek, a, rfl, KdIn.head⟩
theorem kdc_end {w : World} {news nn ll : List (Addr × Obj)} {h₀ h' : Heap} {L D : Addr} {m : Str → Option Value} {k : Kd} {FF : Option Kd} {b : Str} {v : Bool} {d : Int} {t1 t2 : Tok} {Q : Value → Shared → Prop} {s : Shared} {tk : Nat}
    (hret : ∀ r tl h' tk', Fr h₀ L h' m → News h₀ L h' (tl ++ news) → (∀ q ∈ news, ∀ p ∈ tl, q.1 < p.1) → (∃ k, FF = some k ∧ ∃ a, r = .ref a ∧ KdIn (kk.heap_1 w.params) (tl ++ news) a k) → Q r { s with heap := h', toks := tk' })
    (F : Fr h₀ L h' m) (N : News h₀ L h' ((D, { cls := .type "tuple", data := .seq #[.str b t1, .bool v, .int d t2] }) :: nn)) (hs : ∀ p ∈ news, p ∈ nn) (hl : ∀ p ∈ ll, p.1 < D) (hsl : ∀ p ∈ news, p ∈ ll)
    (e : FF = some k) (eb : b = k.b.s) (ev : v = k.v) (ed : d = k.d) : Q (.ref D) { s with heap := h', toks := tk } := by
  subst eb ev ed
  refine hret _ [(D, tupO k t1 t2 0 none #[])] _ _ F (fun p hp => N p ?_) (fun q hq p hp => ?_) ⟨k, e, D, rfl, KdIn.head⟩
  · rcases List.mem_cons.mp hp with rfl | hp
    · exact .head _
    · exact .tail _ (hs p hp)
  · rcases List.mem_cons.mp hp with rfl | hp
    · exact hl q (hsl q hq)
    · cases hp
theorem kdc_old {w : World} {news nn : List (Addr × Obj)} {h₀ h' : Heap} {L D : Addr} {m : Str → Option Value} {k : Kd} {FF : Option Kd} {Q : Value → Shared → Prop} {s : Shared} {tk : Nat}
    (hret : ∀ r tl h' tk', Fr h₀ L h' m → News h₀ L h' (tl ++ news) → (∀ q ∈ news, ∀ p ∈ tl, q.1 < p.1) → (∃ k, FF = some k ∧ ∃ a, r = .ref a ∧ KdIn (kk.heap_1 w.params) (tl ++ news) a k) → Q r { s with heap := h', toks := tk' })
    (F : Fr h₀ L h' m) (N : News h₀ L h' nn) (hs : ∀ p ∈ news, p ∈ nn) (x : KdIn (kk.heap_1 w.params) news D k) (e : FF = some k) : Q (.ref D) { s with heap := h', toks := tk } :=
  hret _ [] _ _ F (cb_drop N hs) ktn_ord0 ⟨k, e, D, rfl, x⟩
noncomputable def cmpOk (x : Str) : Bool := [Str.ofString "<", Str.ofString "<=", Str.ofString ">", Str.ofString ">=", Str.ofString "=", Str.ofString "==", Str.ofString "!="].any fun y => y == x
noncomputable def comparedF (x : Str) (k1 k2 : Kd) : Option Kd := if cmpOk x then (commonF k1 k2).bind fun k => if k.d == 0 then some ⟨.bool, k.v, 0⟩ else none else none
theorem coA {x : Str} {k1 k2 : Kd} (h : cmpOk x = false) : comparedF x k1 k2 = none := by unfold comparedF; rw [h]; rfl
theorem coB {x : Str} {k1 k2 : Kd} (h : commonF k1 k2 = none) : comparedF x k1 k2 = none := by unfold comparedF; rw [h]; split <;> rfl
theorem coC {x : Str} {k1 k2 k : Kd} (e : commonF k1 k2 = some k) (h : k.d ≠ 0) : comparedF x k1 k2 = none := by
  unfold comparedF; rw [e]
  have e1 : (k.d == 0) = false := by simp [h]
  simp only [Option.bind_some, e1, Bool.false_eq_true, if_false]; split <;> rfl
theorem coD {x : Str} {k1 k2 k : Kd} (h : cmpOk x = true) (e : commonF k1 k2 = some k) (h0 : k.d = 0) : comparedF x k1 k2 = some ⟨.bool, k.v, 0⟩ := by
  unfold comparedF; rw [h, e]; simp [h0]
theorem compared_ct (w : World) (news : List (Addr × Obj)) (self a1 a2 : Addr) (k1 k2 : Kd) (x : Str) (tx : Tok) (sp : Int) (ts : Tok) (h1 : KdIn (kk.heap_1 w.params) news a1 k1) (h2 : KdIn (kk.heap_1 w.params) news a2 k2) (hd1 : 0 ≤ k1.d ∧ k1.d ≤ 2) (hd2 : 0 ≤ k2.d ∧ k2.d ≤ 2) (hx : x.length ≤ 1000) :
    KdC w 40 400 322 [.ref self, .str x tx, .ref a1, .ref a2, .int sp ts] news (comparedF x k1 k2) sp := by
  intro p loose mean mg mb dp un gd cn cs a ccd cl outer A₀ base h₀ L m s Q E B F X N T hk hdp hun hret hbad
  refine wpAny_call ?_
  k_dflt ktr_enter
  k_steps
  all_goals first
  | (refine' hbad _ _ _ _ _ _ _ _ _ _ _ _ ?kE ?k1 ?k2 ?k3; (case kE => first | exact coB (by assumption) | exact coC (by assumption) (by assumption) | exact coA (by assumption)); (case k2 => (refine' raisedD_drop ?kr ?ks; (case kr => with_reducible assumption); (case ks => ktd_sub))); (case k1 => k_asm); (case k3 => assumption))
  | (refine' kdc_end hret ?kF ?kN ?kS ?kA ?kB (coD ?h1 ?h2 ?h3) ?e1 ?e2 ?e3; (case kF => k_asm); (case kN => k_asm); (case kS => ktd_sub); (case kA => with_reducible assumption); (case kB => ktd_sub); (case h2 => assumption); (case h1 => assumption); (case h3 => assumption); (case e1 => exact rfl); (case e2 => exact rfl); (case e3 => exact rfl))
end
section
noncomputable def intK : Kd := ⟨.int, true, 0⟩
noncomputable def boolK : Kd := ⟨.bool, true, 0⟩
noncomputable def knownK : Kd := ⟨.int, false, 0⟩
noncomputable def setK : Kd := ⟨.set, false, 0⟩
noncomputable def inL (x : Str) (l : List Str) : Bool := l.any fun y => y == x
noncomputable def arS : List Str := [Str.ofString "+", Str.ofString "-", Str.ofString "*", Str.ofString "div", Str.ofString "mod"]
noncomputable def loS : List Str := [Str.ofString "/\\", Str.ofString "\\/", Str.ofString "->", Str.ofString "<-", Str.ofString "<->", Str.ofString "xor"]
noncomputable def seS : List Str := [Str.ofString "union", Str.ofString "diff", Str.ofString "symdiff", Str.ofString "intersect", Str.ofString "subset", Str.ofString "superset"]
noncomputable def suS : List Str := [Str.ofString "subset", Str.ofString "superset"]
noncomputable def joinedF (x : Str) (k1 k2 : Kd) : Option Kd :=
  if inL x arS then (if fitsF k1 intK && fitsF k2 intK then some ⟨.int, k1.v || k2.v, 0⟩ else none)
  else if x == Str.ofString "^" then (if fitsF k1 intK && fitsF k2 knownK then some ⟨.int, k1.v, 0⟩ else none)
  else if inL x loS then (if fitsF k1 boolK && fitsF k2 boolK then some ⟨.bool, k1.v || k2.v, 0⟩ else none)
  else if inL x seS then (if fitsF k1 setK && fitsF k2 setK then some (if inL x suS then ⟨.bool, false, 0⟩ else setK) else none)
  else if x == Str.ofString "in" then (if fitsF k1 intK && fitsF k2 setK then some ⟨.bool, k1.v, 0⟩ else none)
  else if x == Str.ofString "++" then togetherF k1 k2
  else comparedF x k1 k2
theorem int_kd (w : World) (news : List (Addr × Obj)) : KdIn (kk.heap_1 w.params) news 91 intK := ⟨_, _, _, _, _, .inr (by k_is)⟩
theorem bool_kd (w : World) (news : List (Addr × Obj)) : KdIn (kk.heap_1 w.params) news 92 boolK := ⟨_, _, _, _, _, .inr (by k_is)⟩
theorem known_kd (w : World) (news : List (Addr × Obj)) : KdIn (kk.heap_1 w.params) news 95 knownK := ⟨_, _, _, _, _, .inr (by k_is)⟩
theorem set_kd (w : World) (news : List (Addr × Obj)) : KdIn (kk.heap_1 w.params) news 98 setK := ⟨_, _, _, _, _, .inr (by k_is)⟩
theorem want_use {w : World} {news : List (Addr × Obj)} {a1 a2 : Addr} {k1 k2 : Kd} {sp : Int} {ts tw : Tok} {what : Str}
    {p : Program} {loose : List Str} {mean : ExcName → Option Value} {mg mb : Str → Option Value} {dp un : Nat} {gd : Option (List Code)} {cn : Str} {cs : Scope} {a : Addr} {ccd : Value} {cl : List (Str × Addr)} {outer : List Env} {A₀ : Around} {base h₀ : Heap} {L : Addr} {m : Str → Option Value} {s : Shared} {Q E : Value → Shared → Prop}
    (h1 : KdIn (kk.heap_1 w.params) news a1 k1) (h2 : KdIn (kk.heap_1 w.params) news a2 k2) (hd1 : 0 ≤ k1.d ∧ k1.d ≤ 2) (hd2 : 0 ≤ k2.d ∧ k2.d ≤ 2) (hw : what.length ≤ 1000) (B : Below A₀ base outer h₀) (F : Fr h₀ L s.heap m) (X : (kk.heap_1 w.params).In h₀) (N : News h₀ L s.heap news) (T : Top p loose mean mg mb h₀) (hk : cs.kind = .function) (hd : dp + 20 < recursionLimit) (hu : un + 200 < cLine)
    (ret : ∀ h' tk', fitsF k1 k2 = true → Fr h₀ L h' m → News h₀ L h' news → Q .none { s with heap := h', toks := tk' })
    (bad : ∀ e t ws dx k1' kv' k2' ts n g h' tk', fitsF k1 k2 = false → Fr h₀ L g m → RaisedD base g (envX cn cs L a ccd cl :: outer) e (.ref 88) t ws dx ((dx, spotD w k1' kv' k2' sp ts n) :: news) h' → g.UpToSlots h' → E (.ref e) { s with heap := h', toks := tk' }) :
    wpAny (model P0 w) (ktrTop dp un gd cn cs L a ccd cl outer) (call (.ref 205) [.ref a1, .ref a2, .int sp ts, .str what tw]) Q E s :=
  CallC.use (want_ct w news a1 a2 k1 k2 sp ts tw what h1 h2 hd1 hd2 hw) B F X N T hk hd hu (fun r tl h' tk' F' N' l e => by
    obtain ⟨e, rfl, rfl⟩ := e
    exact ret h' tk' e F' N') bad
local macro_rules | `(tactic| walk_at "call ref") => `(tactic| (k_here; (with_reducible show wpAny _ _ (call (Value.ref 205) _) _ _ _); k_dflt (refine' want_use (KdIn.mono ?h1 ?m1) (KdIn.mono ?h2 ?m2) ?d1 ?d2 ?d3 ?k1 ?k2 ?k3 ?k4 ?k5 ?k6 ?k7 ?k8 ?_ ?_; (case h1 | h2 | d1 => with_reducible assumption); (case d2 => first | with_reducible assumption | decide); (case d3 => (refine' len_fin ?kc ?kd; (case kc => kt_len); (case kd => decide))); (case k1 | k2 | k3 | k4 | k5 => k_asm); (case k6 => first | exact rfl | assumption); (case k7 => ktr_room); (case k8 => ktr_units); (case m1 | m2 => ktd_sub))))
local macro_rules | `(tactic| walk_at "call ref") => `(tactic| (k_here; (with_reducible show wpAny _ _ (call (Value.ref 315) _) _ _ _); k_dflt (refine' KdC.use (KdC.of_made (together_ct _ _ _ _ _ _ _ _ _ ?h1 ?h2 ?d1 ?d2)) ?k1 ?k2 ?k3 ?k4 ?k5 ?k6 ?k7 ?k8 ?_ ?_; (case h1 | h2 | d1 | d2 => with_reducible assumption); (case k1 | k2 | k3 => k_asm); (case k4 => (refine' cb_drop ?kN ?kS; (case kN => k_asm); (case kS => ktd_sub))); (case k5 => k_asm); (case k6 => first | exact rfl | assumption); (case k7 => ktr_room); (case k8 => ktr_units))))
local macro_rules | `(tactic| walk_at "call ref") => `(tactic| (k_here; (with_reducible show wpAny _ _ (call (Value.ref 322) _) _ _ _); k_dflt (refine' KdC.use (compared_ct _ _ _ _ _ _ _ _ _ _ _ ?h1 ?h2 ?d1 ?d2 ?d3) ?k1 ?k2 ?k3 ?k4 ?k5 ?k6 ?k7 ?k8 ?_ ?_; (case h1 | h2 | d1 | d2 | d3 => with_reducible assumption); (case k1 | k2 | k3 => k_asm); (case k4 => (refine' cb_drop ?kN ?kS; (case kN => k_asm); (case kS => ktd_sub))); (case k5 => k_asm); (case k6 => first | exact rfl | assumption); (case k7 => ktr_room); (case k8 => ktr_units))))
noncomputable abbrev mkO (dmk : Addr) : Obj := { cls := .ref 496, dict := some dmk, data := .plain }
noncomputable abbrev mkD (w : World) (t1 t2 t3 t4 t5 t6 : Tok) (v1 v2 v3 v4 v5 v6 : Value) : Obj := dictOf [⟨PyData.keyHash w.params (Str.ofString "names"), .str (Str.ofString "names") t1, v1⟩, ⟨PyData.keyHash w.params (Str.ofString "predicates"), .str (Str.ofString "predicates") t2, v2⟩, ⟨PyData.keyHash w.params (Str.ofString "asks"), .str (Str.ofString "asks") t3, v3⟩, ⟨PyData.keyHash w.params (Str.ofString "assigned"), .str (Str.ofString "assigned") t4, v4⟩, ⟨PyData.keyHash w.params (Str.ofString "is_shown"), .str (Str.ofString "is_shown") t5, v5⟩, ⟨PyData.keyHash w.params (Str.ofString "called"), .str (Str.ofString "called") t6, v6⟩] 6
section
variable {x : Str} {k1 k2 : Kd}
theorem jA (h : (arS.any fun y => y == x) = true) (h1 : fitsF k1 intK = true) (h2 : fitsF k2 intK = true) : joinedF x k1 k2 = some ⟨.int, k1.v || k2.v, 0⟩ := by unfold joinedF inL; rw [if_pos h, h1, h2]; rfl
theorem jA1 (h : (arS.any fun y => y == x) = true) (h1 : fitsF k1 intK = false) : joinedF x k1 k2 = none := by unfold joinedF inL; rw [if_pos h, h1]; rfl
theorem jA2 (h : (arS.any fun y => y == x) = true) (h2 : fitsF k2 intK = false) : joinedF x k1 k2 = none := by unfold joinedF inL; rw [if_pos h, h2, Bool.and_false]; rfl
theorem jB0 (h : (arS.any fun y => y == x) = false) (e : (x == Str.ofString "^") = true) : joinedF x k1 k2 = (if fitsF k1 intK && fitsF k2 knownK then some ⟨.int, k1.v, 0⟩ else none) := by unfold joinedF inL; rw [if_neg (by rw [h]; decide), if_pos e]
theorem jC0 (h : (arS.any fun y => y == x) = false) (e : (x == Str.ofString "^") = false) (l : (loS.any fun y => y == x) = true) : joinedF x k1 k2 = (if fitsF k1 boolK && fitsF k2 boolK then some ⟨.bool, k1.v || k2.v, 0⟩ else none) := by unfold joinedF inL; rw [if_neg (by rw [h]; decide), if_neg (by rw [e]; decide), if_pos l]
theorem jD0 (h : (arS.any fun y => y == x) = false) (e : (x == Str.ofString "^") = false) (l : (loS.any fun y => y == x) = false) (t : (seS.any fun y => y == x) = true) : joinedF x k1 k2 = (if fitsF k1 setK && fitsF k2 setK then some (if inL x suS then ⟨.bool, false, 0⟩ else setK) else none) := by
  unfold joinedF; unfold inL; rw [if_neg (by rw [h]; decide), if_neg (by rw [e]; decide), if_neg (by rw [l]; decide), if_pos t]
theorem jE0 (h : (arS.any fun y => y == x) = false) (e : (x == Str.ofString "^") = false) (l : (loS.any fun y => y == x) = false) (t : (seS.any fun y => y == x) = false) (i : (x == Str.ofString "in") = true) : joinedF x k1 k2 = (if fitsF k1 intK && fitsF k2 setK then some ⟨.bool, k1.v, 0⟩ else none) := by
  unfold joinedF; unfold inL; rw [if_neg (by rw [h]; decide), if_neg (by rw [e]; decide), if_neg (by rw [l]; decide), if_neg (by rw [t]; decide), if_pos i]
theorem jF0 (h : (arS.any fun y => y == x) = false) (e : (x == Str.ofString "^") = false) (l : (loS.any fun y => y == x) = false) (t : (seS.any fun y => y == x) = false) (i : (x == Str.ofString "in") = false) (p : (x == Str.ofString "++") = true) : joinedF x k1 k2 = togetherF k1 k2 := by
  unfold joinedF inL; rw [if_neg (by rw [h]; decide), if_neg (by rw [e]; decide), if_neg (by rw [l]; decide), if_neg (by rw [t]; decide), if_neg (by rw [i]; decide), if_pos p]
theorem jG0 (h : (arS.any fun y => y == x) = false) (e : (x == Str.ofString "^") = false) (l : (loS.any fun y => y == x) = false) (t : (seS.any fun y => y == x) = false) (i : (x == Str.ofString "in") = false) (p : (x == Str.ofString "++") = false) : joinedF x k1 k2 = comparedF x k1 k2 := by
  unfold joinedF inL; rw [if_neg (by rw [h]; decide), if_neg (by rw [e]; decide), if_neg (by rw [l]; decide), if_neg (by rw [t]; decide), if_neg (by rw [i]; decide), if_neg (by rw [p]; decide)]
theorem iff2 {a b : Bool} {k : Kd} {o : Option Kd} (e : o = if a && b then some k else none) (h1 : a = true) (h2 : b = true) : o = some k := by rw [e, h1, h2]; rfl
theorem iff3 {a b : Bool} {k : Kd} {o : Option Kd} (e : o = if a && b then some k else none) (h1 : a = false) : o = none := by rw [e, h1]; rfl
theorem iff4 {a b : Bool} {k : Kd} {o : Option Kd} (e : o = if a && b then some k else none) (h1 : b = false) : o = none := by rw [e, h1, Bool.and_false]; rfl
theorem su1a {o : Option Kd} (e : o = some (if inL x suS then ⟨.bool, false, 0⟩ else setK)) (h : (Str.ofString "subset" == x) = true) : o = some ⟨.bool, false, 0⟩ := by rw [e]; unfold inL suS; rw [if_pos (by rw [List.any_cons, h]; rfl)]
theorem su1b {o : Option Kd} (e : o = some (if inL x suS then ⟨.bool, false, 0⟩ else setK)) (h : (Str.ofString "superset" == x) = true) : o = some ⟨.bool, false, 0⟩ := by rw [e]; unfold inL suS; rw [if_pos (by rw [List.any_cons, List.any_cons, h]; simp)]
theorem su2b {o : Option Kd} (e : o = some (if inL x suS then ⟨.bool, false, 0⟩ else setK)) (h0 : (Str.ofString "subset" == x) = false) (h : (Str.ofString "superset" == x) = false) : o = some setK := by rw [e]; unfold inL suS; rw [if_neg (by rw [List.any_cons, List.any_cons, h0, h, List.any_nil]; decide)]
theorem su1 {o : Option Kd} (e : o = some (if inL x suS then ⟨.bool, false, 0⟩ else setK)) (h : (suS.any fun y => y == x) = true) : o = some ⟨.bool, false, 0⟩ := by rw [e]; unfold inL; rw [if_pos h]
theorem su2 {o : Option Kd} (e : o = some (if inL x suS then ⟨.bool, false, 0⟩ else setK)) (h : (suS.any fun y => y == x) = false) : o = some setK := by rw [e]; unfold inL; rw [if_neg (by rw [h]; decide)]
end
theorem kdc_pass {w : World} {news tl : List (Addr × Obj)} {h₀ h' : Heap} {L D : Addr} {m : Str → Option Value} {k : Kd} {FF : Option Kd} {Q : Value → Shared → Prop} {s : Shared} {tk : Nat}
    (hret : ∀ r tl h' tk', Fr h₀ L h' m → News h₀ L h' (tl ++ news) → (∀ q ∈ news, ∀ p ∈ tl, q.1 < p.1) → (∃ k, FF = some k ∧ ∃ a, r = .ref a ∧ KdIn (kk.heap_1 w.params) (tl ++ news) a k) → Q r { s with heap := h', toks := tk' })
    (F : Fr h₀ L h' m) (N : News h₀ L h' (tl ++ news)) (hl : ∀ q ∈ news, ∀ p ∈ tl, q.1 < p.1) (x : KdIn (kk.heap_1 w.params) (tl ++ news) D k) (e : FF = some k) : Q (.ref D) { s with heap := h', toks := tk } :=
  hret _ tl _ _ F N hl ⟨k, e, D, rfl, x⟩
theorem joined_ct (w : World) (news : List (Addr × Obj)) (mk dmk a1 a2 : Addr) (t1 t2 t3 t4 t5 t6 : Tok) (v1 v2 v3 v4 v5 v6 : Value) (k1 k2 : Kd) (x : Str) (tx : Tok) (sp : Int) (ts : Tok) (hm : (mk, mkO dmk) ∈ news) (hmd : (dmk, mkD w t1 t2 t3 t4 t5 t6 v1 v2 v3 v4 v5 v6) ∈ news)
    (h1 : KdIn (kk.heap_1 w.params) news a1 k1) (h2 : KdIn (kk.heap_1 w.params) news a2 k2) (hd1 : 0 ≤ k1.d ∧ k1.d ≤ 2) (hd2 : 0 ≤ k2.d ∧ k2.d ≤ 2) (hx : x.length ≤ 1000) :
    KdC w 80 800 308 [.ref mk, .str x tx, .ref a1, .ref a2, .int sp ts] news (joinedF x k1 k2) sp := by
  intro p loose mean mg mb dp un gd cn cs a ccd cl outer A₀ base h₀ L m s Q E B F X N T hk hdp hun hret hbad
  have hi := int_kd w news
  have hb := bool_kd w news
  have hn := known_kd w news
  have hs := set_kd w news
  refine wpAny_call ?_
  k_dflt ktr_enter
  k_steps
  all_goals first
  | (refine' hbad _ _ _ _ _ _ _ _ _ _ _ _ ?kE ?k1 ?k2 ?k3; (case kE => first
      | exact jA1 (by assumption) (by assumption) | exact jA2 (by assumption) (by assumption)
      | exact iff3 (jB0 (by assumption) (by assumption)) (by assumption) | exact iff4 (jB0 (by assumption) (by assumption)) (by assumption)
      | exact iff3 (jC0 (by assumption) (by assumption) (by assumption)) (by assumption) | exact iff4 (jC0 (by assumption) (by assumption) (by assumption)) (by assumption)
      | exact iff3 (jD0 (by assumption) (by assumption) (by assumption) (by assumption)) (by assumption) | exact iff4 (jD0 (by assumption) (by assumption) (by assumption) (by assumption)) (by assumption)
      | exact iff3 (jE0 (by assumption) (by assumption) (by assumption) (by assumption) (by assumption)) (by assumption) | exact iff4 (jE0 (by assumption) (by assumption) (by assumption) (by assumption) (by assumption)) (by assumption)
      | exact (jF0 (by assumption) (by assumption) (by assumption) (by assumption) (by assumption) (by assumption)).trans (by assumption)
      | exact (jG0 (by assumption) (by assumption) (by assumption) (by assumption) (by assumption) (by assumption)).trans (by assumption)); (case k2 => (refine' raisedD_drop ?kr ?ks; (case kr => with_reducible assumption); (case ks => ktd_sub))); (case k1 => k_asm); (case k3 => assumption))
  | (refine' kdc_pass hret ?kF ?kN ?kA ?kB ?kE; (case kF => k_asm); (case kN => with_reducible assumption); (case kA => with_reducible assumption); (case kB => with_reducible assumption); (case kE => first
      | exact (jF0 (by assumption) (by assumption) (by assumption) (by assumption) (by assumption) (by assumption)).trans (by assumption)
      | exact (jG0 (by assumption) (by assumption) (by assumption) (by assumption) (by assumption) (by assumption)).trans (by assumption)))
  | (refine' kdc_old hret ?kF ?kN ?kS ?kX ?kE; (case kX => with_reducible exact hs); (case kF => k_asm); (case kN => k_asm); (case kS => ktd_sub); (case kE => exact su2b (iff2 (jD0 (by assumption) (by assumption) (by assumption) (by assumption)) (by assumption) (by assumption)) (by assumption) (by assumption)))
  | (refine' kdc_end hret ?kF ?kN ?kS ?kA ?kB ?kE ?e1 ?e2 ?e3; (case kF => k_asm); (case kN => k_asm); (case kS => ktd_sub); (case kA => with_reducible assumption); (case kB => ktd_sub); (case kE => first
      | exact jA (by assumption) (by assumption) (by assumption)
      | exact iff2 (jB0 (by assumption) (by assumption)) (by assumption) (by assumption)
      | exact iff2 (jC0 (by assumption) (by assumption) (by assumption)) (by assumption) (by assumption)
      | exact su1a (iff2 (jD0 (by assumption) (by assumption) (by assumption) (by assumption)) (by assumption) (by assumption)) (by assumption)
      | exact su1b (iff2 (jD0 (by assumption) (by assumption) (by assumption) (by assumption)) (by assumption) (by assumption)) (by assumption)
      | exact iff2 (jE0 (by assumption) (by assumption) (by assumption) (by assumption) (by assumption)) (by assumption) (by assumption)); (case e1 => exact rfl); (case e2 => exact rfl); (case e3 => exact rfl))
  | trace_state
end
section
local macro_rules | `(tactic| walk_at "compareOp Eq ref ref") => `(tactic| (k_here; (with_reducible show wpAny _ _ (compareOp CmpOp.Eq (Value.ref _) (Value.ref _)) _ _ _); k_dflt (refine' eq_kd (KdIn.mono ?kx ?kmx) (KdIn.mono ?ky ?kmy) ?k1 ?k2 ?k3 ?k4 ?_; (case kx | ky => with_reducible assumption); (case k3 | k1 | k2 => k_asm); (case kmx | kmy => ktd_sub); (case k4 => ktr_units))))
theorem bool_end {b c : Bool} {news nn : List (Addr × Obj)} {h₀ h' : Heap} {L : Addr} {m : Str → Option Value} {Q : Value → Shared → Prop} {s : Shared} {tk : Nat}
    (hret : ∀ r tl h' tk', Fr h₀ L h' m → News h₀ L h' (tl ++ news) → (∀ q ∈ news, ∀ p ∈ tl, q.1 < p.1) → (r = .bool c ∧ tl = []) → Q r { s with heap := h', toks := tk' })
    (F : Fr h₀ L h' m) (N : News h₀ L h' nn) (hs : ∀ p ∈ news, p ∈ nn) (e : b = c) : Q (.bool b) { s with heap := h', toks := tk } :=
  hret _ [] _ _ F (cb_drop N hs) ktn_ord0 ⟨congrArg Value.bool e, rfl⟩
theorem eqb_self (b : Bs) : b.eqb b = true := by cases b <;> rfl
theorem kd_self {k : Kd} : (k.b.eqb k.b && (k.v == k.v && k.d == k.d)) = true := by rw [eqb_self]; simp
theorem due_kd (w : World) (news : List (Addr × Obj)) (a1 a2 : Addr) (k : Kd) (v : Value) (h1 : KdIn (kk.heap_1 w.params) news a1 k) (h2 : KdIn (kk.heap_1 w.params) news a2 k) :
    CallC w 20 200 569 [.ref a1, .ref a2, v] news (fun r tl => r = .bool true ∧ tl = []) False 0 := by
  intro p loose mean mg mb dp un gd cn cs a ccd cl outer A₀ base h₀ L m s Q E B F X N T hk hdp hun hret hbad
  refine wpAny_call ?_
  k_dflt ktr_enter
  k_steps
  all_goals (refine' bool_end hret ?kF ?kN ?kS ?kE; (case kF => k_asm); (case kN => k_asm); (case kS => ktd_sub); (case kE => first | exact kd_self | exact beq_self_eq_true _))
theorem due_none (w : World) (news : List (Addr × Obj)) (i : Int) (t1 t2 : Tok) :
    CallC w 20 200 569 [.int i t1, .none, .int i t2] news (fun r tl => r = .bool true ∧ tl = []) False 0 := by
  intro p loose mean mg mb dp un gd cn cs a ccd cl outer A₀ base h₀ L m s Q E B F X N T hk hdp hun hret hbad
  refine wpAny_call ?_
  k_dflt ktr_enter
  k_steps
  all_goals (refine' bool_end hret ?kF ?kN ?kS ?kE; (case kF => k_asm); (case kN => k_asm); (case kS => ktd_sub); (case kE => first | exact kd_self | exact beq_self_eq_true _))
end
section
noncomputable def IsFeed (w : World) (cl : Addr) (n : Int) (o : Obj) : Prop := ∃ tn, o.IsDictOf (strKind P0 w) [(Str.ofString "cells", .ref cl), (Str.ofString "place", .int n tn)]
local macro_rules | `(tactic| k_all) => `(tactic| with_reducible assumption)
theorem ints_at : ∀ {vs : List Value} {ns : List Int} (i : Nat), IntsAre vs ns → i < vs.length → ∃ z t, vs[i]? = some (.int z t)
  | _, _, 0, .cons n t _, _ => ⟨n, t, rfl⟩
  | _, _, i + 1, .cons _ _ r, h => by
    obtain ⟨z, t, e⟩ := ints_at i r (Nat.lt_of_succ_lt_succ h)
    exact ⟨z, t, by simpa using e⟩
theorem cell_item {prog : Program} {w : World} {A : Around} {E : Value → Shared → Prop} {s : Shared} {value slice : PySem.Expr} {l : Addr} {its : Array Value} {ns : List Int} {k : Int} {u : Tok} {Q : Value → Shared → Prop} (hl : s.heap.IsList l its) (hi : IntsAre its.toList ns) (h0 : 0 ≤ k) (hs : its.size ≤ 60) (hlt : k < its.size) (h : ∀ z t, Q (.int z t) s)
    (hsub : subscripted slice false (.ref l) (.int k u) = operate [.ref l, .int k u] (getItem (.ref l) (.int k u)) := by with_unfolding_all rfl) (hg : ∀ r, letTemporaryGo value (.ref l) r = pure () := by intro _; with_unfolding_all rfl) :
    wpAny (model prog w) A (subscriptTail value slice (.ref l) (.int k u)) Q E s := by
  obtain ⟨z, t, e⟩ := ints_at k.toNat hi (by rw [Array.length_toList]; omega)
  exact item_list hl h0 (by omega) (by rw [← Array.getElem?_toList]; exact e) (h z t) hsub hg
local macro_rules | `(tactic| walk_at "call builtin:len") => `(tactic| (k_here; (with_reducible show wpAny _ _ (call (Value.builtin "len") [Value.ref _]) _ _ _); k_dflt (refine' len_list ?k1 ?k2 ?_; (case k1 => (refine News.isList (by k_asm) (by k_mem))); (case k2 => (exact Int.lt_of_le_of_lt (Int.ofNat_le.mpr (by assumption)) (by decide : ((60 : Nat) : Int) < 2 ^ 63))))))
local macro_rules | `(tactic| walk_at "subscriptTail") => `(tactic| (k_here; (with_reducible show wpAny _ _ (subscriptTail _ _ (Value.ref _) (Value.int _ _)) _ _ _); k_dflt (refine' cell_item ?k1 ?k2 ?k3 ?k4 ?k5 ?_ ?k6 ?k7; (case k1 => (refine News.isList (by k_asm) (by k_mem))); (case k2 | k3 | k4 | k5 => assumption); (case k6 => with_unfolding_all rfl); (case k7 => (intro _; with_unfolding_all rfl))); intro z' t'))
theorem dip_end {w : World} {rest nn : List (Addr × Obj)} {fd cl : Addr} {o' : Obj} {n many z : Int} {t tn' : Tok} {h₀ h' : Heap} {L : Addr} {m : Str → Option Value} {Q : Value → Shared → Prop} {s : Shared} {tk : Nat}
    (hret : ∀ r t o' h' tk', 0 ≤ r → r < many → IsFeed w cl (n + 1) o' → Fr h₀ L h' m → News h₀ L h' ((fd, o') :: rest) → Q (.int r t) { s with heap := h', toks := tk' })
    (hm : 0 < many ∧ many ≤ 100) (F : Fr h₀ L h' m) (N : News h₀ L h' nn) (hs : ∀ p ∈ ((fd, o') :: rest), p ∈ nn) (hd : o'.IsDictOf (strKind P0 w) [(Str.ofString "cells", .ref cl), (Str.ofString "place", .int (n + 1) tn')]) : Q (.int (z.fmod many) t) { s with heap := h', toks := tk } :=
  hret _ t o' h' tk (Int.fmod_nonneg_of_pos _ hm.1) (Int.fmod_lt_of_pos _ hm.1) ⟨tn', hd⟩ F (cb_drop N hs)
theorem dip_ct (w : World) (rest : List (Addr × Obj)) (fd cl : Addr) (o : Obj) (tn tm : Tok) (n many : Int) (its : Array Value) (ns : List Int) (c : Nat) (hm : 0 < many ∧ many ≤ 100) (hn : 0 ≤ n ∧ n ≤ 1000000) (ho : o.IsDictOf (strKind P0 w) [(Str.ofString "cells", .ref cl), (Str.ofString "place", .int n tn)]) (hcl : (cl, listOf its c) ∈ rest) (hits : IntsAre its.toList ns) (hsz : its.size ≤ 60) (hne : ∀ p ∈ rest, p.1 ≠ fd)
    (p : Program) (loose : List Str) (mean : ExcName → Option Value) (mg mb : Str → Option Value) (dp un : Nat) (gd : Option (List Code)) (cn : Str) (cs : Scope) (a : Addr) (ccd : Value) (cll : List (Str × Addr)) (outer : List Env) (A₀ : Around) (base h₀ : Heap) (L : Addr) (m : Str → Option Value) (s : Shared) (Q E : Value → Shared → Prop)
    (B : Below A₀ base outer h₀) (F : Fr h₀ L s.heap m) (X : (kk.heap_1 w.params).In h₀) (N : News h₀ L s.heap ((fd, o) :: rest)) (T : Top p loose mean mg mb h₀) (hk : cs.kind = .function) (hdp : dp + 20 < recursionLimit) (hun : un + 200 < cLine)
    (hret : ∀ r t o' h' tk', 0 ≤ r → r < many → IsFeed w cl (n + 1) o' → Fr h₀ L h' m → News h₀ L h' ((fd, o') :: rest) → Q (.int r t) { s with heap := h', toks := tk' }) :
    wpAny (model P0 w) (ktrTop dp un gd cn cs L a ccd cll outer) (call (.ref 536) [.ref fd, .int many tm]) Q E s := by
  have hn0 := hn.1
  have hm0 : many ≠ 0 := by omega
  refine wpAny_call ?_
  k_dflt ktr_enter
  k_steps
  all_goals (refine' dip_end hret hm ?kF ?kN ?kS ?kD; (case kD => assumption); (case kF => k_asm); (case kN => k_asm); (case kS => ktd_sub))
end
section
local macro_rules | `(tactic| walk_at "call ref") => `(tactic| (k_here; (with_reducible show wpAny _ _ (call (Value.ref 308) _) _ _ _); k_dflt (refine' KdC.use (joined_ct _ _ _ _ _ _ _ _ _ _ _ _ _ _ _ _ _ _ _ _ _ _ _ _ ?hm ?hd ?h1 ?h2 ?d1 ?d2 ?d3) ?k1 ?k2 ?k3 ?k4 ?k5 ?k6 ?k7 ?k8 ?_ ?_; (case hm | hd | h1 | h2 | d1 | d2 | d3 => with_reducible assumption); (case k1 | k2 | k3 => k_asm); (case k4 => (refine' cb_drop ?kN ?kS; (case kN => k_asm); (case kS => ktd_sub))); (case k5 => k_asm); (case k6 => first | exact rfl | assumption); (case k7 => ktr_room); (case k8 => ktr_units))))
local macro_rules | `(tactic| walk_at "noteFrame ref") => `(tactic| (k_here; k_dflt (refine' caughtD ?kR ?kF ?kK ?ku ?kXB ?kTB ?kex ?kq ?_ ?l1 ?l2 ?l3 ?l4; (case kR => assumption); (case kF | kK => k_asm); (case ku | kXB | kTB => assumption); (case kex => k_is); (case kq => kts_isx); (case l1 | l2 | l3 => exact rfl); (case l4 => decide)); intro h' g' tk' oe' ws' T' F' ec' ed' eo' N' K' X' P'))
theorem exc_spot {prog : Program} {w : World} {A : Around} {E : Value → Shared → Prop} {s : Shared} {K : Frag} {h₀ : Heap} {L e dx : Addr} {m : Str → Option Value} {rest : List (Addr × Obj)} {oe : Obj} {ws : Array Value} {k1 : Tok} {kv : Value} {k2 ts : Tok} {sp : Int} {n : Nat} {expr : Bool} {Q : Value → Shared → Prop}
    (F : Fr h₀ L s.heap m) (X : K.In h₀) (N : News h₀ L s.heap ((e, oe) :: (dx, spotD w k1 kv k2 sp ts n) :: rest)) (hc : oe.cls = .ref 88) (hd : oe.dict = some dx) (ho : oe.data = .fields ws)
    (hga : findIn K (.ref 88) "__getattribute__" = some (some (.builtin "BaseException.__getattribute__"))) (hgh : findIn K (.ref 88) "__getattr__" = some none) (hb : mroIn K 88 (.type "BaseException") = some true)
    (hh : hasDictIn K 88 = true) (ha : findIn K (.ref 88) (Str.ofString "spot") = some none) (h : Q (.int sp ts) { s with toks := s.toks + 1 }) : wpAny (model prog w) A (getAttr (.ref e) (Str.ofString "spot") expr) Q E s := by
  have he := (N (e, oe) (.head _)).1
  have hx := (N (dx, spotD w k1 kv k2 sp ts n) (.tail _ (.head _))).1
  refine exc_get (X.keeps F.keep) (ox := oe) (od := spotD w k1 kv k2 sp ts n) ⟨he, hc, ?_, ?_⟩ hga hgh hb hh ha ?_ ?_ ?_ h
  · obtain ⟨c, d, dt, sl⟩ := oe
    dsimp only at ho
    subst ho
    rfl
  · rw [hd]; exact hx
  · rfl
  · rfl
  · rfl
local macro_rules | `(tactic| walk_at "getAttr ref") => `(tactic| (k_here; k_dflt (refine' exc_spot ?k1 ?k2 ?k3 ?k4 ?k5 ?k6 ?k7 ?k8 ?k9 ?ka ?kb ?_; (case k1 | k2 => k_asm); (case k3 => with_reducible assumption); (case k4 | k5 | k6 => assumption); (case k7 | k8 | k9 | ka | kb => k_is))))
theorem told_ct (w : World) (news : List (Addr × Obj)) (mk dmk a1 a2 : Addr) (t1 t2 t3 t4 t5 t6 : Tok) (v1 v2 v3 v4 v5 v6 : Value) (k1 k2 : Kd) (x : Str) (tx : Tok) (sp : Int) (ts : Tok) (hm : (mk, mkO dmk) ∈ news) (hmd : (dmk, mkD w t1 t2 t3 t4 t5 t6 v1 v2 v3 v4 v5 v6) ∈ news)
    (h1 : KdIn (kk.heap_1 w.params) news a1 k1) (h2 : KdIn (kk.heap_1 w.params) news a2 k2) (hd1 : 0 ≤ k1.d ∧ k1.d ≤ 2) (hd2 : 0 ≤ k2.d ∧ k2.d ≤ 2) (hx : x.length ≤ 1000)
    (p : Program) (loose : List Str) (mean : ExcName → Option Value) (mg mb : Str → Option Value) (dp un : Nat) (gd : Option (List Code)) (cn : Str) (cs : Scope) (a : Addr) (ccd : Value) (A₀ : Around) (base h₀ : Heap) (L : Addr) (m : Str → Option Value) (s : Shared) (Q E : Value → Shared → Prop)
    (B : Below A₀ base [] h₀) (F : Fr h₀ L s.heap m) (X : (kk.heap_1 w.params).In h₀) (XB : (kk.heap_1 w.params).In base) (N : News h₀ L s.heap news) (T : Top p loose mean mg mb h₀) (TB : Top p loose mean mg mb base) (hk : cs.kind = .function) (hdp : dp + 120 < recursionLimit) (hun : un + 1200 < cLine)
    (hret : ∀ k D tl h' tk', joinedF x k1 k2 = some k → Fr h₀ L h' m → News h₀ L h' (tl ++ news) → (∀ q ∈ news, ∀ p ∈ tl, q.1 < p.1) → KdIn (kk.heap_1 w.params) (tl ++ news) D k → Q (.ref D) { s with heap := h', toks := tk' })
    (hbad : ∀ t h' tk', joinedF x k1 k2 = none → Fr h₀ L h' m → News h₀ L h' news → Q (.int sp t) { s with heap := h', toks := tk' }) :
    wpAny (model P0 w) (ktrTop dp un gd cn cs L a ccd [] []) (call (.ref 562) [.ref mk, .str x tx, .ref a1, .ref a2, .int sp ts]) Q E s := by
  refine wpAny_call ?_
  k_dflt (refine' code_defS0 ?k1 ?k2 ?k3 ?k4 ?k5 ?kA ?k6 ?k7 ?k8 ?k9 ?kB ?_ ?kK ?c2 ?c3 ?c4 ?c5; (case kA => exact rfl); (case kK => assumption); (case k1 => k_asm); (case k2 => k_asm); (case k3 => k_asm); (case k4 => k_asm); (case k5 => k_asm); (case k6 => k_is); (case k7 => k_is); (case k8 => ktr_room); (case k9 => exact BindsTo.of_eq rfl); (case c5 => decide); (case kB => exact locs rfl); (case c2 => exact rfl); (case c3 => exact rfl); (case c4 => exact rfl); k_whole; intro g' L' h' FG' F' N' B' X' T' D'; (try dsimp only); (try k_fold))
  k_steps
  · (refine' hret _ _ _ _ _ ?k1 ?k2 ?k3 ?k4 ?k5; (case k1 => assumption); (case k2 => k_asm); (case k3 => with_reducible assumption); (case k4 => with_reducible assumption); (case k5 => with_reducible assumption))
  · (refine' hbad _ _ _ ?k1 ?k2 (cb_drop ?k3 ?k4); (case k1 => assumption); (case k2 => k_asm); (case k3 => k_asm); (case k4 => ktd_sub))
end
section
local macro_rules | `(tactic| walk_at "eval Dict") => `(tactic| (k_here; k_dflt (refine' kdn_str ?q ?F ?N ?b ?a ?l ?e ?n ?_; (case q => rfl); (case F => k_asm); (case N => first | k_asm | exact News.nil); (case b => exact Top.nolimit (by k_asm)); (case a | l => rfl); (case e => exact List.cons_ne_nil _ _); (case n => exact Nat.le_of_ble_eq_true rfl)); intro d' h' o' F' N' l1 lo' hd'; (try k_lt l1)))
local macro_rules | `(tactic| walk_at "newTuple") => `(tactic| (k_here; k_dflt (refine' kup_newTuple ?F ?N ?_ ?z; (case F | N => k_asm); (case z => kmk_size)); intro D' h' F' N' l1; (try k_lt l1)))
noncomputable abbrev tupS (l : List Value) : Obj := { cls := .type "tuple", data := .seq l.toArray }
noncomputable def StT (news : List (Addr × Obj)) (T : Addr) (b : Bs) : Prop := match b with
  | .none => ∃ u0 u1 u2 u3 u4, (T, tupS [.str (Str.ofString "none") u0, .str (Str.ofString "bool") u1, .str (Str.ofString "int") u2, .str (Str.ofString "str") u3, .str (Str.ofString "set") u4]) ∈ news
  | .bool => ∃ u0 u1, (T, tupS [.str (Str.ofString "bool") u0, .str (Str.ofString "int") u1]) ∈ news
  | .int => ∃ u0, (T, tupS [.str (Str.ofString "int") u0]) ∈ news
  | .str => ∃ u0, (T, tupS [.str (Str.ofString "str") u0]) ∈ news
  | .set => ∃ u0, (T, tupS [.str (Str.ofString "set") u0]) ∈ news
noncomputable def StD (w : World) (news : List (Addr × Obj)) (d : Addr) : Prop := ∃ o T0 T1 T2 T3 T4, o.IsDictOf (strKind P0 w) [(Str.ofString "none", .ref T0), (Str.ofString "bool", .ref T1), (Str.ofString "int", .ref T2), (Str.ofString "str", .ref T3), (Str.ofString "set", .ref T4)] ∧ (d, o) ∈ news ∧ StT news T0 .none ∧ StT news T1 .bool ∧ StT news T2 .int ∧ StT news T3 .str ∧ StT news T4 .set
theorem stands_ct (w : World) (news : List (Addr × Obj)) (p : Program) (loose : List Str) (mean : ExcName → Option Value) (mg mb : Str → Option Value) (dp un : Nat) (gd : Option (List Code)) (cn : Str) (cs : Scope) (a : Addr) (ccd : Value) (cl : List (Str × Addr)) (outer : List Env) (A₀ : Around) (base h₀ : Heap) (L : Addr) (m : Str → Option Value) (s : Shared) (Q E : Value → Shared → Prop)
    (B : Below A₀ base outer h₀) (F : Fr h₀ L s.heap m) (X : (kk.heap_1 w.params).In h₀) (N : News h₀ L s.heap news) (T : Top p loose mean mg mb h₀) (hk : cs.kind = .function) (hdp : dp + 10 < recursionLimit) (hun : un + 100 < cLine)
    (hret : ∀ d tl h' tk', Fr h₀ L h' m → News h₀ L h' (tl ++ news) → StD w (tl ++ news) d → Q (.ref d) { s with heap := h', toks := tk' }) :
    wpAny (model P0 w) (ktrTop dp un gd cn cs L a ccd cl outer) (call (.ref 529) []) Q E s := by
  refine wpAny_call ?_
  k_dflt ktr_enter
  k_steps
  refine' hret _ [_, _, _, _, _, _] _ _ ?k1 ?k2 ⟨_, _, _, _, _, _, ?k3, ?k4, ⟨_, _, _, _, _, ?k5⟩, ⟨_, _, ?k6⟩, ⟨_, ?k7⟩, ⟨_, ?k8⟩, ⟨_, ?k9⟩⟩
  (case k1 => k_asm)
  (case k2 => k_asm)
  (case k3 => assumption)
  (case k4 => k_mem)
  (case k5 => k_mem)
  (case k6 => k_mem)
  (case k7 => k_mem)
  (case k8 => k_mem)
  (case k9 => k_mem)
end
section
noncomputable def standsB : Bs → Bs → Bool
  | .none, _ => true
  | .bool, .bool => true
  | .bool, .int => true
  | .int, .int => true
  | .str, .str => true
  | .set, .set => true
  | _, _ => false
noncomputable def isF (k : Kd) (c : Bs) (vr : Bool) : Bool := k.d == 0 && (standsB k.b c && (vr || !k.v))
noncomputable def standsL : Bs → List Bs
  | .none => [.none, .bool, .int, .str, .set]
  | .bool => [.bool, .int]
  | .int => [.int]
  | .str => [.str]
  | .set => [.set]
theorem StT.mono {news news' : List (Addr × Obj)} {T : Addr} {b : Bs} (x : StT news T b) (h : ∀ p ∈ news, p ∈ news') : StT news' T b := by
  cases b
  all_goals (unfold StT at x ⊢; simp only at x ⊢)
  · obtain ⟨a, x⟩ := x; exact ⟨a, h _ x⟩
  · obtain ⟨a, b, x⟩ := x; exact ⟨a, b, h _ x⟩
  · obtain ⟨a, x⟩ := x; exact ⟨a, h _ x⟩
  · obtain ⟨a, x⟩ := x; exact ⟨a, h _ x⟩
  · obtain ⟨a, b, c, d, e, x⟩ := x; exact ⟨a, b, c, d, e, h _ x⟩
theorem std_item {w : World} {A : Around} {E : Value → Shared → Prop} {s : Shared} {h₀ : Heap} {L : Addr} {news : List (Addr × Obj)} {value slice : PySem.Expr} {d : Addr} {b : Bs} {t : Tok} {Q : Value → Shared → Prop} (x : StD w news d) (N : News h₀ L s.heap news) (h : ∀ T, StT news T b → Q (.ref T) { s with toks := s.toks + 1 })
    (hs : subscripted slice false (.ref d) (.str b.s t) = operate [.ref d, .str b.s t] (getItem (.ref d) (.str b.s t)) := by with_unfolding_all rfl) (hg : ∀ r, letTemporaryGo value (.ref d) r = pure () := by intro _; with_unfolding_all rfl) :
    wpAny (model P0 w) A (subscriptTail value slice (.ref d) (.str b.s t)) Q E s := by
  obtain ⟨o, T0, T1, T2, T3, T4, hd, hm, x0, x1, x2, x3, x4⟩ := x
  cases b
  · exact kda_item N hm hd (strKind_is _ _ _ _) (by with_unfolding_all rfl) (h T2 x2) hs hg
  · exact kda_item N hm hd (strKind_is _ _ _ _) (by with_unfolding_all rfl) (h T1 x1) hs hg
  · exact kda_item N hm hd (strKind_is _ _ _ _) (by with_unfolding_all rfl) (h T3 x3) hs hg
  · exact kda_item N hm hd (strKind_is _ _ _ _) (by with_unfolding_all rfl) (h T4 x4) hs hg
  · exact kda_item N hm hd (strKind_is _ _ _ _) (by with_unfolding_all rfl) (h T0 x0) hs hg
theorem StT.strs {h₀ h : Heap} {L : Addr} {news : List (Addr × Obj)} {T : Addr} {b : Bs} (x : StT news T b) (N : News h₀ L h news) : ∃ l, IsTup h T l.toArray ∧ StrsAre l ((standsL b).map Bs.s) := by
  cases b
  all_goals (unfold StT at x; simp only at x)
  · obtain ⟨a, x⟩ := x; exact ⟨_, N.isTup x, .cons _ _ .nil⟩
  · obtain ⟨a, b, x⟩ := x; exact ⟨_, N.isTup x, .cons _ _ (.cons _ _ .nil)⟩
  · obtain ⟨a, x⟩ := x; exact ⟨_, N.isTup x, .cons _ _ .nil⟩
  · obtain ⟨a, x⟩ := x; exact ⟨_, N.isTup x, .cons _ _ .nil⟩
  · obtain ⟨a, b, c, d, e, x⟩ := x; exact ⟨_, N.isTup x, .cons _ _ (.cons _ _ (.cons _ _ (.cons _ _ (.cons _ _ .nil))))⟩
theorem stands_any (b c : Bs) : (((standsL b).map Bs.s).any (· == c.s)) = standsB b c := by cases b <;> cases c <;> rfl
theorem std_in {w : World} {A : Around} {E : Value → Shared → Prop} {s : Shared} {h₀ : Heap} {L : Addr} {news : List (Addr × Obj)} {T : Addr} {b c : Bs} {t : Tok} {Q : Value → Shared → Prop} (x : StT news T b) (N : News h₀ L s.heap news) (h : Q (.bool (standsB b c)) s) : wpAny (model P0 w) A (compareOp .In (.str c.s t) (.ref T)) Q E s := by
  obtain ⟨l, ht, hs⟩ := x.strs N
  refine in_tuple_strs ht (ys := (standsL b).map Bs.s) (by simpa using hs) ?_
  rw [stands_any]
  exact h
local macro_rules | `(tactic| walk_at "call ref") => `(tactic| (k_here; (with_reducible show wpAny _ _ (call (Value.ref 529) _) _ _ _); k_dflt (refine' stands_ct _ _ _ _ _ _ _ _ _ _ _ _ _ _ _ _ _ _ _ _ _ _ _ _ ?k1 ?k2 ?k3 ?k4 ?k5 ?k6 ?k7 ?k8 ?_; (case k1 | k2 | k3 | k4 | k5 => k_asm); (case k6 => first | exact rfl | assumption); (case k7 => ktr_room); (case k8 => ktr_units)); intro d' tl' h' tk' F' N' sd'))
local macro_rules | `(tactic| walk_at "subscriptTail") => `(tactic| (k_here; (with_reducible show wpAny _ _ (subscriptTail _ _ (Value.ref _) (Value.str (Bs.s _) _)) _ _ _); k_dflt (refine' std_item ?k1 ?k2 ?_ ?k3 ?k4; (case k1 => with_reducible assumption); (case k2 => k_asm); (case k3 => with_unfolding_all rfl); (case k4 => (intro _; with_unfolding_all rfl))); intro T' st'))
local macro_rules | `(tactic| walk_at "compareOp In str ref") => `(tactic| (k_here; (with_reducible show wpAny _ _ (compareOp CmpOp.In (Value.str (Bs.s _) _) (Value.ref _)) _ _ _); k_dflt (refine' std_in ?k1 ?k2 ?_; (case k1 => with_reducible assumption); (case k2 => k_asm))))
section
variable {k : Kd} {c : Bs} {vr : Bool}
theorem isA (h' : k.d ≠ 0) : (k.d == 0) = isF k c vr := by
  have h : (k.d == 0) = false := by simp [h']
  unfold isF; rw [h]; rfl
theorem isB (h : k.d = 0) (h2 : standsB k.b c = false) : standsB k.b c = isF k c vr := by
  have h : (k.d == 0) = true := by simp [h]
  unfold isF; rw [h, h2]; rfl
theorem isC (h : k.d = 0) (h2 : standsB k.b c = true) (h3 : vr = true) : vr = isF k c vr := by
  have h : (k.d == 0) = true := by simp [h]
  unfold isF; rw [h, h2, h3]; rfl
theorem isD (h : k.d = 0) (h2 : standsB k.b c = true) (h3 : vr = false) : (!k.v) = isF k c vr := by
  have h : (k.d == 0) = true := by simp [h]
  unfold isF; rw [h, h2, h3]; rfl
end
theorem is_ct (w : World) (news : List (Addr × Obj)) (a1 : Addr) (k : Kd) (c : Bs) (tc : Tok) (vr : Bool) (h1 : KdIn (kk.heap_1 w.params) news a1 k) :
    CallC w 40 400 543 [.ref a1, .str c.s tc, .bool vr] news (fun r tl => r = .bool (isF k c vr) ∧ tl = []) False 0 := by
  intro p loose mean mg mb dp un gd cn cs a ccd cl outer A₀ base h₀ L m s Q E B F X N T hk hdp hun hret hbad
  refine wpAny_call ?_
  k_dflt ktr_enter
  k_steps
  all_goals (refine' bool_end hret ?kF ?kN ?kS ?kE; (case kF => k_asm); (case kN => k_asm); (case kS => ktd_sub); (case kE => first | exact isC (by assumption) (by assumption) (by assumption) | exact isD (by assumption) (by assumption) (by assumption) | exact isB (by assumption) (by assumption) | exact isA (by assumption)))
end
local macro_rules | `(tactic| walk_at "eval Dict") => `(tactic| (k_here; k_dflt (refine' kdn_str ?q ?F ?N ?b ?a ?l ?e ?n ?_; (case q => rfl); (case F => k_asm); (case N => first | k_asm | exact News.nil); (case b => exact Top.nolimit (by k_asm)); (case a | l => rfl); (case e => exact List.cons_ne_nil _ _); (case n => exact Nat.le_of_ble_eq_true rfl)); intro d' h' o' F' N' l1 lo' hd'; (try k_lt l1)))
local macro_rules | `(tactic| walk_at "newTuple") => `(tactic| (k_here; k_dflt (refine' kup_newTuple ?F ?N ?_ ?z; (case F | N => k_asm); (case z => kmk_size)); intro D' h' F' N' l1; (try k_lt l1)))
local macro_rules | `(tactic| walk_at "call ref") => `(tactic| (k_here; (with_reducible show wpAny _ _ (call (Value.ref 529) _) _ _ _); k_dflt (refine' stands_ct _ _ _ _ _ _ _ _ _ _ _ _ _ _ _ _ _ _ _ _ _ _ _ _ ?k1 ?k2 ?k3 ?k4 ?k5 ?k6 ?k7 ?k8 ?_; (case k1 | k2 | k3 | k4 | k5 => k_asm); (case k6 => first | exact rfl | assumption); (case k7 => ktr_room); (case k8 => ktr_units)); intro d' tl' h' tk' F' N' sd'))
local macro_rules | `(tactic| walk_at "subscriptTail") => `(tactic| (k_here; (with_reducible show wpAny _ _ (subscriptTail _ _ (Value.ref _) (Value.str (Bs.s _) _)) _ _ _); k_dflt (refine' std_item ?k1 ?k2 ?_ ?k3 ?k4; (case k1 => with_reducible assumption); (case k2 => k_asm); (case k3 => with_unfolding_all rfl); (case k4 => (intro _; with_unfolding_all rfl))); intro T' st'))
local macro_rules | `(tactic| walk_at "compareOp In str ref") => `(tactic| (k_here; (with_reducible show wpAny _ _ (compareOp CmpOp.In (Value.str (Bs.s _) _) (Value.ref _)) _ _ _); k_dflt (refine' std_in ?k1 ?k2 ?_; (case k1 => with_reducible assumption); (case k2 => k_asm))))
section
open PySem PySem.W PyProof.Rows PySem.Spec PySem.Calls PySem.SeqAt
theorem strs_reads {h : Heap} : ∀ {l : List Value} {zs : List Str}, StrsAre l zs → ReadsAll h l (zs.map .str) []
  | _, _, .nil => .nil
  | _, _, .cons x t r => .cons (as := []) (.str x t) (strs_reads r)
theorem strs_depth : ∀ (zs : List Str), PyData.depthAll (zs.map .str) = 0
  | [] => rfl
  | _ :: r => by simp [PyData.depthAll, PyData.depth, strs_depth r]
theorem strs_can : ∀ (bs : List Bs), PyData.canLayAll0 ((bs.map Bs.s).map .str) = true
  | [] => rfl
  | b :: r => by
    have e := strs_can r
    rw [List.map_cons, List.map_cons, PyData.canLayAll0, e, Bool.and_true]
    simpa [PyData.canLay0] using s_ok b
theorem ne_nil {prog : Program} {w : World} {A : Around} {E : Value → Shared → Prop} {s : Shared} {D T : Addr} {l : List Value} {bs : List Bs} {Q : Value → Shared → Prop} (hD : s.heap.IsList D l.toArray) (hT : s.heap.IsList T #[]) (hs : StrsAre l (bs.map Bs.s)) (hu : A.units + 64 < cLine)
    (h : Q (.bool (!bs.isEmpty)) s) : wpAny (model prog w) A (compareOp .NotEq (.ref D) (.ref T)) Q E s := by
  obtain ⟨oa, ga, ca, na, da⟩ := hD
  obtain ⟨ob, gb, cb, nb, db⟩ := hT
  refine ne_dataH (reads_list_at ga ca da (by simpa using strs_reads hs)) (reads_list_at gb cb db .nil) ?_ (by simp [shaped, PyData.canLay0, PyData.canLayAll0, PyData.depth, PyData.depthAll]) hu ?_
  · have e1 := strs_can bs
    have e2 := strs_depth (bs.map Bs.s)
    simp only [shaped, PyData.canLay0, PyData.depth]
    refine Bool.and_eq_true_iff.mpr ⟨by first | exact e1 | simpa using e1, decide_eq_true ?_⟩
    have e3 : PyData.depthAll (List.map (PyData.str ∘ Bs.s) bs) = 0 := by rw [← List.map_map]; exact strs_depth _
    first | (rw [e3]; decide) | (simp only [List.map_map]; rw [e3]; decide)
  · cases bs with
    | nil => simpa [PyData.eqv, PyData.eqvAll] using h
    | cons b r => simpa [PyData.eqv, PyData.eqvAll] using h
end
section
open PySem PySem.Spec PySem.Calls PyProof.Rows PyProof.Rows.LCt PyProof.Rows.LCg
noncomputable def SrcTp (h₀ : Heap) (ax : Addr) (its : Array Value) (news : List (Addr × Obj)) : Prop := h₀.IsTuple ax its ∨ ∃ o, (ax, o) ∈ news ∧ o.cls = .type "tuple" ∧ ∃ n, o.data = .seq its n
theorem SrcTp.at {h₀ h : Heap} {L ax : Addr} {its : Array Value} {news : List (Addr × Obj)} (x : SrcTp h₀ ax its news) (k : ∀ b o, h₀.get? b = some o → h.get? b = some o) (N : News h₀ L h news) : h.IsTuple ax its := by
  rcases x with ⟨o, e, c, n, d⟩ | ⟨o, hm, c, n, d⟩
  · exact ⟨o, k _ _ e, c, n, d⟩
  · exact ⟨o, (N _ hm).1, c, n, d⟩
noncomputable def TupSrc (prog : Program) (w : World) (A : Around) (h₀ : Heap) (L : Addr) (m : Str → Option Value) (env : Env) (ct elt : Expr) (x y : Str) (scope : Scope) (cl : List (Str × Addr)) (Q : Flow → Shared → Prop) (xv : Value) (s₁ : Shared) : Prop :=
  ∃ ax its news, xv = .ref ax ∧ A.handled = none ∧ Fr h₀ L s₁.heap m ∧ News h₀ L s₁.heap news ∧ SrcTp h₀ ax its news ∧ its.size ≤ sizeLine ∧
      ∀ s₂ : Shared, (∃ h, s₂ = { s₁ with heap := h }) → CompRestT prog w A h₀ L m env ct elt x scope cl s₂ (SrcTp h₀ ax its) (fun i v => its[i]? = some v) (FinA h₀ L m s₂ y Q) its.size 0 [] news
section
variable {prog : Program} {w : World} {A : Around} {E : Value → Shared → Prop} {s : Shared} {h₀ : Heap} {L : Addr} {m : Str → Option Value} {env : Env}
theorem tup_st {ax I : Addr} {its : Array Value} : ∀ i (h h' : Heap) (o : Obj) (nw : List (Addr × Obj)), (h.IsTupleIter I ax i ∧ h.IsTuple ax its) → h.get? I = some o → h'.get? I = some o → (∀ b o, h₀.get? b = some o → h'.get? b = some o) → News h₀ L h' nw → SrcTp h₀ ax its nw → (h'.IsTupleIter I ax i ∧ h'.IsTuple ax its) :=
  fun i h h' o nw st e e' k N S => ⟨by obtain ⟨o', q, r⟩ := st.1; rw [e] at q; cases q; exact ⟨o, e', r⟩, S.at k N⟩
theorem Assign_ListComp_tup {ct elt iter : Expr} {x y : Str} {px py : Pos} {scope : Scope} {cl : List (Str × Addr)} {pos spos : Pos} {Q : Flow → Shared → Prop} (_F₀ : Fr h₀ L s.heap m) (hLe : env.locals = L)
    (hsw : swapsWith (.ListComp elt [⟨.Name x px, iter, [ct], 0⟩] scope pos) (some (.Name y py)) spos.line env = pure true)
    (hclos : closureFor scope env = pure cl) (hcell : ∀ z ∈ scope.names, z.2 ≠ .cell) (hkind : scope.kind = .function)
    (hnames : ∀ z ∈ scope.names, z.2 = .local → scope.names.lookup z.1 = some .local) (hx : scope.names.lookup x = some .local)
    (hy : env.kindOf y = some .local) (hp : (env.scope.kind == .class || (env.scope.kind == .module && env.locals != env.globals)) = false)
    (h : wpAny (model prog w) A (eval iter env) (TupSrc prog w A h₀ L m env ct elt x y scope cl Q) E s)
    (hs : ∀ x, foldedSetIterable iter env x = pure x := by intro _; rfl) :
    wpAny (model prog w) A (exec (.Assign [.Name y py] (.ListComp elt [⟨.Name x px, iter, [ct], 0⟩] scope pos) spos) env) Q E s := by
  subst hLe
  rw [exec_Assign_Name_used _ _ _ _ hsw]
  refine wpAny_bind (wpAny_standAt (wpAny_bind ?_))
  show wpAny _ A (do let _ ← comprehension (.ListComp elt [⟨.Name x px, iter, [ct], 0⟩] scope pos) scope env _ (newList []) false (eval iter env) (some (assign (.Name y py) env))) _ _ s
  refine wpAny_bind (wpAny_mono (wpAny_comprehension_free (use := some (assign (.Name y py) env)) (Q := fun _ s' => Q .next s') rfl hs hclos hkind hnames
    (wpAny_mono h (fun xv s₁ h₁ => ?_) fun _ _ e => e)) (fun _ s' hq => wpAny_pure (wpAny_pure hq)) fun _ _ e => e)
  obtain ⟨ax, its, news, rfl, hh, F, N, S, hsz, R⟩ := h₁
  have hl := S.at F.keep N
  have hlt : ax < s₁.heap.objs.size := by obtain ⟨_, e, _⟩ := hl; exact Heap.lt_size e
  refine wpAny_pyIter_tuple hl ?_
  have up : ∀ b o, s₁.heap.get? b = some o → (s₁.heap.push { cls := .type "tuple_iterator", data := .fields #[.ref ax, .int 0 0] }).get? b = some o := fun b o e => Heap.get?_push_of_some _ e
  have hl' : (s₁.heap.push { cls := .type "tuple_iterator", data := .fields #[.ref ax, .int 0 0] }).IsTuple ax its := by
    obtain ⟨o, e, r⟩ := hl
    exact ⟨o, up _ _ e, r⟩
  refine block_T (Walks.tuple hh s₁.heap.objs.size ax (Nat.ne_of_lt hlt) its) hsz (fun i h st => by obtain ⟨o, e, _⟩ := st.1; exact ⟨o, e⟩) tup_st hcell hkind hx ⟨⟨_, Heap.get?_push_size _ rfl, rfl, rfl⟩, hl'⟩ (fun b hb => ?_)
    (F.keeps up) (N.grown up) (Nat.ne_of_lt F.ns.lt) (next_is_new F) (fun p hp => Nat.ne_of_lt (Heap.lt_size (N p hp).1)) S (R _ ⟨_, rfl⟩) ?_
  · show b < (s₁.heap.push _).objs.size
    rw [Heap.size_push]
    rcases List.mem_cons.mp hb with rfl | hb
    · exact Nat.lt_succ_self _
    · rw [List.mem_singleton.mp hb]; exact Nat.lt_succ_of_lt hlt
  · intro D C h' tk m' ys news' F' N' o1 hn hC₀ hD₀ hCL hDL hCD offC fin
    show wpAny _ A (assign (.Name y py) env (.ref D)) _ _ _
    refine wpAny_assign_Name (wpAny_storeName_local hy F'.ns (fun h₂ hn₂ hs₂ => ?_) hp)
    have hL₀ : h₀.get? env.locals = none := Heap.get?_none_of_le F'.above
    have F₂ : Fr h₀ env.locals h₂ (fun z => if z = y then some (.ref D) else m z) := ⟨hn₂, fun b o e => hs₂.extBut b o (fun q => by rw [q, hL₀] at e; cases e) (F'.keep b o e), F'.above⟩
    refine ⟨m', hn.sameBut hs₂ hCL, fun h'' hs'' => fin D h'' _ (F₂.change hs'' hCL hC₀) (fun p hp => ?_) o1⟩
    have z : h₂.get? p.1 = some p.2 := hs₂.extBut _ _ (N' p hp).2.1 (N' p hp).1
    refine ⟨hs''.extBut _ _ ?_ z, (N' p hp).2⟩
    rcases List.mem_cons.mp hp with rfl | hp
    · exact Ne.symm hCD
    · exact offC p hp
end
end
section
open PyProof.Rows.LCt PyProof.Rows.LCg
theorem StT.obj {news : List (Addr × Obj)} {T : Addr} {b : Bs} (x : StT news T b) : ∃ l, (T, tupS l) ∈ news ∧ StrsAre l ((standsL b).map Bs.s) := by
  cases b
  all_goals (unfold StT at x; simp only at x)
  · obtain ⟨a, x⟩ := x; exact ⟨_, x, .cons _ _ .nil⟩
  · obtain ⟨a, b, x⟩ := x; exact ⟨_, x, .cons _ _ (.cons _ _ .nil)⟩
  · obtain ⟨a, x⟩ := x; exact ⟨_, x, .cons _ _ .nil⟩
  · obtain ⟨a, x⟩ := x; exact ⟨_, x, .cons _ _ .nil⟩
  · obtain ⟨a, b, c, d, e, x⟩ := x; exact ⟨_, x, .cons _ _ (.cons _ _ (.cons _ _ (.cons _ _ (.cons _ _ .nil))))⟩
theorem mem_app {α : Type} {a : α} {t l : List α} (h : a ∈ l) : List.Mem a (t ++ l) := List.mem_append_right t h
local macro_rules | `(tactic| k_mem) => `(tactic| (refine mem_app ?_; k_mem))
local macro_rules | `(tactic| walk_at "exec Assign cons ListComp") => `(tactic| (k_here; k_dflt (refine Assign_ListComp_tup (by k_asm) (by rfl) (by with_unfolding_all rfl) (by with_unfolding_all rfl) (by decide) (by rfl) (by decide) (by rfl) (by rfl) (by rfl) ?_)))
theorem strs_item : ∀ {l : List Value} {cs : List Bs} {i : Nat} {v : Value}, StrsAre l (cs.map Bs.s) → l.toArray[i]? = some v → ∃ c t, v = .str (Bs.s c) t ∧ cs[i]? = some c := by
  intro l
  induction l with
  | nil => intro cs i v _ h; simp at h
  | cons a r ih =>
    intro cs i v hs h
    cases cs with
    | nil => cases hs
    | cons c cs =>
      cases hs with
      | cons _ t hr =>
        cases i with
        | zero =>
          have e : Value.str c.s t = v := by simpa using h
          exact ⟨c, t, e.symm, rfl⟩
        | succ i =>
          obtain ⟨c', t', e1, e2⟩ := ih (i := i) (v := v) hr (by simpa using h)
          exact ⟨c', t', e1, by simpa using e2⟩
theorem strs_snoc : ∀ {ys : List Value} {zs : List Str} {x : Str} {t : Tok}, StrsAre ys zs → StrsAre (ys ++ [.str x t]) (zs ++ [x])
  | _, _, _, _, .nil => .cons _ _ .nil
  | _, _, _, _, .cons _ _ r => .cons _ _ (strs_snoc r)
theorem take_yes {cs : List Bs} {i : Nat} {c : Bs} {f : Bs → Bool} {ys : List Value} {t : Tok} (h : cs[i]? = some c) (hf : f c = true) (hy : StrsAre ys (((cs.take i).filter f).map Bs.s)) : StrsAre (ys ++ [.str c.s t]) (((cs.take (i + 1)).filter f).map Bs.s) := by
  have e : cs.take (i + 1) = cs.take i ++ [c] := by rw [List.take_add_one, h]; rfl
  rw [e, List.filter_append, List.map_append]
  have e2 : [c].filter f = [c] := by simp [hf]
  rw [e2]
  exact strs_snoc hy
theorem take_no {cs : List Bs} {i : Nat} {c : Bs} {f : Bs → Bool} {ys : List Value} (h : cs[i]? = some c) (hf : f c = false) (hy : StrsAre ys (((cs.take i).filter f).map Bs.s)) : StrsAre ys (((cs.take (i + 1)).filter f).map Bs.s) := by
  have e : cs.take (i + 1) = cs.take i ++ [c] := by rw [List.take_add_one, h]; rfl
  rw [e, List.filter_append, List.map_append]
  have e2 : [c].filter f = [] := by simp [hf]
  rw [e2, List.map_nil, List.append_nil]
  exact hy
noncomputable def passL (k1 k2 : Kd) : List Bs := (standsL k1.b).filter (standsB k2.b)
noncomputable def optS : Option Bs → Str
  | some b => b.s
  | none => Str.ofString ""
noncomputable def sameB (k1 k2 : Kd) : Option Bs := if k1.d == k2.d then (passL k1 k2).head? else none
theorem first_item {prog : Program} {w : World} {A : Around} {E : Value → Shared → Prop} {s : Shared} {value slice : PySem.Expr} {D : Addr} {l : List Value} {bs : List Bs} {u : Tok} {Q : Value → Shared → Prop} (hD : s.heap.IsList D l.toArray) (hs : StrsAre l (bs.map Bs.s)) (hne : bs.isEmpty = false) {i : Int} (hi : i = 0) (h : ∀ t, Q (.str (optS bs.head?) t) s)
    (hsub : subscripted slice false (.ref D) (.int i u) = operate [.ref D, .int i u] (getItem (.ref D) (.int i u)) := by with_unfolding_all rfl) (hg : ∀ r, letTemporaryGo value (.ref D) r = pure () := by intro _; with_unfolding_all rfl) :
    wpAny (model prog w) A (subscriptTail value slice (.ref D) (.int i u)) Q E s := by
  subst hi
  cases bs with
  | nil => cases hne
  | cons b r =>
    cases hs with
    | cons x t hr => exact item_list hD (by decide) (by decide) rfl (h t) hsub hg
local macro_rules | `(tactic| walk_at "compareOp NotEq ref ref") => `(tactic| (k_here; (with_reducible show wpAny _ _ (compareOp CmpOp.NotEq (Value.ref _) (Value.ref _)) _ _ _); k_dflt (refine' ne_nil ?k1 ?k2 ?k3 ?k4 ?_; (case k3 => with_reducible assumption); (case k1 | k2 => (refine News.isList (by k_asm) (by k_mem))); (case k4 => ktr_units))))
local macro_rules | `(tactic| walk_at "subscriptTail") => `(tactic| (k_here; (with_reducible show wpAny _ _ (subscriptTail _ _ (Value.ref _) (Value.int _ _)) _ _ _); k_dflt (refine' first_item ?k1 ?k3 ?k4 ?k5 ?_ ?k6 ?k7; (case k5 => exact rfl); (case k4 | k3 => with_reducible assumption); (case k1 => (refine News.isList (by k_asm) (by k_mem))); (case k6 => with_unfolding_all rfl); (case k7 => (intro _; with_unfolding_all rfl))); intro t'))
theorem str_end {b c : Str} {news nn : List (Addr × Obj)} {h₀ h' : Heap} {L : Addr} {m : Str → Option Value} {Q : Value → Shared → Prop} {s : Shared} {tk : Nat} {t : Tok}
    (hret : ∀ r tl h' tk', Fr h₀ L h' m → News h₀ L h' (tl ++ news) → (∀ q ∈ news, ∀ p ∈ tl, q.1 < p.1) → ((∃ t, r = .str c t) ∧ tl = []) → Q r { s with heap := h', toks := tk' })
    (F : Fr h₀ L h' m) (N : News h₀ L h' nn) (hs : ∀ p ∈ news, p ∈ nn) (e : b = c) : Q (.str b t) { s with heap := h', toks := tk } :=
  hret _ [] _ _ F (cb_drop N hs) ktn_ord0 ⟨⟨t, congrArg (Value.str · t) e⟩, rfl⟩
theorem same1 {k1 k2 : Kd} (e : k1.d = k2.d) : optS (passL k1 k2).head? = optS (sameB k1 k2) := by unfold sameB; rw [if_pos (by simp [e])]
theorem same2 {k1 k2 : Kd} (e : k1.d ≠ k2.d) : Str.ofString "" = optS (sameB k1 k2) := by unfold sameB; rw [if_neg (by simp [e])]; rfl
theorem same3 {k1 k2 : Kd} (e : (!(passL k1 k2).isEmpty) = false) : Str.ofString "" = optS (sameB k1 k2) := by
  unfold sameB
  have e2 : passL k1 k2 = [] := by simpa using e
  rw [e2]
  split <;> rfl
theorem same4 {k1 k2 : Kd} (e : (passL k1 k2).isEmpty = true) : Str.ofString "" = optS (sameB k1 k2) := same3 (by rw [e]; rfl)
theorem same_ct (w : World) (news : List (Addr × Obj)) (a1 a2 : Addr) (k1 k2 : Kd) (h1 : KdIn (kk.heap_1 w.params) news a1 k1) (h2 : KdIn (kk.heap_1 w.params) news a2 k2) :
    CallC w 60 600 548 [.ref a1, .ref a2] news (fun r tl => (∃ t, r = .str (optS (sameB k1 k2)) t) ∧ tl = []) False 0 := by
  intro p loose mean mg mb dp un gd cn cs a ccd cl outer A₀ base h₀ L m s Q E B F X N T hk hdp hun hret hbad
  refine wpAny_call ?_
  k_dflt (refine' code_defC ?k1 ?k2 ?k3 ?k4 ?k5 ?kA ?kF ?kK ?k6 ?k7 ?k8 ?k9 ?kB ?kD ?_ ?c2 ?c3 ?c4; (case kA => exact rfl); (case kF => exact rfl); (case kK => assumption); (case k1 => k_asm); (case k2 => k_asm); (case k3 => k_asm); (case k4 => k_asm); (case k5 => k_asm); (case k6 => k_is); (case k7 => k_is); (case k8 => ktr_room); (case k9 => first | exact BindsTo.of_eq rfl); (case kB => exact rfl); (case kD => decide +kernel); (case c2 => exact rfl); (case c3 => exact rfl); (case c4 => exact rfl); k_whole; intro g' L' h' tk' cells' FG' F' N' Y' B' X' T' l1; (try k_lt l1); k_cells Y'; (try simp only [List.cons_append, List.nil_append] at N'); (try dsimp only); (try k_fold))
  walk1
  k_steps
  rename_i st9
  obtain ⟨l, hl, hsl⟩ := StT.obj st9
  have hlen : l.length = (standsL k1.b).length := by have := hsl.length; simpa using this
  refine ⟨_, l.toArray, _, rfl, rfl, by k_asm, by k_asm, .inr ⟨_, hl, rfl, _, rfl⟩, ?_, ?_⟩
  · rw [List.size_toArray, hlen, sizeLine_eq]
    cases k1.b <;> decide
  rintro s₂ ⟨g, rfl⟩
  suffices hh : ∀ n i ys, i + n = l.toArray.size → StrsAre ys ((((standsL k1.b).take i).filter (standsB k2.b)).map Bs.s) → CompRestT _ _ _ _ _ _ _ _ _ _ _ _ _ _ _ _ n i ys _ by exact hh _ _ _ (Nat.zero_add _) .nil
  intro n
  induction n with
  | zero =>
    intro i ys hi hys
    refine CompRestT.zero ?_
    intro D h tk F9 N9 off9
    have hys9 : StrsAre ys ((passL k1 k2).map Bs.s) := by
      have e : (standsL k1.b).take i = standsL k1.b := List.take_of_length_le (by rw [List.size_toArray] at hi; omega)
      rw [e] at hys
      exact hys
    clear hys
    dsimp only
    k_steps
    all_goals (refine' str_end hret ?kF ?kN ?kS ?kE; (case kF => k_asm); (case kN => k_asm); (case kS => ktd_sub); (case kE => first | exact same1 (by assumption) | exact same2 (by assumption) | exact same3 (by assumption) | exact same4 (by assumption)))
  | succ n ih =>
    intro i ys hi hys
    refine CompRestT.succ ?_
    intro v I oI C oC D m₂ h tk E' hv hC hx F N off ne
    obtain ⟨c9, t9, rfl, hc9⟩ := strs_item hsl hv
    k_steps
    · refine CompEnd.intro (by k_asm) (by k_asm) _ ?_ off (.inr ⟨_, hl, rfl, _, rfl⟩) (ih _ _ ?_ ?_)
      · intro p hp; exact List.mem_append_right _ hp
      · omega
      · exact take_yes hc9 (by assumption) hys
    · refine CompEnd.intro (by k_asm) (by k_asm) _ ?_ off (.inr ⟨_, hl, rfl, _, rfl⟩) (ih _ _ ?_ ?_)
      · intro p hp; exact List.mem_append_right _ hp
      · omega
      · exact take_no hc9 (by assumption) hys
end
section
open PyProof.Rows.LCt PyProof.Rows.LCg
theorem is_use {w : World} {news : List (Addr × Obj)} {a1 : Addr} {k : Kd} {x : Str} {tc : Tok} {vr : Bool} (c : Bs) 
    {p : Program} {loose : List Str} {mean : ExcName → Option Value} {mg mb : Str → Option Value} {dp un : Nat} {gd : Option (List Code)} {cn : Str} {cs : Scope} {a : Addr} {ccd : Value} {cl : List (Str × Addr)} {outer : List Env} {A₀ : Around} {base h₀ : Heap} {L : Addr} {m : Str → Option Value} {s : Shared} {Q E : Value → Shared → Prop}
    (h1 : KdIn (kk.heap_1 w.params) news a1 k) (hx : x = c.s) (B : Below A₀ base outer h₀) (F : Fr h₀ L s.heap m) (X : (kk.heap_1 w.params).In h₀) (N : News h₀ L s.heap news) (T : Top p loose mean mg mb h₀) (hk : cs.kind = .function) (hd : dp + 40 < recursionLimit) (hu : un + 400 < cLine)
    (ret : ∀ h' tk', Fr h₀ L h' m → News h₀ L h' news → Q (.bool (isF k c vr)) { s with heap := h', toks := tk' }) :
    wpAny (model P0 w) (ktrTop dp un gd cn cs L a ccd cl outer) (call (.ref 543) [.ref a1, .str x tc, .bool vr]) Q E s := by
  subst hx
  refine CallC.use (is_ct w news a1 k c tc vr h1) B F X N T hk hd hu (fun r tl h' tk' F' N' l e => ?_) (fun e t ws dx k1 kv k2 ts n g h' tk' f => f.elim)
  obtain ⟨rfl, rfl⟩ := e
  exact ret h' tk' F' N'
theorem same_use {w : World} {news : List (Addr × Obj)} {a1 a2 : Addr} {k1 k2 : Kd}
    {p : Program} {loose : List Str} {mean : ExcName → Option Value} {mg mb : Str → Option Value} {dp un : Nat} {gd : Option (List Code)} {cn : Str} {cs : Scope} {a : Addr} {ccd : Value} {cl : List (Str × Addr)} {outer : List Env} {A₀ : Around} {base h₀ : Heap} {L : Addr} {m : Str → Option Value} {s : Shared} {Q E : Value → Shared → Prop}
    (h1 : KdIn (kk.heap_1 w.params) news a1 k1) (h2 : KdIn (kk.heap_1 w.params) news a2 k2) (B : Below A₀ base outer h₀) (F : Fr h₀ L s.heap m) (X : (kk.heap_1 w.params).In h₀) (N : News h₀ L s.heap news) (T : Top p loose mean mg mb h₀) (hk : cs.kind = .function) (hd : dp + 60 < recursionLimit) (hu : un + 600 < cLine)
    (ret1 : ∀ b t h' tk', sameB k1 k2 = some b → Fr h₀ L h' m → News h₀ L h' news → Q (.str b.s t) { s with heap := h', toks := tk' })
    (ret0 : ∀ t h' tk', sameB k1 k2 = none → Fr h₀ L h' m → News h₀ L h' news → Q (.str (Str.ofString "") t) { s with heap := h', toks := tk' }) :
    wpAny (model P0 w) (ktrTop dp un gd cn cs L a ccd cl outer) (call (.ref 548) [.ref a1, .ref a2]) Q E s := by
  refine CallC.use (same_ct w news a1 a2 k1 k2 h1 h2) B F X N T hk hd hu (fun r tl h' tk' F' N' l e => ?_) (fun e t ws dx k1 kv k2 ts n g h' tk' f => f.elim)
  obtain ⟨⟨t, rfl⟩, rfl⟩ := e
  cases hs : sameB k1 k2 with
  | some b => exact ret1 b t h' tk' hs F' N'
  | none => exact ret0 t h' tk' hs F' N'
local macro_rules | `(tactic| walk_at "call ref") => `(tactic| (k_here; (with_reducible show wpAny _ _ (call (Value.ref 543) _) _ _ _); k_dflt (first
  | (refine' is_use Bs.int (KdIn.mono ?h1 ?m1) ?hx ?k1 ?k2 ?k3 ?k4 ?k5 ?k6 ?k7 ?k8 ?_; (case hx => exact rfl); (case h1 => with_reducible assumption); (case k1 | k2 | k3 | k4 | k5 => k_asm); (case k6 => first | exact rfl | assumption); (case k7 => ktr_room); (case k8 => ktr_units); (case m1 => ktd_sub))
  | (refine' is_use Bs.bool (KdIn.mono ?h1 ?m1) ?hx ?k1 ?k2 ?k3 ?k4 ?k5 ?k6 ?k7 ?k8 ?_; (case hx => exact rfl); (case h1 => with_reducible assumption); (case k1 | k2 | k3 | k4 | k5 => k_asm); (case k6 => first | exact rfl | assumption); (case k7 => ktr_room); (case k8 => ktr_units); (case m1 => ktd_sub))
  | (refine' is_use Bs.set (KdIn.mono ?h1 ?m1) ?hx ?k1 ?k2 ?k3 ?k4 ?k5 ?k6 ?k7 ?k8 ?_; (case hx => exact rfl); (case h1 => with_reducible assumption); (case k1 | k2 | k3 | k4 | k5 => k_asm); (case k6 => first | exact rfl | assumption); (case k7 => ktr_room); (case k8 => ktr_units); (case m1 => ktd_sub))); intro h' tk' F' N'))
local macro_rules | `(tactic| walk_at "call ref") => `(tactic| (k_here; (with_reducible show wpAny _ _ (call (Value.ref 548) _) _ _ _); k_dflt (refine' same_use (KdIn.mono ?h1 ?m1) (KdIn.mono ?h2 ?m2) ?k1 ?k2 ?k3 ?k4 ?k5 ?k6 ?k7 ?k8 ?_ ?_; (case h1 | h2 => with_reducible assumption); (case k1 | k2 | k3 | k4 | k5 => k_asm); (case k6 => first | exact rfl | assumption); (case k7 => ktr_room); (case k8 => ktr_units); (case m1 | m2 => ktd_sub)); (first | (intro b' t' h' tk' sb' F' N') | (intro t' h' tk' sb' F' N'))))
noncomputable def ar6 : List Str := [Str.ofString "+", Str.ofString "-", Str.ofString "*", Str.ofString "div", Str.ofString "mod", Str.ofString "^"]
noncomputable def restF (x : Str) (k1 k2 : Kd) (b : Bs) : Option Kd :=
  if x == Str.ofString ".." || x == Str.ofString "&" then none
  else if x == Str.ofString "++" then (if k1.d == 1 || (b.eqb .str && k1.d == 0) then some ⟨b, k1.v || k2.v, k1.d⟩ else none)
  else (if k1.d == 0 then some ⟨.bool, k1.v || k2.v, 0⟩ else none)
noncomputable def lawF (x : Str) (k1 k2 : Kd) : Option Kd :=
  if inL x ar6 then (if isF k1 .int true && isF k2 .int (!(x == Str.ofString "^")) then some ⟨.int, if x == Str.ofString "^" then k1.v else k1.v || k2.v, 0⟩ else none)
  else if inL x loS then (if isF k1 .bool true && isF k2 .bool true then some ⟨.bool, k1.v || k2.v, 0⟩ else none)
  else if inL x seS then (if isF k1 .set false && isF k2 .set false then some (if Txt.slice x none (some 2) == Str.ofString "su" then ⟨.bool, false, 0⟩ else setK) else none)
  else if x == Str.ofString "in" then (if isF k1 .int true && isF k2 .set false then some ⟨.bool, k1.v, 0⟩ else none)
  else match sameB k1 k2 with
  | none => none
  | some b => restF x k1 k2 b
section
variable {x : Str} {k1 k2 : Kd} {b : Bs}
theorem lA (h : (ar6.any fun y => y == x) = true) : lawF x k1 k2 = (if isF k1 .int true && isF k2 .int (!(x == Str.ofString "^")) then some ⟨.int, if x == Str.ofString "^" then k1.v else k1.v || k2.v, 0⟩ else none) := by unfold lawF inL; rw [if_pos h]
theorem lA1 (h : (ar6.any fun y => y == x) = true) (c : (x == Str.ofString "^") = true) : lawF x k1 k2 = (if isF k1 .int true && isF k2 .int (!(x == Str.ofString "^")) then some ⟨.int, k1.v, 0⟩ else none) := by rw [lA h, if_pos c]
theorem lA2 (h : (ar6.any fun y => y == x) = true) (c : (x == Str.ofString "^") = false) : lawF x k1 k2 = (if isF k1 .int true && isF k2 .int (!(x == Str.ofString "^")) then some ⟨.int, k1.v || k2.v, 0⟩ else none) := by rw [lA h, if_neg (c := (x == Str.ofString "^") = true) (by rw [c]; decide)]
theorem lL (h : (ar6.any fun y => y == x) = false) (l : (loS.any fun y => y == x) = true) : lawF x k1 k2 = (if isF k1 .bool true && isF k2 .bool true then some ⟨.bool, k1.v || k2.v, 0⟩ else none) := by unfold lawF inL; rw [if_neg (by rw [h]; decide), if_pos l]
theorem lS (h : (ar6.any fun y => y == x) = false) (l : (loS.any fun y => y == x) = false) (t : (seS.any fun y => y == x) = true) : lawF x k1 k2 = (if isF k1 .set false && isF k2 .set false then some (if Txt.slice x none (some 2) == Str.ofString "su" then ⟨.bool, false, 0⟩ else setK) else none) := by
  unfold lawF; unfold inL; rw [if_neg (by rw [h]; decide), if_neg (by rw [l]; decide), if_pos t]
theorem lS1 (h : (ar6.any fun y => y == x) = false) (l : (loS.any fun y => y == x) = false) (t : (seS.any fun y => y == x) = true) (c : (Txt.slice x none (some 2) == Str.ofString "su") = true) : lawF x k1 k2 = (if isF k1 .set false && isF k2 .set false then some ⟨.bool, false, 0⟩ else none) := by rw [lS h l t, if_pos c]
theorem lS2 (h : (ar6.any fun y => y == x) = false) (l : (loS.any fun y => y == x) = false) (t : (seS.any fun y => y == x) = true) (c : (Txt.slice x none (some 2) == Str.ofString "su") = false) : lawF x k1 k2 = (if isF k1 .set false && isF k2 .set false then some setK else none) := by rw [lS h l t, if_neg (c := (Txt.slice x none (some 2) == Str.ofString "su") = true) (by rw [c]; decide)]
theorem lI (h : (ar6.any fun y => y == x) = false) (l : (loS.any fun y => y == x) = false) (t : (seS.any fun y => y == x) = false) (i : (x == Str.ofString "in") = true) : lawF x k1 k2 = (if isF k1 .int true && isF k2 .set false then some ⟨.bool, k1.v, 0⟩ else none) := by
  unfold lawF; unfold inL; rw [if_neg (by rw [h]; decide), if_neg (by rw [l]; decide), if_neg (by rw [t]; decide), if_pos i]
theorem lN (h : (ar6.any fun y => y == x) = false) (l : (loS.any fun y => y == x) = false) (t : (seS.any fun y => y == x) = false) (i : (x == Str.ofString "in") = false) (e : sameB k1 k2 = none) : lawF x k1 k2 = none := by
  unfold lawF; unfold inL; rw [if_neg (by rw [h]; decide), if_neg (by rw [l]; decide), if_neg (by rw [t]; decide), if_neg (by rw [i]; decide), e]
theorem lR (h : (ar6.any fun y => y == x) = false) (l : (loS.any fun y => y == x) = false) (t : (seS.any fun y => y == x) = false) (i : (x == Str.ofString "in") = false) (e : sameB k1 k2 = some b) : lawF x k1 k2 = restF x k1 k2 b := by
  unfold lawF; unfold inL; rw [if_neg (by rw [h]; decide), if_neg (by rw [l]; decide), if_neg (by rw [t]; decide), if_neg (by rw [i]; decide), e]
theorem r1 (h : (x == Str.ofString "..") = true) : restF x k1 k2 b = none := by unfold restF; rw [h]; rfl
theorem r2 (h : (x == Str.ofString "&") = true) : restF x k1 k2 b = none := by unfold restF; rw [h, Bool.or_true]; rfl
theorem r3 (h1 : (x == Str.ofString "..") = false) (h2 : (x == Str.ofString "&") = false) (h3 : (x == Str.ofString "++") = true) : restF x k1 k2 b = (if k1.d == 1 || (b.eqb .str && k1.d == 0) then some ⟨b, k1.v || k2.v, k1.d⟩ else none) := by unfold restF; rw [h1, h2, h3]; rfl
theorem r4 (h1 : (x == Str.ofString "..") = false) (h2 : (x == Str.ofString "&") = false) (h3 : (x == Str.ofString "++") = false) : restF x k1 k2 b = (if k1.d == 0 then some ⟨.bool, k1.v || k2.v, 0⟩ else none) := by unfold restF; rw [h1, h2, h3]; rfl
theorem q1 {o : Option Kd} {k : Kd} (e : o = (if k1.d == 1 || (b.eqb .str && k1.d == 0) then some k else none)) (h : k1.d = 1) : o = some k := by rw [e, if_pos (by simp [h])]
theorem q2 {o : Option Kd} {k : Kd} (e : o = (if k1.d == 1 || (b.eqb .str && k1.d == 0) then some k else none)) (hs : (b.s == Str.ofString "str") = true) (h : k1.d = 0) : o = some k := by
  have hs : (b.s == Bs.str.s) = true := hs
  rw [s_beq] at hs
  rw [e, if_pos (by simp [h, hs])]
theorem q3 {o : Option Kd} {k : Kd} (e : o = (if k1.d == 1 || (b.eqb .str && k1.d == 0) then some k else none)) (h1 : k1.d ≠ 1) (h : k1.d ≠ 0) : o = none := by rw [e, if_neg (by simp [h, h1])]
theorem q4 {o : Option Kd} {k : Kd} (e : o = (if k1.d == 1 || (b.eqb .str && k1.d == 0) then some k else none)) (h1 : k1.d ≠ 1) (hs : (b.s == Str.ofString "str") = false) : o = none := by
  have hs : (b.s == Bs.str.s) = false := hs
  rw [s_beq] at hs
  rw [e, if_neg (by simp [h1, hs])]
theorem q5 {o : Option Kd} {k : Kd} (e : o = (if k1.d == 0 then some k else none)) (h : k1.d = 0) : o = some k := by rw [e, if_pos (by simp [h])]
theorem q6 {o : Option Kd} {k : Kd} (e : o = (if k1.d == 0 then some k else none)) (h : k1.d ≠ 0) : o = none := by rw [e, if_neg (by simp [h])]
theorem no_nil {P : Prop} (h : (b.s == Str.ofString "") = true) : P := by cases b <;> exact absurd h (by decide)
end
theorem kdl_end {w : World} {news nn ll : List (Addr × Obj)} {h₀ h' : Heap} {L D : Addr} {m : Str → Option Value} {k : Kd} {FF : Option Kd} {b : Str} {v : Bool} {d : Int} {t1 t2 : Tok} {Q : Value → Shared → Prop} {s : Shared} {tk : Nat}
    (hret : ∀ r tl h' tk', Fr h₀ L h' m → News h₀ L h' (tl ++ news) → (∀ q ∈ news, ∀ p ∈ tl, q.1 < p.1) → (∃ k, FF = some k ∧ ∃ a, r = .ref a ∧ KdIn (kk.heap_1 w.params) tl a k) → Q r { s with heap := h', toks := tk' })
    (F : Fr h₀ L h' m) (N : News h₀ L h' ((D, { cls := .type "tuple", data := .seq #[.str b t1, .bool v, .int d t2] }) :: nn)) (hs : ∀ p ∈ news, p ∈ nn) (hl : ∀ p ∈ ll, p.1 < D) (hsl : ∀ p ∈ news, p ∈ ll)
    (e : FF = some k) (eb : b = k.b.s) (ev : v = k.v) (ed : d = k.d) : Q (.ref D) { s with heap := h', toks := tk } := by
  subst eb ev ed
  refine hret _ [(D, tupO k t1 t2 0 none #[])] _ _ F (fun p hp => N p ?_) (fun q hq p hp => ?_) ⟨k, e, D, rfl, ⟨t1, t2, 0, none, #[], .inl (.head _)⟩⟩
  · rcases List.mem_cons.mp hp with rfl | hp
    · exact .head _
    · exact .tail _ (hs p hp)
  · rcases List.mem_cons.mp hp with rfl | hp
    · exact hl q (hsl q hq)
    · cases hp
theorem lawj_ct (w : World) (news : List (Addr × Obj)) (a1 a2 : Addr) (k1 k2 : Kd) (x : Str) (tx : Tok) (h1 : KdIn (kk.heap_1 w.params) news a1 k1) (h2 : KdIn (kk.heap_1 w.params) news a2 k2) (hx : x.length ≤ 1000) :
    CallC w 100 1000 555 [.str x tx, .ref a1, .ref a2] news (fun r tl => (∃ k, lawF x k1 k2 = some k ∧ ∃ a, r = .ref a ∧ KdIn (kk.heap_1 w.params) tl a k) ∨ (lawF x k1 k2 = none ∧ r = .none ∧ tl = [])) False 0 := by
  intro p loose mean mg mb dp un gd cn cs a ccd cl outer A₀ base h₀ L m s Q E B F X N T hk hdp hun hret hbad
  refine wpAny_call ?_
  have hsome := fun r tl h' tk' F' N' l e => hret r tl h' tk' F' N' l (.inl e)
  have hnone : ∀ {h' : Heap} {tk' : Nat}, lawF x k1 k2 = none → Fr h₀ L h' m → News h₀ L h' news → Q .none { s with heap := h', toks := tk' } := fun e F' N' => hret .none [] _ _ F' N' ktn_ord0 (.inr ⟨e, rfl, rfl⟩)
  k_dflt ktr_enter
  k_steps
  all_goals first
  | (refine' hnone ?kE ?kF (cb_drop ?kN ?kS); (case kF => k_asm); (case kN => k_asm); (case kS => ktd_sub); (case kE => first
      | exact iff3 (lA (by assumption)) (by assumption) | exact iff4 (lA (by assumption)) (by assumption)
      | exact iff3 (lL (by assumption) (by assumption)) (by assumption) | exact iff4 (lL (by assumption) (by assumption)) (by assumption)
      | exact iff3 (lS (by assumption) (by assumption) (by assumption)) (by assumption) | exact iff4 (lS (by assumption) (by assumption) (by assumption)) (by assumption)
      | exact iff3 (lI (by assumption) (by assumption) (by assumption) (by assumption)) (by assumption) | exact iff4 (lI (by assumption) (by assumption) (by assumption) (by assumption)) (by assumption)
      | exact lN (by assumption) (by assumption) (by assumption) (by assumption) (by assumption)
      | exact no_nil (by assumption)
      | exact (lR (by assumption) (by assumption) (by assumption) (by assumption) (by assumption)).trans (r1 (by assumption))
      | exact (lR (by assumption) (by assumption) (by assumption) (by assumption) (by assumption)).trans (r2 (by assumption))
      | exact (lR (by assumption) (by assumption) (by assumption) (by assumption) (by assumption)).trans (q3 (r3 (by assumption) (by assumption) (by assumption)) (by assumption) (by assumption))
      | exact (lR (by assumption) (by assumption) (by assumption) (by assumption) (by assumption)).trans (q4 (r3 (by assumption) (by assumption) (by assumption)) (by assumption) (by assumption))
      | exact (lR (by assumption) (by assumption) (by assumption) (by assumption) (by assumption)).trans (q6 (r4 (by assumption) (by assumption) (by assumption)) (by assumption))))
  | (refine' kdl_end hsome ?kF ?kN ?kS ?kA ?kB ?kE ?e1 ?e2 ?e3; (case kF => k_asm); (case kN => k_asm); (case kS => ktd_sub); (case kA => with_reducible assumption); (case kB => ktd_sub); (case kE => first
      | exact iff2 (lA1 (by assumption) (by assumption)) (by assumption) (by assumption)
      | exact iff2 (lA2 (by assumption) (by assumption)) (by assumption) (by assumption)
      | exact iff2 (lL (by assumption) (by assumption)) (by assumption) (by assumption)
      | exact iff2 (lS1 (by assumption) (by assumption) (by assumption) (by assumption)) (by assumption) (by assumption)
      | exact iff2 (lS2 (by assumption) (by assumption) (by assumption) (by assumption)) (by assumption) (by assumption)
      | exact iff2 (lI (by assumption) (by assumption) (by assumption) (by assumption)) (by assumption) (by assumption)
      | exact (lR (by assumption) (by assumption) (by assumption) (by assumption) (by assumption)).trans (q1 (r3 (by assumption) (by assumption) (by assumption)) (by assumption))
      | exact (lR (by assumption) (by assumption) (by assumption) (by assumption) (by assumption)).trans (q2 (r3 (by assumption) (by assumption) (by assumption)) (by assumption) (by assumption))
      | exact (lR (by assumption) (by assumption) (by assumption) (by assumption) (by assumption)).trans (q5 (r4 (by assumption) (by assumption) (by assumption)) (by assumption))); (case e1 => exact rfl); (case e2 => exact rfl); (case e3 => exact rfl))
  | trace_state
end
section
open PySem PySem.W PyProof.Rows PySem.Spec PySem.Calls
noncomputable def basesL : List Kd := [⟨.int, false, 0⟩, ⟨.int, true, 0⟩, ⟨.bool, false, 0⟩, ⟨.bool, true, 0⟩, ⟨.str, false, 0⟩, ⟨.set, false, 0⟩, ⟨.none, false, 0⟩, ⟨.int, false, 1⟩, ⟨.int, true, 1⟩, ⟨.bool, false, 1⟩, ⟨.bool, true, 1⟩, ⟨.str, false, 1⟩, ⟨.set, false, 1⟩, ⟨.none, false, 1⟩, ⟨.int, false, 2⟩, ⟨.int, true, 2⟩, ⟨.bool, true, 2⟩, ⟨.str, false, 2⟩, ⟨.none, false, 2⟩, ⟨.set, false, 2⟩]
inductive Cl | pw | ar | lo | se | su | inn | pp | cmp | dd
noncomputable def signsC : List (Str × Cl) := [(Str.ofString "^", .pw), (Str.ofString "+", .ar), (Str.ofString "-", .ar), (Str.ofString "*", .ar), (Str.ofString "div", .ar), (Str.ofString "mod", .ar), (Str.ofString "/\\", .lo), (Str.ofString "\\/", .lo), (Str.ofString "->", .lo), (Str.ofString "<-", .lo), (Str.ofString "<->", .lo), (Str.ofString "xor", .lo), (Str.ofString "union", .se), (Str.ofString "diff", .se), (Str.ofString "symdiff", .se), (Str.ofString "intersect", .se), (Str.ofString "subset", .su), (Str.ofString "superset", .su), (Str.ofString "in", .inn), (Str.ofString "++", .pp), (Str.ofString "<", .cmp), (Str.ofString "<=", .cmp), (Str.ofString ">", .cmp), (Str.ofString ">=", .cmp), (Str.ofString "=", .cmp), (Str.ofString "!=", .cmp), (Str.ofString "==", .cmp), (Str.ofString "..", .dd), (Str.ofString "&", .dd)]
noncomputable def signsL : List Str := signsC.map (·.1)
noncomputable def jC (c : Cl) (k1 k2 : Kd) : Option Kd := match c with
  | .ar => if fitsF k1 intK && fitsF k2 intK then some ⟨.int, k1.v || k2.v, 0⟩ else none
  | .pw => if fitsF k1 intK && fitsF k2 knownK then some ⟨.int, k1.v, 0⟩ else none
  | .lo => if fitsF k1 boolK && fitsF k2 boolK then some ⟨.bool, k1.v || k2.v, 0⟩ else none
  | .se => if fitsF k1 setK && fitsF k2 setK then some setK else none
  | .su => if fitsF k1 setK && fitsF k2 setK then some ⟨.bool, false, 0⟩ else none
  | .inn => if fitsF k1 intK && fitsF k2 setK then some ⟨.bool, k1.v, 0⟩ else none
  | .pp => togetherF k1 k2
  | .cmp => (commonF k1 k2).bind fun k => if k.d == 0 then some ⟨.bool, k.v, 0⟩ else none
  | .dd => none
noncomputable def lC (c : Cl) (k1 k2 : Kd) : Option Kd := match c with
  | .ar => if isF k1 .int true && isF k2 .int true then some ⟨.int, k1.v || k2.v, 0⟩ else none
  | .pw => if isF k1 .int true && isF k2 .int false then some ⟨.int, k1.v, 0⟩ else none
  | .lo => if isF k1 .bool true && isF k2 .bool true then some ⟨.bool, k1.v || k2.v, 0⟩ else none
  | .se => if isF k1 .set false && isF k2 .set false then some setK else none
  | .su => if isF k1 .set false && isF k2 .set false then some ⟨.bool, false, 0⟩ else none
  | .inn => if isF k1 .int true && isF k2 .set false then some ⟨.bool, k1.v, 0⟩ else none
  | .pp => match sameB k1 k2 with
    | none => none
    | some b => if k1.d == 1 || (b.eqb .str && k1.d == 0) then some ⟨b, k1.v || k2.v, k1.d⟩ else none
  | .cmp => match sameB k1 k2 with
    | none => none
    | some _ => if k1.d == 0 then some ⟨.bool, k1.v || k2.v, 0⟩ else none
  | .dd => none
theorem j_of : ∀ p ∈ signsC, ∀ k1 k2, joinedF p.1 k1 k2 = jC p.2 k1 k2 := by
  unfold signsC
  simp only [List.forall_mem_cons]
  refine ⟨?_, ?_, ?_, ?_, ?_, ?_, ?_, ?_, ?_, ?_, ?_, ?_, ?_, ?_, ?_, ?_, ?_, ?_, ?_, ?_, ?_, ?_, ?_, ?_, ?_, ?_, ?_, ?_, ?_, fun _ h => nomatch h⟩ <;> (intro k1 k2; exact rfl)
theorem l_of : ∀ p ∈ signsC, ∀ k1 k2, lawF p.1 k1 k2 = lC p.2 k1 k2 := by
  unfold signsC
  simp only [List.forall_mem_cons]
  refine ⟨?_, ?_, ?_, ?_, ?_, ?_, ?_, ?_, ?_, ?_, ?_, ?_, ?_, ?_, ?_, ?_, ?_, ?_, ?_, ?_, ?_, ?_, ?_, ?_, ?_, ?_, ?_, ?_, ?_, fun _ h => nomatch h⟩
  all_goals first
  | (intro k1 k2; exact rfl)
  | (intro k1 k2; show (match sameB k1 k2 with | none => none | some b => restF _ k1 k2 b) = _; cases sameB k1 k2 <;> exact rfl)
noncomputable def keq (a b : Kd) : Bool := a.b.eqb b.b && (a.v == b.v && a.d == b.d)
theorem keq_eq {a b : Kd} (h : keq a b = true) : a = b := by
  obtain ⟨b1, v1, d1⟩ := a
  obtain ⟨b2, v2, d2⟩ := b
  unfold keq at h
  simp only [Bool.and_eq_true, beq_iff_eq] at h
  obtain ⟨h1, rfl, rfl⟩ := h
  have : b1 = b2 := by cases b1 <;> cases b2 <;> first | rfl | cases h1
  rw [this]
noncomputable def okP : Option Kd → Option Kd → Bool
  | none, none => true
  | some a, some b => keq a b && basesL.any (keq a ·)
  | _, _ => false
theorem okP_of {a b : Option Kd} (h : okP a b = true) : a = b ∧ ∀ k, a = some k → k ∈ basesL := by
  cases a with
  | none => cases b with
    | none => exact ⟨rfl, fun _ h => nomatch h⟩
    | some b => cases h
  | some a => cases b with
    | none => cases h
    | some b =>
      obtain ⟨h1, h2⟩ := Bool.and_eq_true_iff.mp h
      refine ⟨congrArg some (keq_eq h1), fun k e => ?_⟩
      cases e
      obtain ⟨x, hx, e⟩ := List.any_eq_true.mp h2
      rw [keq_eq e]
      exact hx
noncomputable def chkC (c : Cl) : Bool := basesL.all fun a => basesL.all fun b => okP (jC c a b) (lC c a b)
theorem chk_all (c : Cl) : chkC c = true := by cases c <;> decide +kernel
theorem plain {x : Str} (hx : x ∈ signsL) {k1 k2 : Kd} (h1 : k1 ∈ basesL) (h2 : k2 ∈ basesL) : joinedF x k1 k2 = lawF x k1 k2 ∧ ∀ k, joinedF x k1 k2 = some k → k ∈ basesL := by
  obtain ⟨p, hp, rfl⟩ := List.mem_map.mp hx
  rw [j_of p hp, l_of p hp]
  have h := chk_all p.2
  unfold chkC at h
  exact okP_of (List.all_eq_true.mp (List.all_eq_true.mp h _ h1) _ h2)
theorem bases_d : ∀ k ∈ basesL, 0 ≤ k.d ∧ k.d ≤ 2 := by unfold basesL; simp only [List.forall_mem_cons]; decide
theorem signs_len : ∀ x ∈ signsL, x.length ≤ 1000 := by unfold signsL signsC; simp only [List.map, List.forall_mem_cons]; decide
end
section
open PyProof.Rows.LCt PyProof.Rows.LCg
local macro_rules | `(tactic| ks_enter) => `(tactic| (refine' code_def ?k1 ?k2 ?k3 ?k4 ?k5 ?kA ?kF ?kK ?k6 ?k7 ?k8 ?k9 ?kB ?_ ?c2 ?c3 ?c4 ?c5; (case kA | kF => exact rfl); (case kK => first | exact rfl | assumption); (case k1 | k2 | k3 | k4 | k5 => k_asm); (case k6 | k7 => k_is); (case k8 => ktr_room); (case k9 => exact BindsTo.of_eq rfl); (case c5 => decide); (case kB => exact locs rfl); (case c2 | c3 | c4 => exact rfl); k_whole; intro g' L' h' FG' F' N' B' X' T'; (try dsimp only); (try k_fold)))
local macro_rules | `(tactic| walk_at "call ref") => `(tactic| (k_here; (first | (with_reducible show wpAny _ _ (call (Value.ref 496) _) _ _ _) | (with_reducible show wpAny _ _ (call (Value.ref 257) _) _ _ _)); k_dflt (refine' call_cls ?k1 ?k2 ?k3 ?k4 ?k5 ?k6 ?_; (case k1 | k2 | k3 => k_asm); (case k4 | k5 | k6 => k_is); k_whole; intro x' d' h' F' N' l1 l2; (try k_lt l1); (try k_lt2 l2); ks_enter)))
noncomputable abbrev nmO (dn : Addr) : Obj := { cls := .ref 257, dict := some dn, data := .plain }
noncomputable abbrev nmD (w : World) (t1 t2 : Tok) (l ak : Addr) : Obj := dictOf [⟨PyData.keyHash w.params (Str.ofString "scopes"), .str (Str.ofString "scopes") t1, .ref l⟩, ⟨PyData.keyHash w.params (Str.ofString "asked"), .str (Str.ofString "asked") t2, .ref ak⟩] 2
theorem kinds_end {w : World} {news nn : List (Addr × Obj)} {h₀ h' : Heap} {L : Addr} {m : Str → Option Value} {Q : Value → Shared → Prop} {s : Shared} {tk : Nat} {mk dmk nm dn sd l ak : Nat} {od oa : Obj} {t1 t2 t3 t4 t5 t6 : Tok} {v2 v3 v4 v5 v6 : Value} {s1 s2 : Tok}
    (hret : ∀ (mk dmk nm dn sd l ak : Nat) (od oa : Obj) (t1 t2 t3 t4 t5 t6 : Tok) (v2 v3 v4 v5 v6 : Value) (s1 s2 : Tok) h' tk', Fr h₀ L h' m → News h₀ L h' ((sd, od) :: (ak, oa) :: (l, listOf #[.ref sd] 0) :: (nm, nmO dn) :: (dn, nmD w s1 s2 l ak) :: (mk, mkO dmk) :: (dmk, mkD w t1 t2 t3 t4 t5 t6 (.ref nm) v2 v3 v4 v5 v6) :: news) →
      od.IsDictOf (strKind P0 w) [] → oa.IsDictOf (strKind P0 w) [] → (∀ p ∈ news, p.1 < dmk) → (dmk < mk ∧ mk < dn ∧ dn < nm ∧ nm < sd ∧ sd < l ∧ l < ak) → (sd == sysModules) = false → (ak == sysModules) = false → Q (.ref mk) { s with heap := h', toks := tk' })
    (F : Fr h₀ L h' m) (N : News h₀ L h' nn) (m1 : (mk, mkO dmk) ∈ nn) (m2 : (dmk, mkD w t1 t2 t3 t4 t5 t6 (.ref nm) v2 v3 v4 v5 v6) ∈ nn) (m3 : (nm, nmO dn) ∈ nn) (m4 : (dn, nmD w s1 s2 l ak) ∈ nn) (m5 : (l, listOf #[.ref sd] 0) ∈ nn) (m6 : (sd, od) ∈ nn) (m7 : (ak, oa) ∈ nn) (hs : ∀ p ∈ news, p ∈ nn)
    (k1 : od.IsDictOf (strKind P0 w) []) (k2 : oa.IsDictOf (strKind P0 w) []) (k3 : ∀ p ∈ news, p.1 < dmk) (k4 : dmk < mk ∧ mk < dn ∧ dn < nm ∧ nm < sd ∧ sd < l ∧ l < ak) (k5 : (sd == sysModules) = false) (k6 : (ak == sysModules) = false) : Q (.ref mk) { s with heap := h', toks := tk } :=
  hret mk dmk nm dn sd l ak od oa t1 t2 t3 t4 t5 t6 v2 v3 v4 v5 v6 s1 s2 h' tk F (fun p hp => N p (by
    rcases List.mem_cons.mp hp with rfl | hp
    · exact m6
    rcases List.mem_cons.mp hp with rfl | hp
    · exact m7
    rcases List.mem_cons.mp hp with rfl | hp
    · exact m5
    rcases List.mem_cons.mp hp with rfl | hp
    · exact m3
    rcases List.mem_cons.mp hp with rfl | hp
    · exact m4
    rcases List.mem_cons.mp hp with rfl | hp
    · exact m1
    rcases List.mem_cons.mp hp with rfl | hp
    · exact m2
    exact hs p hp)) k1 k2 k3 k4 k5 k6
theorem kinds_ct (w : World) (news : List (Addr × Obj)) (p : Program) (loose : List Str) (mean : ExcName → Option Value) (mg mb : Str → Option Value) (dp un : Nat) (gd : Option (List Code)) (cn : Str) (cs : Scope) (a : Addr) (ccd : Value) (cl : List (Str × Addr)) (outer : List Env) (A₀ : Around) (base h₀ : Heap) (L : Addr) (m : Str → Option Value) (s : Shared) (Q E : Value → Shared → Prop)
    (B : Below A₀ base outer h₀) (F : Fr h₀ L s.heap m) (X : (kk.heap_1 w.params).In h₀) (N : News h₀ L s.heap news) (T : Top p loose mean mg mb h₀) (hk : cs.kind = .function) (hdp : dp + 20 < recursionLimit) (hun : un + 200 < cLine)
    (hret : ∀ (mk dmk nm dn sd l ak : Nat) (od oa : Obj) (t1 t2 t3 t4 t5 t6 : Tok) (v2 v3 v4 v5 v6 : Value) (s1 s2 : Tok) h' tk', Fr h₀ L h' m → News h₀ L h' ((sd, od) :: (ak, oa) :: (l, listOf #[.ref sd] 0) :: (nm, nmO dn) :: (dn, nmD w s1 s2 l ak) :: (mk, mkO dmk) :: (dmk, mkD w t1 t2 t3 t4 t5 t6 (.ref nm) v2 v3 v4 v5 v6) :: news) →
      od.IsDictOf (strKind P0 w) [] → oa.IsDictOf (strKind P0 w) [] → (∀ p ∈ news, p.1 < dmk) → (dmk < mk ∧ mk < dn ∧ dn < nm ∧ nm < sd ∧ sd < l ∧ l < ak) → (sd == sysModules) = false → (ak == sysModules) = false → Q (.ref mk) { s with heap := h', toks := tk' }) :
    wpAny (model P0 w) (ktrTop dp un gd cn cs L a ccd cl outer) (call (.ref 496) []) Q E s := by
  k_steps
  refine' kinds_end hret ?kF ?kN ?m1 ?m2 ?m3 ?m4 ?m5 ?m6 ?m7 ?kS ?k1 ?k2 ?k3 ?k4 ?k5 ?k6
  (case kF => k_asm)
  (case kN => k_asm)
  (case m1 => k_mem)
  (case m2 => k_mem)
  (case m3 => k_mem)
  (case m4 => k_mem)
  (case m5 => k_mem)
  (case m6 => k_mem)
  (case m7 => k_mem)
  (case kS => ktd_sub)
  (case k1 => assumption)
  (case k2 => assumption)
  (case k3 => assumption)
  (case k4 => omega)
  (case k5 => assumption)
  (case k6 => assumption)
end
section
theorem in_none {es : List (Str × Value)} {x : Str} (h : valueAt es x = none) : (valueAt es x).isSome = false := by rw [h]; rfl
theorem in_some {es : List (Str × Value)} {x : Str} {v : Value} (h : valueAt es x = some v) : (valueAt es x).isSome = true := by rw [h]; rfl
theorem one_last {prog : Program} {w : World} {A : Around} {E : Value → Shared → Prop} {s : Shared} {value slice : PySem.Expr} {l : Addr} {x : Value} {i : Int} {u : Tok} {Q : Value → Shared → Prop} (hl : s.heap.IsList l #[x]) (hi : i = -1) (h : Q x s)
    (hs : subscripted slice false (.ref l) (.int i u) = operate [.ref l, .int i u] (getItem (.ref l) (.int i u)) := by with_unfolding_all rfl) (hg : ∀ r, letTemporaryGo value (.ref l) r = pure () := by intro _; with_unfolding_all rfl) :
    wpAny (model prog w) A (subscriptTail value slice (.ref l) (.int i u)) Q E s := by
  subst hi
  exact subscriptTail_builtin hl.typeIs slot_list_getitem.lookup (wpAny_getItem_list_neg hl (by decide) (by simp) (by decide) (by simp) h) hs hg
local macro_rules | `(tactic| walk_at "subscriptTail") => `(tactic| (k_here; (with_reducible show wpAny _ _ (subscriptTail _ _ (Value.ref _) (Value.int _ _)) _ _ _); k_dflt (refine' one_last ?k1 ?k2 ?_ ?k6 ?k7; (case k2 => exact rfl); (case k1 => (refine News.isList (by k_asm) (by k_mem))); (case k6 => with_unfolding_all rfl); (case k7 => (intro _; with_unfolding_all rfl)))))
local macro_rules | `(tactic| walk_at "compareOp In str ref") => `(tactic| (k_here; k_dflt (first
  | (refine' kda_in (knd := PySem.strKind _ _) ?N ?p ?d ?l (strKind_is _ _ _ _) false ?b ?_; (case N => k_asm); (case p => k_mem); (case d | l => assumption); (case b => exact in_none (by assumption)))
  | (refine' kda_in (knd := PySem.strKind _ _) ?N ?p ?d ?l (strKind_is _ _ _ _) true ?b ?_; (case N => k_asm); (case p => k_mem); (case d | l => assumption); (case b => exact in_some (by assumption))))))
local macro_rules | `(tactic| walk_at "setItem ref str") => `(tactic| (k_here; k_dflt (refine' kda_set (knd := PySem.strKind _ _) ?F ?N ?U ?d (strKind_is _ _ _ _) ?z ?_; (case F | N => k_asm); (case U => k_updF); (case d => assumption); (case z => exact Nat.le_trans (by assumption) (by decide))); intro h' o' F' N' hd'; (try dsimp only at N')))
local macro_rules | `(tactic| k_all) => `(tactic| with_reducible assumption)
theorem put_ct (w : World) (rest : List (Addr × Obj)) (nm dn sd l ak ka : Addr) (od : Obj) (s1 s2 tx ts : Tok) (es : List (Str × Value)) (x : Str) (sp : Int) (hes : od.IsDictOf (strKind P0 w) es) (hno : valueAt es x = none) (hlen : es.length ≤ 100) (lo : (sd == sysModules) = false)
    (m3 : (nm, nmO dn) ∈ rest) (m4 : (dn, nmD w s1 s2 l ak) ∈ rest) (m5 : (l, listOf #[.ref sd] 0) ∈ rest) (hne : ∀ p ∈ rest, p.1 ≠ sd)
    (p : Program) (loose : List Str) (mean : ExcName → Option Value) (mg mb : Str → Option Value) (dp un : Nat) (gd : Option (List Code)) (cn : Str) (cs : Scope) (a : Addr) (ccd : Value) (cl : List (Str × Addr)) (outer : List Env) (A₀ : Around) (base h₀ : Heap) (L : Addr) (m : Str → Option Value) (s : Shared) (Q E : Value → Shared → Prop)
    (B : Below A₀ base outer h₀) (F : Fr h₀ L s.heap m) (X : (kk.heap_1 w.params).In h₀) (N : News h₀ L s.heap ((sd, od) :: rest)) (T : Top p loose mean mg mb h₀) (hk : cs.kind = .function) (hdp : dp + 20 < recursionLimit) (hun : un + 200 < cLine)
    (hret : ∀ od' h' tk', od'.IsDictOf (strKind P0 w) (stored es x (.ref ka)) → Fr h₀ L h' m → News h₀ L h' ((sd, od') :: rest) → Q .none { s with heap := h', toks := tk' }) :
    wpAny (model P0 w) (ktrTop dp un gd cn cs L a ccd cl outer) (call (.ref 247) [.ref nm, .str x tx, .ref ka, .int sp ts]) Q E s := by
  refine wpAny_call ?_
  k_dflt ktr_enter
  k_steps
  refine' hret _ _ _ ?k1 ?k2 ?k3
  (case k1 => assumption)
  (case k2 => k_asm)
  (case k3 => k_asm)
theorem one_first {prog : Program} {w : World} {A : Around} {E : Value → Shared → Prop} {s : Shared} {value slice : PySem.Expr} {l : Addr} {x : Value} {i : Int} {u : Tok} {Q : Value → Shared → Prop} (hl : s.heap.IsList l #[x]) (hi : i = 0) (h : Q x s)
    (hs : subscripted slice false (.ref l) (.int i u) = operate [.ref l, .int i u] (getItem (.ref l) (.int i u)) := by with_unfolding_all rfl) (hg : ∀ r, letTemporaryGo value (.ref l) r = pure () := by intro _; with_unfolding_all rfl) :
    wpAny (model prog w) A (subscriptTail value slice (.ref l) (.int i u)) Q E s := by
  subst hi
  exact item_list hl (by decide) (by decide) rfl h hs hg
local macro_rules | `(tactic| walk_at "subscriptTail") => `(tactic| (k_here; (with_reducible show wpAny _ _ (subscriptTail _ _ (Value.ref _) (Value.int _ _)) _ _ _); k_dflt (refine' one_first ?k1 ?k2 ?_ ?k6 ?k7; (case k2 => exact rfl); (case k1 => (refine News.isList (by k_asm) (by k_mem))); (case k6 => with_unfolding_all rfl); (case k7 => (intro _; with_unfolding_all rfl)))))
local macro_rules | `(tactic| walk_at "subscriptTail") => `(tactic| (k_here; (with_reducible show wpAny _ _ (subscriptTail _ _ (Value.ref _) (Value.str _ _)) _ _ _); k_dflt (refine' kda_item (knd := PySem.strKind _ _) ?N ?p ?d (strKind_is _ _ _ _) ?v ?_ ?k6 ?k7; (case N => k_asm); (case p => k_mem); (case d | v => assumption); (case k6 => with_unfolding_all rfl); (case k7 => (intro _; with_unfolding_all rfl)))))
theorem kindof_ct (w : World) (rest : List (Addr × Obj)) (nm dn sd l ak ka : Addr) (od oa : Obj) (s1 s2 tx ts : Tok) (es ea : List (Str × Value)) (x : Str) (sp : Int) (hes : od.IsDictOf (strKind P0 w) es) (hea : oa.IsDictOf (strKind P0 w) ea) (hyes : valueAt es x = some (.ref ka)) (hlen : ea.length ≤ 100) (lo : (sd == sysModules) = false)
    (m3 : (nm, nmO dn) ∈ rest) (m4 : (dn, nmD w s1 s2 l ak) ∈ rest) (m5 : (l, listOf #[.ref sd] 0) ∈ rest) (m6 : (sd, od) ∈ rest) (hne : ∀ p ∈ rest, p.1 ≠ ak)
    (p : Program) (loose : List Str) (mean : ExcName → Option Value) (mg mb : Str → Option Value) (dp un : Nat) (gd : Option (List Code)) (cn : Str) (cs : Scope) (a : Addr) (ccd : Value) (cl : List (Str × Addr)) (outer : List Env) (A₀ : Around) (base h₀ : Heap) (L : Addr) (m : Str → Option Value) (s : Shared) (Q E : Value → Shared → Prop)
    (B : Below A₀ base outer h₀) (F : Fr h₀ L s.heap m) (X : (kk.heap_1 w.params).In h₀) (N : News h₀ L s.heap ((ak, oa) :: rest)) (T : Top p loose mean mg mb h₀) (hk : cs.kind = .function) (hdp : dp + 20 < recursionLimit) (hun : un + 200 < cLine)
    (hret : ∀ oa' h' tk', oa'.IsDictOf (strKind P0 w) (stored ea x (.bool true)) → Fr h₀ L h' m → News h₀ L h' ((ak, oa') :: rest) → Q (.ref ka) { s with heap := h', toks := tk' }) :
    wpAny (model P0 w) (ktrTop dp un gd cn cs L a ccd cl outer) (call (.ref 254) [.ref nm, .str x tx, .int sp ts]) Q E s := by
  refine wpAny_call ?_
  k_dflt ktr_enter
  k_steps
  refine' hret _ _ _ ?k1 ?k2 (cb_drop ?k3 ?k4)
  (case k1 => assumption)
  (case k2 => k_asm)
  (case k3 => k_asm)
  (case k4 => ktd_sub)
inductive Tr
  | leaf (x : Str) (k : Kd) (sp : Int)
  | bin (sp : Int) (x : Str) (l r : Tr)
noncomputable def evalT : Tr → Except Int Kd
  | .leaf _ k _ => .ok k
  | .bin sp x l r => match evalT l with
    | .error e => .error e
    | .ok k1 => match evalT r with
      | .error e => .error e
      | .ok k2 => match joinedF x k1 k2 with
        | some k => .ok k
        | none => .error sp
noncomputable def Tr.size : Tr → Nat
  | .leaf _ _ _ => 1
  | .bin _ _ l r => l.size + r.size + 1
noncomputable abbrev tupX (l : List Value) (n : Nat) (d : Option Addr) (sl : Array (Option Value)) : Obj := { cls := .type "tuple", dict := d, data := .seq l.toArray n, slots := sl }
noncomputable def TupIn (K : Frag) (news : List (Addr × Obj)) (a : Addr) (l : List Value) : Prop := ∃ n d sl, (a, tupX l n d sl) ∈ news ∨ K.lookup a = some (tupX l n d sl)
theorem TupIn.mono {K : Frag} {news news' : List (Addr × Obj)} {a : Addr} {l : List Value} (x : TupIn K news a l) (h : ∀ p ∈ news, p ∈ news') : TupIn K news' a l := by
  obtain ⟨n, d, sl, x⟩ := x
  exact ⟨n, d, sl, x.imp (h _) id⟩
theorem TupIn.tup {K : Frag} {news : List (Addr × Obj)} {a : Addr} {l : List Value} {h₀ h : Heap} {L : Addr} {m : Str → Option Value} (x : TupIn K news a l) (F : Fr h₀ L h m) (X : K.In h₀) (N : News h₀ L h news) : IsTup h a l.toArray := by
  obtain ⟨n, d, sl, x | x⟩ := x
  · exact N.isTup x
  · exact ⟨_, F.keep _ _ (X _ _ x), rfl, n, rfl⟩
theorem tx_item {prog : Program} {w : World} {A : Around} {E : Value → Shared → Prop} {s : Shared} {K : Frag} {news : List (Addr × Obj)} {a : Addr} {l : List Value} {h₀ : Heap} {L : Addr} {m : Str → Option Value} {value slice : PySem.Expr} {u : Tok} {i : Int} {v : Value} {Q : Value → Shared → Prop} (x : TupIn K news a l) (F : Fr h₀ L s.heap m) (X : K.In h₀) (N : News h₀ L s.heap news) (lo : -(2 ^ 63) ≤ i) (hi : i < 2 ^ 63) (j : Nat) (hj : seqIndex? i l.length = some j) (hv : l[j]? = some v) (h : Q v s)
    (hs : subscripted slice false (.ref a) (.int i u) = operate [.ref a, .int i u] (getItem (.ref a) (.int i u))) : wpAny (model prog w) A (subscriptTail value slice (.ref a) (.int i u)) Q E s :=
  item_tupleT (j := j) (l := l) (x.tup F X N) lo hi hj hv h hs
local macro_rules | `(tactic| walk_at "subscriptTail") => `(tactic| (k_here; (with_reducible show wpAny _ _ (subscriptTail _ _ (Value.ref _) (Value.int _ _)) _ _ _); k_dflt (refine' tx_item (TupIn.mono ?kx ?km) ?kF ?kX ?kN ?k1 ?k2 ?_ ?k3 ?k4 ?_ ?k6; (case kx => with_reducible assumption); (case kN | kF | kX => k_asm); (case km => ktd_sub); (case k1 | k2 => decide); (case k3 | k4 => exact rfl); (case k6 => with_unfolding_all rfl); k_whole)))
inductive NodeAt (K : Frag) (news : List (Addr × Obj)) (es : List (Str × Value)) : Addr → Tr → Prop
  | leaf {a ka : Addr} {x : Str} {k : Kd} {sp : Int} {t1 t2 t3 : Tok} : TupIn K news a [.str (Str.ofString "name") t1, .int sp t2, .str x t3] → valueAt es x = some (.ref ka) → KdIn K news ka k → k ∈ basesL → NodeAt K news es a (.leaf x k sp)
  | bin {a al ar : Addr} {x : Str} {sp : Int} {t1 t2 t3 : Tok} {l r : Tr} : TupIn K news a [.str (Str.ofString "bin") t1, .int sp t2, .str x t3, .ref al, .ref ar] → x ∈ signsL → NodeAt K news es al l → NodeAt K news es ar r → NodeAt K news es a (.bin sp x l r)
theorem NodeAt.mono {K : Frag} {news news' : List (Addr × Obj)} {es : List (Str × Value)} (h : ∀ p ∈ news, p ∈ news') : ∀ {a : Addr} {t : Tr}, NodeAt K news es a t → NodeAt K news' es a t
  | _, _, .leaf x v k b => .leaf (x.mono h) v (k.mono h) b
  | _, _, .bin x s l r => .bin (x.mono h) s (l.mono h) (r.mono h)
noncomputable def KC (w : World) (f : Addr) (dN uN : Nat) (t : Tr) : Prop :=
  ∀ (rest : List (Addr × Obj)) (mk dmk nm dn sd l ak nd : Addr) (od oa : Obj) (t1 t2 t3 t4 t5 t6 : Tok) (v2 v3 v4 v5 v6 : Value) (s1 s2 : Tok) (es ea : List (Str × Value)) (p : Program) (loose : List Str) (mean : ExcName → Option Value) (mg mb : Str → Option Value) (dp un : Nat) (gd : Option (List Code)) (cn : Str) (cs : Scope) (a : Addr) (ccd : Value) (cl : List (Str × Addr)) (outer : List Env) (A₀ : Around) (base h₀ : Heap) (L : Addr) (m : Str → Option Value) (s : Shared) (Q E : Value → Shared → Prop),
    od.IsDictOf (strKind P0 w) es → oa.IsDictOf (strKind P0 w) ea → ea.length + t.size ≤ 100 → (sd == sysModules) = false →
    (mk, mkO dmk) ∈ rest → (dmk, mkD w t1 t2 t3 t4 t5 t6 (.ref nm) v2 v3 v4 v5 v6) ∈ rest → (nm, nmO dn) ∈ rest → (dn, nmD w s1 s2 l ak) ∈ rest → (l, listOf #[.ref sd] 0) ∈ rest → (sd, od) ∈ rest → (∀ p ∈ rest, p.1 ≠ ak) → NodeAt (kk.heap_1 w.params) rest es nd t →
    Below A₀ base outer h₀ → Fr h₀ L s.heap m → (kk.heap_1 w.params).In h₀ → News h₀ L s.heap ((ak, oa) :: rest) → Top p loose mean mg mb h₀ → cs.kind = .function → dp + dN < recursionLimit → un + uN < cLine →
    (∀ k D oa' ea' tl h' tk', evalT t = .ok k → oa'.IsDictOf (strKind P0 w) ea' → ea'.length ≤ ea.length + t.size → Fr h₀ L h' m → News h₀ L h' ((ak, oa') :: (tl ++ rest)) → (∀ q ∈ (ak, oa) :: rest, ∀ p ∈ tl, q.1 < p.1) → KdIn (kk.heap_1 w.params) (tl ++ rest) D k → Q (.ref D) { s with heap := h', toks := tk' }) →
    (∀ e t' ws dx k1' kv' k2' sp ts n g h' tk', evalT t = .error sp → Fr h₀ L g m → RaisedD base g (envX cn cs L a ccd cl :: outer) e (.ref 88) t' ws dx ((dx, spotD w k1' kv' k2' sp ts n) :: []) h' → g.UpToSlots h' → E (.ref e) { s with heap := h', toks := tk' }) →
    wpAny (model P0 w) (ktrTop dp un gd cn cs L a ccd cl outer) (call (.ref f) [.ref mk, .ref nd]) Q E s
local macro_rules | `(tactic| k_all) => `(tactic| with_reducible assumption)
local macro_rules | `(tactic| walk_at "call ref") => `(tactic| (k_here; (with_reducible show wpAny _ _ (call (Value.ref 254) _) _ _ _); k_dflt (refine' kindof_ct _ _ _ _ _ _ _ _ _ _ _ _ _ _ _ _ _ _ ?d1 ?d2 ?d3 ?d4 ?d5 ?d6 ?d7 ?d8 ?d9 ?d0 _ _ _ _ _ _ _ _ _ _ _ _ _ _ _ _ _ _ _ _ _ _ ?k1 ?k2 ?k3 ?k4 ?k5 ?k6 ?k7 ?k8 ?_; (case d6 | d7 | d8 | d9 | d3 | d1 | d2 => assumption); (case k1 | k2 | k3 => k_asm); (case k4 => (refine' cb_drop ?kN ?kS; (case kN => k_asm); (case kS => ktd_sub))); (case k5 => k_asm); (case k6 => first | exact rfl | assumption); (case k7 => ktr_room); (case k8 => ktr_units); (case d4 => (show _ ≤ _; omega)); (case d5 | d0 => assumption)); intro oa' h' tk' hd' F' N'))
theorem kind_leaf (w : World) (x : Str) (k : Kd) (sp : Int) : KC w 287 60 600 (.leaf x k sp) := by
  intro rest mk dmk nm dn sd l ak nd od oa t1 t2 t3 t4 t5 t6 v2 v3 v4 v5 v6 s1 s2 es ea p loose mean mg mb dp un gd cn cs a ccd cl outer A₀ base h₀ L m s Q E hes hea hlen lo m1 m2 m3 m4 m5 m6 hne hnd B F X N T hk hdp hun hret hbad
  cases hnd with
  | leaf htp hva hkd hb =>
  have hl : ea.length ≤ 99 := by have : (Tr.leaf x k sp).size = 1 := rfl; omega
  refine wpAny_call ?_
  k_dflt (refine' code_defC ?k1 ?k2 ?k3 ?k4 ?k5 ?kA ?kF ?kK ?k6 ?k7 ?k8 ?k9 ?kB ?kD ?_ ?c2 ?c3 ?c4; (case kA => exact rfl); (case kF => exact rfl); (case kK => assumption); (case k1 => k_asm); (case k2 => k_asm); (case k3 => k_asm); (case k4 => k_asm); (case k5 => k_asm); (case k6 => k_is); (case k7 => k_is); (case k8 => ktr_room); (case k9 => first | exact BindsTo.of_eq rfl); (case kB => exact rfl); (case kD => decide +kernel); (case c2 => exact rfl); (case c3 => exact rfl); (case c4 => exact rfl); k_whole; intro g' L' h' tk' cells' FG' F' N' Y' B' X' T' l1; (try k_lt l1); k_cells Y'; (try simp only [List.cons_append, List.nil_append] at N'); (try dsimp only); (try k_fold))
  k_steps
  refine' hret k _ _ _ [] _ _ rfl ?k1 ?k2 ?k3 (cb_drop ?k4 ?k5) ktn_ord0 ?k6
  (case k1 => assumption)
  (case k2 => exact stored_length_le _ _ _)
  (case k3 => k_asm)
  (case k4 => k_asm)
  (case k5 => ktd_sub)
  (case k6 => assumption)
section
theorem KC.use {w : World} {f : Addr} {dN uN : Nat} {t : Tr} {rest : List (Addr × Obj)} {mk dmk nm dn sd l ak nd : Addr} {od oa : Obj} {t1 t2 t3 t4 t5 t6 : Tok} {v2 v3 v4 v5 v6 : Value} {s1 s2 : Tok} {es ea : List (Str × Value)} {p : Program} {loose : List Str} {mean : ExcName → Option Value} {mg mb : Str → Option Value} {dp un : Nat} {gd : Option (List Code)} {cn : Str} {cs : Scope} {a : Addr} {ccd : Value} {cl : List (Str × Addr)} {outer : List Env} {A₀ : Around} {base h₀ : Heap} {L : Addr} {m : Str → Option Value} {s : Shared} {Q E : Value → Shared → Prop}
    (c : KC w f dN uN t) (hes : od.IsDictOf (strKind P0 w) es) (hea : oa.IsDictOf (strKind P0 w) ea) (hl : ea.length + t.size ≤ 100) (lo : (sd == sysModules) = false)
    (m1 : (mk, mkO dmk) ∈ rest) (m2 : (dmk, mkD w t1 t2 t3 t4 t5 t6 (.ref nm) v2 v3 v4 v5 v6) ∈ rest) (m3 : (nm, nmO dn) ∈ rest) (m4 : (dn, nmD w s1 s2 l ak) ∈ rest) (m5 : (l, listOf #[.ref sd] 0) ∈ rest) (m6 : (sd, od) ∈ rest) (hne : ∀ p ∈ rest, p.1 ≠ ak) (hnd : NodeAt (kk.heap_1 w.params) rest es nd t)
    (B : Below A₀ base outer h₀) (F : Fr h₀ L s.heap m) (X : (kk.heap_1 w.params).In h₀) (N : News h₀ L s.heap ((ak, oa) :: rest)) (T : Top p loose mean mg mb h₀) (hk : cs.kind = .function) (hd : dp + dN < recursionLimit) (hu : un + uN < cLine)
    (ret : ∀ k D oa' ea' tl h' tk', evalT t = .ok k → oa'.IsDictOf (strKind P0 w) ea' → ea'.length ≤ ea.length + t.size → Fr h₀ L h' m → News h₀ L h' ((ak, oa') :: (tl ++ rest)) → (∀ q ∈ (ak, oa) :: rest, ∀ p ∈ tl, q.1 < p.1) → KdIn (kk.heap_1 w.params) (tl ++ rest) D k → Q (.ref D) { s with heap := h', toks := tk' })
    (bad : ∀ e t' ws dx k1' kv' k2' sp ts n g h' tk', evalT t = .error sp → Fr h₀ L g m → RaisedD base g (envX cn cs L a ccd cl :: outer) e (.ref 88) t' ws dx ((dx, spotD w k1' kv' k2' sp ts n) :: []) h' → g.UpToSlots h' → E (.ref e) { s with heap := h', toks := tk' }) :
    wpAny (model P0 w) (ktrTop dp un gd cn cs L a ccd cl outer) (call (.ref f) [.ref mk, .ref nd]) Q E s :=
  c rest mk dmk nm dn sd l ak nd od oa t1 t2 t3 t4 t5 t6 v2 v3 v4 v5 v6 s1 s2 es ea p loose mean mg mb dp un gd cn cs a ccd cl outer A₀ base h₀ L m s Q E hes hea hl lo m1 m2 m3 m4 m5 m6 hne hnd B F X N T hk hd hu ret bad
noncomputable def dK (t : Tr) : Nat := 130 + 3 * t.size
noncomputable def uK (t : Tr) : Nat := 2000 + 100 * t.size
noncomputable def dC (t : Tr) : Nat := 129 + 3 * t.size
noncomputable def uC (t : Tr) : Nat := 1950 + 100 * t.size
theorem kind_bin (w : World) (x : Str) (sp : Int) (lt rt : Tr) (hc : KC w 301 (dC (.bin sp x lt rt)) (uC (.bin sp x lt rt)) (.bin sp x lt rt)) : KC w 287 (dK (.bin sp x lt rt)) (uK (.bin sp x lt rt)) (.bin sp x lt rt) := by
  intro rest mk dmk nm dn sd l ak nd od oa t1 t2 t3 t4 t5 t6 v2 v3 v4 v5 v6 s1 s2 es ea p loose mean mg mb dp un gd cn cs a ccd cl outer A₀ base h₀ L m s Q E hes hea hlen lo m1 m2 m3 m4 m5 m6 hne hnd B F X N T hk hdp hun hret hbad
  have hnd0 := hnd
  cases hnd0 with
  | bin htp hx hnl hnr =>
  have hd1 : dp + 5 < recursionLimit := by unfold dK at hdp; omega
  have hu1 : un + 50 < cLine := by unfold uK at hun; omega
  refine wpAny_call ?_
  k_dflt (refine' code_defC ?k1 ?k2 ?k3 ?k4 ?k5 ?kA ?kF ?kK ?k6 ?k7 ?k8 ?k9 ?kB ?kD ?_ ?c2 ?c3 ?c4; (case kA => exact rfl); (case kF => exact rfl); (case kK => assumption); (case k1 => k_asm); (case k2 => k_asm); (case k3 => k_asm); (case k4 => k_asm); (case k5 => k_asm); (case k6 => k_is); (case k7 => k_is); (case k8 => ktr_room); (case k9 => first | exact BindsTo.of_eq rfl); (case kB => exact rfl); (case kD => decide +kernel); (case c2 => exact rfl); (case c3 => exact rfl); (case c4 => exact rfl); k_whole; intro g' L' h' tk' cells' FG' F' N' Y' B' X' T' l1; (try k_lt l1); k_cells Y'; (try simp only [List.cons_append, List.nil_append] at N'); (try dsimp only); (try k_fold))
  k_steps
  k_here
  k_dflt refine' KC.use hc hes hea hlen lo m1 m2 m3 m4 m5 m6 hne hnd ?k1 ?k2 ?k3 ?k4 ?k5 ?k6 ?k7 ?k8 ?_ ?_
  (case k1 => k_asm)
  (case k2 => k_asm)
  (case k3 => k_asm)
  (case k4 => (refine' cb_drop ?kN ?kS; (case kN => k_asm); (case kS => ktd_sub)))
  (case k5 => k_asm)
  (case k6 => first | exact rfl | assumption)
  (case k7 => (show dp + 1 + dC _ < _; unfold dK at hdp; unfold dC; omega))
  (case k8 => (show un + 3 + uC _ < _; unfold uK at hun; unfold uC; omega))
  · intro k9 D9 oa9 ea9 tl9 h9 tk9 he9 hd9 hle9 F9 N9 ho9 hkd9
    k_steps
    refine' hret k9 _ _ _ tl9 _ _ he9 hd9 hle9 ?k3 (cb_drop ?k4 ?k5) ho9 hkd9
    (case k3 => k_asm)
    (case k4 => k_asm)
    (case k5 => ktd_sub)
  · intro e9 t9 ws9 dx9 k19 kv9 k29 sp9 ts9 n9 g9 h9 tk9 he9 F9 R9 U9
    k_steps
    refine' hbad _ _ _ _ _ _ _ _ _ _ _ _ _ he9 ?k1 ?k2 ?k3
    (case k2 => with_reducible assumption)
    (case k1 => k_asm)
    (case k3 => assumption)
end
section
inductive Spine (K : Frag) (news : List (Addr × Obj)) (es : List (Str × Value)) : List Value → Tr → Tr → Prop
  | nil (t : Tr) : Spine K news es [] t t
  | snoc {ws : List Value} {t l r : Tr} {sp : Int} {x : Str} {a al ar : Addr} {t1 t2 t3 : Tok} : Spine K news es ws t (.bin sp x l r) → TupIn K news a [.str (Str.ofString "bin") t1, .int sp t2, .str x t3, .ref al, .ref ar] → x ∈ signsL → NodeAt K news es ar r → Spine K news es (ws ++ [.ref a]) t l
theorem Spine.mono {K : Frag} {news news' : List (Addr × Obj)} {es : List (Str × Value)} (h : ∀ p ∈ news, p ∈ news') : ∀ {ws : List Value} {t c : Tr}, Spine K news es ws t c → Spine K news' es ws t c
  | _, _, _, .nil t => .nil t
  | _, _, _, .snoc s x hx n => .snoc (s.mono h) (x.mono h) hx (n.mono h)
theorem Spine.size {K : Frag} {news : List (Addr × Obj)} {es : List (Str × Value)} : ∀ {ws : List Value} {t c : Tr}, Spine K news es ws t c → c.size ≤ t.size
  | _, _, _, .nil t => Nat.le_refl _
  | _, _, _, .snoc (l := l) (r := r) s _ _ _ => Nat.le_trans (by show l.size ≤ l.size + r.size + 1; omega) s.size
theorem Spine.err {K : Frag} {news : List (Addr × Obj)} {es : List (Str × Value)} {e : Int} : ∀ {ws : List Value} {t c : Tr}, Spine K news es ws t c → evalT c = .error e → evalT t = .error e
  | _, _, _, .nil t, h => h
  | _, _, _, .snoc s _ _ _, h => s.err (by rw [evalT, h])
theorem Spine.len {K : Frag} {news : List (Addr × Obj)} {es : List (Str × Value)} : ∀ {ws : List Value} {t c : Tr}, Spine K news es ws t c → ws.length + c.size ≤ t.size
  | _, _, _, .nil t => by simp
  | _, _, _, .snoc (l := l) (r := r) (sp := sp) (x := x) s _ _ _ => by
    have e := s.len
    have e2 : (Tr.bin sp x l r).size = l.size + r.size + 1 := rfl
    rw [List.length_append, List.length_singleton]
    omega
theorem kl_snoc (y : Value) : ∀ ws : List Value, kl_last (ws ++ [y]) = some (ws, y)
  | [] => rfl
  | [a] => rfl
  | a :: b :: r => by
    have e := kl_snoc y (b :: r)
    show (match kl_last (b :: r ++ [y]) with | some (p, y) => some (a :: p, y) | none => some ([], a)) = _
    rw [e]
theorem sub_swap {α : Type} {a b : α} {r : List α} : ∀ p ∈ a :: b :: r, p ∈ b :: a :: r := fun p hp => by
  rcases List.mem_cons.mp hp with rfl | hp
  · exact .tail _ (.head _)
  rcases List.mem_cons.mp hp with rfl | hp
  · exact .head _
  · exact .tail _ (.tail _ hp)
theorem KdIn.sift {K : Frag} {news news' : List (Addr × Obj)} {a : Addr} {k : Kd} (x : KdIn K news a k) (h : ∀ p ∈ news, (∃ t1 t2 n d sl, p.2 = tupO k t1 t2 n d sl) → p ∈ news') : KdIn K news' a k := by
  obtain ⟨t1, t2, n, d, sl, x⟩ := x
  exact ⟨t1, t2, n, d, sl, x.imp (fun y => h _ y ⟨t1, t2, n, d, sl, rfl⟩) id⟩
theorem dict_no {w : World} {o : Obj} {es : List (Str × Value)} {k : Kd} (h : o.IsDictOf (strKind P0 w) es) : ¬ ∃ t1 t2 n d sl, o = tupO k t1 t2 n d sl := by
  rintro ⟨t1, t2, n, d, sl, rfl⟩
  obtain ⟨es, ep, _, e, _⟩ := h
  cases e
theorem list_no {its : Array Value} {c : Nat} {k : Kd} : ¬ ∃ t1 t2 n d sl, W.listOf its c = tupO k t1 t2 n d sl := by
  rintro ⟨t1, t2, n, d, sl, e⟩
  have e2 := congrArg Obj.cls e
  exact absurd e2 (by simp [W.listOf])
theorem eval_bases {K : Frag} {news : List (Addr × Obj)} {es : List (Str × Value)} : ∀ {a : Addr} {t : Tr} {k : Kd}, NodeAt K news es a t → evalT t = .ok k → k ∈ basesL
  | _, _, _, .leaf _ _ _ hb, e => by cases e; exact hb
  | _, _, _, .bin (l := l) (r := r) (x := x) _ hx nl nr, e => by
    rw [evalT] at e
    cases h1 : evalT l with
    | error s => rw [h1] at e; cases e
    | ok k1 =>
      cases h2 : evalT r with
      | error s => rw [h1, h2] at e; cases e
      | ok k2 =>
        rw [h1, h2] at e
        dsimp only at e
        cases h3 : joinedF x k1 k2 with
        | none => rw [h3] at e; cases e
        | some k3 =>
          rw [h3] at e
          cases e
          exact (plain hx (eval_bases nl h1) (eval_bases nr h2)).2 _ h3
theorem eval_ok {sp : Int} {x : Str} {l r : Tr} {k1 k2 k : Kd} (h1 : evalT l = .ok k1) (h2 : evalT r = .ok k2) (h3 : joinedF x k1 k2 = some k) : evalT (.bin sp x l r) = .ok k := by rw [evalT, h1, h2]; dsimp only; rw [h3]
theorem eval_no {sp : Int} {x : Str} {l r : Tr} {k1 k2 : Kd} (h1 : evalT l = .ok k1) (h2 : evalT r = .ok k2) (h3 : joinedF x k1 k2 = none) : evalT (.bin sp x l r) = .error sp := by rw [evalT, h1, h2]; dsimp only; rw [h3]
theorem eval_er {sp e : Int} {x : Str} {l r : Tr} {k1 : Kd} (h1 : evalT l = .ok k1) (h2 : evalT r = .error e) : evalT (.bin sp x l r) = .error e := by rw [evalT, h1, h2]
structure S2 where
  cur : Tr
  ws : List Value
  cnt : Nat
  D : Addr
  k : Kd
  oa : Obj
  ea : List (Str × Value)
  tl : List (Addr × Obj)
local macro_rules | `(tactic| walk_at "call builtin:list.append") => `(tactic| (k_here; (with_reducible show wpAny _ _ (call (Value.builtin _) [Value.ref _, _]) _ _ _); k_dflt (refine' append_K ?k1 ?k2 ?k3 ?_ ?z; (case k1 | k2 => k_asm); (case k3 => k_upd); (case z => with_reducible assumption); k_whole); intro h' F' N'))
local macro_rules | `(tactic| walk_at "call builtin:len") => `(tactic| (k_here; (with_reducible show wpAny _ _ (call (Value.builtin "len") [Value.ref _]) _ _ _); k_dflt (refine' len_list ?k1 ?k2 ?_; (case k1 => (refine News.isList (by k_asm) (by k_mem))); (case k2 => with_reducible assumption))))
local macro_rules | `(tactic| walk_at "call builtin:list.pop") => `(tactic| (k_here; (with_reducible show wpAny _ _ (call (Value.builtin _) [Value.ref _]) _ _ _); k_dflt (refine' kl_pop ?F ?N ?e ?U ?z ?_; (case F | N => k_asm); (case U => k_upd); (case e => exact kl_snoc _ _); (case z => assumption)); intro h' F' N'))
theorem chain_ct (w : World) (x : Str) (sp : Int) (lt rt : Tr) (IH : ∀ t : Tr, t.size < (Tr.bin sp x lt rt).size → KC w 287 (dK t) (uK t) t) : KC w 301 (dC (.bin sp x lt rt)) (uC (.bin sp x lt rt)) (.bin sp x lt rt) := by
  intro rest mk dmk nm dn sd l ak nd od oa t1 t2 t3 t4 t5 t6 v2 v3 v4 v5 v6 s1 s2 es ea p loose mean mg mb dp un gd cn cs a ccd cl outer A₀ base h₀ L m s Q E hes hea hlen lo m1 m2 m3 m4 m5 m6 hne hnd B F X N T hk hdp hun hret hbad
  generalize ht : Tr.bin sp x lt rt = t at *
  have hd1 : dp + 100 < recursionLimit := by unfold dC at hdp; omega
  have hu1 : un + 1500 < cLine := by unfold uC at hun; omega
  refine wpAny_call ?_
  k_dflt ktr_enter
  iterate 9 walk1
  k_here
  rename Fr _ _ _ _ => F9
  rename News _ _ _ _ => N9
  rename_i wl9 h8 hall9 l9 h9
  refine ksw_while (σ := Addr × Tr × List Value × Nat) (fun c => [(wl9, listOf c.2.2.1.toArray c.2.2.2), (ak, oa)] ++ rest) (fun c => [(Str.ofString "node", .ref c.1)]) (fun _ => True) [] (fun c => NodeAt (kk.heap_1 w.params) rest es c.1 c.2.1 ∧ Spine (kk.heap_1 w.params) rest es c.2.2.1 t c.2.1) (fun c => c.2.1.size) (nd, t, [], 0) F9 ?n1 trivial ?n2 ?n3 ?_
  (case n1 => exact fun p hp => N9 p hp)
  (case n2 => (intro p hp; cases List.mem_singleton.mp hp; exact rfl))
  (case n3 => exact ⟨hnd, .nil t⟩)
  rintro ⟨a7, t7, ws7, n7⟩ u7 h7 tk7 - ⟨hn7, hs7⟩ F7 N7
  clear F9 N9
  simp only [List.cons_append, List.nil_append] at N7
  dsimp only at hn7 hs7 N7 F7 ⊢
  have hne9 : ∀ p ∈ ((ak, oa) :: rest), p.1 ≠ wl9 := fun p hp => Nat.ne_of_lt (hall9 p hp)
  have hz9 : ws7.toArray.size ≤ sizeLine := by rw [sizeLine_eq, List.size_toArray]; have := hs7.len; omega
  cases hn7 with
  | @leaf a6 ka6 x6 kk6 sp6 ta6 tb6 tc6 htp hva hkd hb =>
    k_steps
    k_here
    k_dflt refine' KC.use (rest := (wl9, listOf ws7.toArray n7) :: rest) (kind_leaf w _ _ _) hes hea ?hl lo (.tail _ m1) (.tail _ m2) (.tail _ m3) (.tail _ m4) (.tail _ m5) (.tail _ m6) ?hn ((NodeAt.leaf htp hva hkd hb).mono fun p hp => .tail _ hp) ?k1 ?k2 ?k3 ?k4 ?k5 ?k6 ?k7 ?k8 ?_ ?_
    (case k1 => k_asm)
    (case k2 => k_asm)
    (case k3 => k_asm)
    (case k4 => (refine' cb_drop ?kN sub_swap; (case kN => k_asm)))
    (case k5 => k_asm)
    (case k6 => first | exact rfl | assumption)
    (case k7 => ktr_room)
    (case k8 => ktr_units)
    (case hl => (have := hs7.len; omega))
    (case hn => (intro p hp; rcases List.mem_cons.mp hp with rfl | hp; exact Nat.ne_of_gt l9.1; exact hne p hp))
    · intro k9 D9 oa9 ea9 tl9 h9 tk9 he9 hd9 hle9 F9 N9 ho9 hkd9
      iterate 3 walk1
      k_here
      rename Fr _ _ _ _ => FA
      rename News _ _ _ _ => NA
      refine' ksw_while (σ := S2) (fun c => (wl9, listOf c.ws.toArray c.cnt) :: (ak, c.oa) :: (c.tl ++ rest)) (fun c => [(Str.ofString "found", .ref c.D)]) (fun _ => True) [Str.ofString "node"] (fun c => Spine (kk.heap_1 w.params) rest es c.ws t c.cur ∧ evalT c.cur = .ok c.k ∧ c.k ∈ basesL ∧ KdIn (kk.heap_1 w.params) (c.tl ++ rest) c.D c.k ∧ c.oa.IsDictOf (strKind P0 w) c.ea ∧ c.ea.length ≤ ea.length + c.cur.size ∧ (∀ p ∈ c.tl, wl9 < p.1)) (fun c => c.ws.length) ⟨.leaf x6 kk6 sp6, ws7, n7, D9, k9, oa9, ea9, tl9⟩ FA ?n1 trivial ?n2 ?n3 ?_
      (case n1 => exact fun p hp => NA p (by
        rcases List.mem_cons.mp hp with rfl | hp
        · exact .tail _ (List.mem_append_right _ (.head _))
        rcases List.mem_cons.mp hp with rfl | hp
        · exact .head _
        rcases List.mem_append.mp hp with hp | hp
        · exact .tail _ (List.mem_append_left _ hp)
        · exact .tail _ (List.mem_append_right _ (.tail _ hp))))
      (case n2 => (intro p hp; cases List.mem_singleton.mp hp; exact rfl))
      (case n3 => exact ⟨hs7, he9, by cases he9; exact hb, hkd9.sift (by
        intro p hp hq
        rcases List.mem_append.mp hp with hp | hp
        · exact List.mem_append_left _ hp
        rcases List.mem_cons.mp hp with rfl | hp
        · exact absurd hq list_no
        · exact List.mem_append_right _ hp), hd9, hle9, fun p hp => ho9 _ (.tail _ (.head _)) p hp⟩)
      clear FA NA he9 hd9 hle9 ho9 hkd9 hs7 hz9
      rintro ⟨cur8, ws8, cnt8, D8, k8, oa8, ea8, tl8⟩ u8 h8 tk8 - ⟨hs8, he8, hb8, hk8, hd8, hl8, ho8⟩ F8 N8
      dsimp only at hs8 he8 hb8 hk8 hd8 hl8 ho8 F8 N8 ⊢
      cases hs8 with
      | nil =>
        k_steps
        refine' hret k8 D8 oa8 ea8 ((wl9, W.listOf [].toArray cnt8) :: tl8) _ _ he8 hd8 hl8 ?k3 (cb_drop ?k4 sub_swap) ?k5 (hk8.mono fun p hp => .tail _ hp)
        (case k3 => k_asm)
        (case k4 => k_asm)
        (case k5 => (intro q hq p hp; rcases List.mem_cons.mp hp with rfl | hp; exact hall9 q hq; exact Nat.lt_trans (hall9 q hq) (ho8 p hp)))
      | @snoc ws6 tt6 lt6 rt6 sp6 x5 a5 al5 ar5 ta5 tb5 tc5 hs6 htp6 hx6 hnr6 =>
        have hlen6 := hs6.len
        have hsz6 : (Tr.bin sp6 x5 cur8 rt6).size = cur8.size + rt6.size + 1 := rfl
        have hz3 : ((ws6 ++ [Value.ref a5]).toArray.size : Int) < 2 ^ 63 := by rw [List.size_toArray, List.length_append, List.length_singleton]; omega
        have hz4 : (ws6 ++ [Value.ref a5]).toArray.toList.length ≤ sizeLine := by
          show (ws6 ++ [Value.ref a5]).length ≤ sizeLine
          rw [sizeLine_eq, List.length_append, List.length_singleton]; omega
        have hz5 : 0 < ((ws6 ++ [Value.ref a5]).toArray.size : Int) := by rw [List.size_toArray, List.length_append, List.length_singleton]; omega
        have hne8 : ∀ p ∈ ((ak, oa8) :: (tl8 ++ rest)), p.1 ≠ wl9 := fun p hp => by
          rcases List.mem_cons.mp hp with rfl | hp
          · exact Nat.ne_of_lt l9.1
          rcases List.mem_append.mp hp with hp | hp
          · exact Nat.ne_of_gt (ho8 p hp)
          · exact hne9 p (.tail _ hp)
        have ma1 : (mk, mkO dmk) ∈ tl8 ++ rest := List.mem_append_right _ m1
        have ma2 : (dmk, mkD w t1 t2 t3 t4 t5 t6 (.ref nm) v2 v3 v4 v5 v6) ∈ tl8 ++ rest := List.mem_append_right _ m2
        have htp7 := htp6.mono (news' := tl8 ++ rest) fun p hp => List.mem_append_right _ hp
        k_steps
        k_here
        have ht6 := hs6.size
        have hsr : ∀ p ∈ rest, p ∈ (wl9, W.listOf ws6.toArray (cnt8 + 1)) :: (tl8 ++ rest) := fun p hp => .tail _ (List.mem_append_right _ hp)
        k_dflt refine' KC.use (rest := (wl9, W.listOf ws6.toArray (cnt8 + 1)) :: (tl8 ++ rest)) (IH rt6 (by omega)) hes hd8 ?hl lo (hsr _ m1) (hsr _ m2) (hsr _ m3) (hsr _ m4) (hsr _ m5) (hsr _ m6) ?hn (hnr6.mono hsr) ?k1 ?k2 ?k3 ?k4 ?k5 ?k6 ?k7 ?k8 ?_ ?_
        (case k1 => k_asm)
        (case k2 => k_asm)
        (case k3 => k_asm)
        (case k4 => (refine' cb_drop ?kN sub_swap; (case kN => k_asm)))
        (case k5 => k_asm)
        (case k6 => first | exact rfl | assumption)
        (case k7 => (show dp + 1 + dK rt6 < _; unfold dC at hdp; unfold dK; omega))
        (case k8 => (show un + 3 + uK rt6 < _; unfold uC at hun; unfold uK; omega))
        (case hl => omega)
        (case hn => (intro p hp; rcases List.mem_cons.mp hp with rfl | hp; exact Nat.ne_of_gt l9.1; rcases List.mem_append.mp hp with hp | hp; exact Nat.ne_of_gt (Nat.lt_trans l9.1 (ho8 p hp)); exact hne p hp))
        · intro kr Dr oar ear tlr hr tkr her hdr hler Fr9 Nr9 hor hkdr
          have hbr := eval_bases hnr6 her
          have hn1 : ∀ p ∈ tlr ++ ((wl9, W.listOf ws6.toArray (cnt8 + 1)) :: (tl8 ++ rest)), p ∈ (ak, oar) :: (tlr ++ ((wl9, W.listOf ws6.toArray (cnt8 + 1)) :: (tl8 ++ rest))) := fun p hp => .tail _ hp
          have hn2 : ∀ p ∈ tl8 ++ rest, p ∈ tlr ++ ((wl9, W.listOf ws6.toArray (cnt8 + 1)) :: (tl8 ++ rest)) := fun p hp => List.mem_append_right _ (.tail _ hp)
          have htq := htp7.mono hn2
          have mq2 := hn2 _ ma2
          have mq1 := hn2 _ ma1
          k_steps
          k_here
          k_dflt refine' KdC.use (joined_ct w _ mk dmk D8 Dr _ _ _ _ _ _ _ _ _ _ _ _ k8 kr x5 _ sp6 _ (hn1 _ mq1) (hn1 _ mq2) ((hk8.mono hn2).mono hn1) (hkdr.mono hn1) (bases_d _ hb8) (bases_d _ hbr) (signs_len _ hx6)) ?k1 ?k2 ?k3 ?k4 ?k5 ?k6 ?k7 ?k8 ?_ ?_
          (case k1 => k_asm)
          (case k2 => k_asm)
          (case k3 => k_asm)
          (case k4 => k_asm)
          (case k5 => k_asm)
          (case k6 => first | exact rfl | assumption)
          (case k7 => ktr_room)
          (case k8 => ktr_units)
          · intro kq Dq tlq hq tkq ejq Fq Nq hlq hkdq
            k_steps
            rename Fr _ _ _ _ => FA
            rename News _ _ _ _ => NA
            refine ksw_end ⟨.bin sp6 x5 cur8 rt6, ws6, cnt8 + 1, Dq, kq, oar, ear, tlq ++ (tlr ++ tl8)⟩ FA NA ?_ trivial (by intro p hp; cases List.mem_singleton.mp hp; exact rfl) ?_ ⟨hs6, eval_ok he8 her ejq, (plain hx6 hb8 hbr).2 _ ejq, hkdq.sift ?_, hdr, ?_, ?_⟩ (by simp)
            · intro p hp
              simp only [List.mem_cons, List.mem_append] at hp ⊢
              rcases hp with h | h | (h | h | h) | h
              · exact .inr (.inr (.inr (.inl h)))
              · exact .inr (.inl h)
              · exact .inl h
              · exact .inr (.inr (.inl h))
              · exact .inr (.inr (.inr (.inr (.inl h))))
              · exact .inr (.inr (.inr (.inr (.inr h))))
            · intro z h2 h3
              have e1 : z ≠ Str.ofString "found" := h2 _ (.head _)
              have e2 : z ≠ Str.ofString "node" := by
                rintro rfl
                exact absurd h3 (by decide)
              simp [kstB, e1, e2]
            · intro p hp hq
              simp only [List.mem_cons, List.mem_append] at hp ⊢
              rcases hp with h | h | h | h | h | h
              · exact .inl (.inl h)
              · rw [h] at hq; exact absurd hq (dict_no hdr)
              · exact .inl (.inr (.inl h))
              · rw [h] at hq; exact absurd hq list_no
              · exact .inl (.inr (.inr h))
              · exact .inr h
            · show ear.length ≤ ea.length + (Tr.bin sp6 x5 cur8 rt6).size
              omega
            · intro p hp
              rcases List.mem_append.mp hp with h | h
              · exact hlq (wl9, _) (.tail _ (List.mem_append_right _ (.head _))) p h
              rcases List.mem_append.mp h with h | h
              · exact hor (wl9, _) (.tail _ (.head _)) p h
              · exact ho8 p h
          · intro e9 t9 ws9 dx9 k19 kv9 k29 ts9 n9 g9 h9c tk9 he9 F9 R9 U9
            k_steps
            refine' hbad _ _ _ _ _ _ _ _ _ _ _ _ _ (hs6.err (eval_no he8 her he9)) ?k1 ?k2 ?k3
            (case k2 => (refine' raisedD_drop ?kr ?ks; (case kr => with_reducible assumption); (case ks => exact fun _ h => nomatch h)))
            (case k1 => k_asm)
            (case k3 => assumption)
        · intro e9 t9 ws9 dx9 k19 kv9 k29 sp9 ts9 n9 g9 h9c tk9 he9 F9 R9 U9
          k_steps
          refine' hbad _ _ _ _ _ _ _ _ _ _ _ _ _ (hs6.err (eval_er he8 he9)) ?k1 ?k2 ?k3
          (case k2 => with_reducible assumption)
          (case k1 => k_asm)
          (case k3 => assumption)
    · intro e9 t9 ws9 dx9 k19 kv9 k29 sp9 ts9 n9 g9 h9 tk9 he9 F9 R9 U9
      cases he9
  | @bin a6 al6 ar6 x6 sp6 ta6 tb6 tc6 l6 r6 htp hx hnl hnr =>
    k_steps
    rename Fr _ _ _ _ => FA
    rename News _ _ _ _ => NA
    rw [List.push_toArray] at NA
    exact ksw_end (al6, l6, ws7 ++ [.ref a7], n7 + 1) FA NA (fun p hp => hp) trivial (by intro p hp; cases List.mem_singleton.mp hp; exact rfl) (by intro z h2 h3; have e : z ≠ Str.ofString "node" := h2 _ (.head _); simp [kstB, e]) ⟨hnl, .snoc hs7 htp hx hnr⟩ (Nat.lt_succ_of_le (Nat.le_add_right l6.size r6.size))
end
section
theorem KC.weaken {w : World} {f : Addr} {d d' u u' : Nat} {t : Tr} (c : KC w f d u t) (hd : d ≤ d') (hu : u ≤ u') : KC w f d' u' t := by
  intro rest mk dmk nm dn sd l ak nd od oa t1 t2 t3 t4 t5 t6 v2 v3 v4 v5 v6 s1 s2 es ea p loose mean mg mb dp un gd cn cs a ccd cl outer A₀ base h₀ L m s Q E hes hea hlen lo m1 m2 m3 m4 m5 m6 hne hnd B F X N T hk hdp hun hret hbad
  exact c rest mk dmk nm dn sd l ak nd od oa t1 t2 t3 t4 t5 t6 v2 v3 v4 v5 v6 s1 s2 es ea p loose mean mg mb dp un gd cn cs a ccd cl outer A₀ base h₀ L m s Q E hes hea hlen lo m1 m2 m3 m4 m5 m6 hne hnd B F X N T hk (by omega) (by omega) hret hbad
theorem kind_ct (w : World) (t : Tr) : KC w 287 (dK t) (uK t) t := by
  have all : ∀ n, ∀ t : Tr, t.size < n → KC w 287 (dK t) (uK t) t := by
    intro n
    induction n with
    | zero => intro t h; exact absurd h (Nat.not_lt_zero _)
    | succ n ih =>
      intro t h
      cases t with
      | leaf x k sp => exact (kind_leaf w x k sp).weaken (by unfold dK; omega) (by unfold uK; omega)
      | bin sp x l r => exact kind_bin w x sp l r (chain_ct w x sp l r fun t' h' => ih t' (Nat.lt_of_lt_of_le h' (Nat.le_of_lt_succ h)))
  exact all _ t (Nat.lt_succ_self _)
noncomputable def KC2 (w : World) (dN uN : Nat) (t : Tr) : Prop :=
  ∀ (rest : List (Addr × Obj)) (mk dmk nm dn sd l ak nd : Addr) (od oa : Obj) (t1 t2 t3 t4 t5 t6 : Tok) (v2 v3 v4 v5 v6 : Value) (s1 s2 : Tok) (es ea : List (Str × Value)) (p : Program) (loose : List Str) (mean : ExcName → Option Value) (mg mb : Str → Option Value) (dp un : Nat) (gd : Option (List Code)) (cn : Str) (cs : Scope) (a : Addr) (ccd : Value) (cl : List (Str × Addr)) (outer : List Env) (A₀ : Around) (base h₀ : Heap) (L : Addr) (m : Str → Option Value) (s : Shared) (Q E : Value → Shared → Prop),
    od.IsDictOf (strKind P0 w) es → oa.IsDictOf (strKind P0 w) ea → ea.length + t.size ≤ 100 → (sd == sysModules) = false →
    (mk, mkO dmk) ∈ rest → (dmk, mkD w t1 t2 t3 t4 t5 t6 (.ref nm) v2 v3 v4 v5 v6) ∈ rest → (nm, nmO dn) ∈ rest → (dn, nmD w s1 s2 l ak) ∈ rest → (l, listOf #[.ref sd] 0) ∈ rest → (sd, od) ∈ rest → (∀ p ∈ rest, p.1 ≠ ak) → NodeAt (kk.heap_1 w.params) rest es nd t →
    Below A₀ base outer h₀ → Fr h₀ L s.heap m → (kk.heap_1 w.params).In h₀ → News h₀ L s.heap ((ak, oa) :: rest) → Top p loose mean mg mb h₀ → cs.kind = .function → dp + dN < recursionLimit → un + uN < cLine →
    (∀ k D oa' ea' tl h' tk', evalT t = .ok k → oa'.IsDictOf (strKind P0 w) ea' → ea'.length ≤ ea.length + t.size → Fr h₀ L h' m → News h₀ L h' ((ak, oa') :: (tl ++ rest)) → (∀ q ∈ (ak, oa) :: rest, ∀ p ∈ tl, q.1 < p.1) → KdIn (kk.heap_1 w.params) (tl ++ rest) D k → Q (.ref D) { s with heap := h', toks := tk' }) →
    (∀ e t' ws dx k1' kv' k2' sp ts n g h' tk', evalT t = .error sp → Fr h₀ L g m → RaisedD base g (envX cn cs L a ccd cl :: outer) e (.ref 88) t' ws dx ((dx, spotD w k1' kv' k2' sp ts n) :: []) h' → g.UpToSlots h' → E (.ref e) { s with heap := h', toks := tk' }) →
    wpAny (model P0 w) (ktrTop dp un gd cn cs L a ccd cl outer) (call (.ref 282) [.ref mk, .ref nd, .none]) Q E s
theorem kindof2_ct (w : World) (t : Tr) : KC2 w (dK t + 10) (uK t + 100) t := by
  intro rest mk dmk nm dn sd l ak nd od oa t1 t2 t3 t4 t5 t6 v2 v3 v4 v5 v6 s1 s2 es ea p loose mean mg mb dp un gd cn cs a ccd cl outer A₀ base h₀ L m s Q E hes hea hlen lo m1 m2 m3 m4 m5 m6 hne hnd B F X N T hk hdp hun hret hbad
  have hd1 : dp + 5 < recursionLimit := by unfold dK at hdp; omega
  have hu1 : un + 50 < cLine := by unfold uK at hun; omega
  refine wpAny_call ?_
  k_dflt ktr_enter
  k_steps
  k_here
  k_dflt refine' KC.use (kind_ct w t) hes hea hlen lo m1 m2 m3 m4 m5 m6 hne hnd ?k1 ?k2 ?k3 ?k4 ?k5 ?k6 ?k7 ?k8 ?_ ?_
  (case k1 => k_asm)
  (case k2 => k_asm)
  (case k3 => k_asm)
  (case k4 => k_asm)
  (case k5 => k_asm)
  (case k6 => first | exact rfl | assumption)
  (case k7 => (show dp + 1 + dK _ < _; omega))
  (case k8 => (show un + 3 + uK _ < _; omega))
  · intro k9 D9 oa9 ea9 tl9 h9 tk9 he9 hd9 hle9 F9 N9 ho9 hkd9
    k_steps
    refine' hret k9 _ _ _ tl9 _ _ he9 hd9 hle9 ?k3 ?k4 ho9 hkd9
    (case k3 => k_asm)
    (case k4 => k_asm)
  · intro e9 t9 ws9 dx9 k19 kv9 k29 sp9 ts9 n9 g9 h9 tk9 he9 F9 R9 U9
    k_steps
    refine' hbad _ _ _ _ _ _ _ _ _ _ _ _ _ he9 ?k1 ?k2 ?k3
    (case k2 => with_reducible assumption)
    (case k1 => k_asm)
    (case k3 => assumption)
end
end
section
open PySem.SeqAt
noncomputable def basesP : List (Addr × Kd) := [(501, ⟨.int, false, 0⟩), (502, ⟨.int, true, 0⟩), (503, ⟨.bool, false, 0⟩), (504, ⟨.bool, true, 0⟩), (505, ⟨.str, false, 0⟩), (506, ⟨.set, false, 0⟩), (507, ⟨.none, false, 0⟩), (508, ⟨.int, false, 1⟩), (509, ⟨.int, true, 1⟩), (510, ⟨.bool, false, 1⟩), (511, ⟨.bool, true, 1⟩), (512, ⟨.str, false, 1⟩), (513, ⟨.set, false, 1⟩), (514, ⟨.none, false, 1⟩), (515, ⟨.int, false, 2⟩), (516, ⟨.int, true, 2⟩), (517, ⟨.bool, true, 2⟩), (518, ⟨.str, false, 2⟩), (519, ⟨.none, false, 2⟩), (520, ⟨.set, false, 2⟩)]
noncomputable def basesV : List Value := basesP.map fun p => .ref p.1
noncomputable def signsV : List Value := [.str (Str.ofString "^") 961, .str (Str.ofString "+") 962, .str (Str.ofString "-") 963, .str (Str.ofString "*") 964, .str (Str.ofString "div") 965, .str (Str.ofString "mod") 966, .str (Str.ofString "/\\") 967, .str (Str.ofString "\\/") 968, .str (Str.ofString "->") 969, .str (Str.ofString "<-") 970, .str (Str.ofString "<->") 971, .str (Str.ofString "xor") 972, .str (Str.ofString "union") 973, .str (Str.ofString "diff") 974, .str (Str.ofString "symdiff") 975, .str (Str.ofString "intersect") 976, .str (Str.ofString "subset") 977, .str (Str.ofString "superset") 978, .str (Str.ofString "in") 979, .str (Str.ofString "++") 980, .str (Str.ofString "<") 981, .str (Str.ofString "<=") 982, .str (Str.ofString ">") 983, .str (Str.ofString ">=") 984, .str (Str.ofString "=") 985, .str (Str.ofString "!=") 986, .str (Str.ofString "==") 987, .str (Str.ofString "..") 988, .str (Str.ofString "&") 989]
theorem bases_at (w : World) : (kk.heap_1 w.params).lookup 521 = some (tupX basesV 0 none #[]) := by k_is
theorem signs_at (w : World) : (kk.heap_1 w.params).lookup 522 = some (tupX signsV 0 none #[]) := by k_is
theorem base_kd (w : World) (news : List (Addr × Obj)) : ∀ p ∈ basesP, KdIn (kk.heap_1 w.params) news p.1 p.2 := by
  unfold basesP
  simp only [List.forall_mem_cons]
  exact ⟨⟨_, _, _, _, _, .inr (by k_is)⟩, ⟨_, _, _, _, _, .inr (by k_is)⟩, ⟨_, _, _, _, _, .inr (by k_is)⟩, ⟨_, _, _, _, _, .inr (by k_is)⟩, ⟨_, _, _, _, _, .inr (by k_is)⟩, ⟨_, _, _, _, _, .inr (by k_is)⟩, ⟨_, _, _, _, _, .inr (by k_is)⟩, ⟨_, _, _, _, _, .inr (by k_is)⟩, ⟨_, _, _, _, _, .inr (by k_is)⟩, ⟨_, _, _, _, _, .inr (by k_is)⟩, ⟨_, _, _, _, _, .inr (by k_is)⟩, ⟨_, _, _, _, _, .inr (by k_is)⟩, ⟨_, _, _, _, _, .inr (by k_is)⟩, ⟨_, _, _, _, _, .inr (by k_is)⟩, ⟨_, _, _, _, _, .inr (by k_is)⟩, ⟨_, _, _, _, _, .inr (by k_is)⟩, ⟨_, _, _, _, _, .inr (by k_is)⟩, ⟨_, _, _, _, _, .inr (by k_is)⟩, ⟨_, _, _, _, _, .inr (by k_is)⟩, ⟨_, _, _, _, _, .inr (by k_is)⟩, fun _ h => nomatch h⟩
theorem base_mem : ∀ p ∈ basesP, p.2 ∈ basesL := fun p hp => List.mem_map_of_mem (f := fun p : Addr × Kd => p.2) hp
theorem sign_mem : ∀ v ∈ signsV, ∃ x t, v = .str x t ∧ x ∈ signsL := by
  unfold signsV
  simp only [List.forall_mem_cons]
  exact ⟨⟨_, _, rfl, (.head _)⟩, ⟨_, _, rfl, (.tail _ (.head _))⟩, ⟨_, _, rfl, (.tail _ (.tail _ (.head _)))⟩, ⟨_, _, rfl, (.tail _ (.tail _ (.tail _ (.head _))))⟩, ⟨_, _, rfl, (.tail _ (.tail _ (.tail _ (.tail _ (.head _)))))⟩, ⟨_, _, rfl, (.tail _ (.tail _ (.tail _ (.tail _ (.tail _ (.head _))))))⟩, ⟨_, _, rfl, (.tail _ (.tail _ (.tail _ (.tail _ (.tail _ (.tail _ (.head _)))))))⟩, ⟨_, _, rfl, (.tail _ (.tail _ (.tail _ (.tail _ (.tail _ (.tail _ (.tail _ (.head _))))))))⟩, ⟨_, _, rfl, (.tail _ (.tail _ (.tail _ (.tail _ (.tail _ (.tail _ (.tail _ (.tail _ (.head _)))))))))⟩, ⟨_, _, rfl, (.tail _ (.tail _ (.tail _ (.tail _ (.tail _ (.tail _ (.tail _ (.tail _ (.tail _ (.head _))))))))))⟩, ⟨_, _, rfl, (.tail _ (.tail _ (.tail _ (.tail _ (.tail _ (.tail _ (.tail _ (.tail _ (.tail _ (.tail _ (.head _)))))))))))⟩, ⟨_, _, rfl, (.tail _ (.tail _ (.tail _ (.tail _ (.tail _ (.tail _ (.tail _ (.tail _ (.tail _ (.tail _ (.tail _ (.head _))))))))))))⟩, ⟨_, _, rfl, (.tail _ (.tail _ (.tail _ (.tail _ (.tail _ (.tail _ (.tail _ (.tail _ (.tail _ (.tail _ (.tail _ (.tail _ (.head _)))))))))))))⟩, ⟨_, _, rfl, (.tail _ (.tail _ (.tail _ (.tail _ (.tail _ (.tail _ (.tail _ (.tail _ (.tail _ (.tail _ (.tail _ (.tail _ (.tail _ (.head _))))))))))))))⟩, ⟨_, _, rfl, (.tail _ (.tail _ (.tail _ (.tail _ (.tail _ (.tail _ (.tail _ (.tail _ (.tail _ (.tail _ (.tail _ (.tail _ (.tail _ (.tail _ (.head _)))))))))))))))⟩, ⟨_, _, rfl, (.tail _ (.tail _ (.tail _ (.tail _ (.tail _ (.tail _ (.tail _ (.tail _ (.tail _ (.tail _ (.tail _ (.tail _ (.tail _ (.tail _ (.tail _ (.head _))))))))))))))))⟩, ⟨_, _, rfl, (.tail _ (.tail _ (.tail _ (.tail _ (.tail _ (.tail _ (.tail _ (.tail _ (.tail _ (.tail _ (.tail _ (.tail _ (.tail _ (.tail _ (.tail _ (.tail _ (.head _)))))))))))))))))⟩, ⟨_, _, rfl, (.tail _ (.tail _ (.tail _ (.tail _ (.tail _ (.tail _ (.tail _ (.tail _ (.tail _ (.tail _ (.tail _ (.tail _ (.tail _ (.tail _ (.tail _ (.tail _ (.tail _ (.head _))))))))))))))))))⟩, ⟨_, _, rfl, (.tail _ (.tail _ (.tail _ (.tail _ (.tail _ (.tail _ (.tail _ (.tail _ (.tail _ (.tail _ (.tail _ (.tail _ (.tail _ (.tail _ (.tail _ (.tail _ (.tail _ (.tail _ (.head _)))))))))))))))))))⟩, ⟨_, _, rfl, (.tail _ (.tail _ (.tail _ (.tail _ (.tail _ (.tail _ (.tail _ (.tail _ (.tail _ (.tail _ (.tail _ (.tail _ (.tail _ (.tail _ (.tail _ (.tail _ (.tail _ (.tail _ (.tail _ (.head _))))))))))))))))))))⟩, ⟨_, _, rfl, (.tail _ (.tail _ (.tail _ (.tail _ (.tail _ (.tail _ (.tail _ (.tail _ (.tail _ (.tail _ (.tail _ (.tail _ (.tail _ (.tail _ (.tail _ (.tail _ (.tail _ (.tail _ (.tail _ (.tail _ (.head _)))))))))))))))))))))⟩, ⟨_, _, rfl, (.tail _ (.tail _ (.tail _ (.tail _ (.tail _ (.tail _ (.tail _ (.tail _ (.tail _ (.tail _ (.tail _ (.tail _ (.tail _ (.tail _ (.tail _ (.tail _ (.tail _ (.tail _ (.tail _ (.tail _ (.tail _ (.head _))))))))))))))))))))))⟩, ⟨_, _, rfl, (.tail _ (.tail _ (.tail _ (.tail _ (.tail _ (.tail _ (.tail _ (.tail _ (.tail _ (.tail _ (.tail _ (.tail _ (.tail _ (.tail _ (.tail _ (.tail _ (.tail _ (.tail _ (.tail _ (.tail _ (.tail _ (.tail _ (.head _)))))))))))))))))))))))⟩, ⟨_, _, rfl, (.tail _ (.tail _ (.tail _ (.tail _ (.tail _ (.tail _ (.tail _ (.tail _ (.tail _ (.tail _ (.tail _ (.tail _ (.tail _ (.tail _ (.tail _ (.tail _ (.tail _ (.tail _ (.tail _ (.tail _ (.tail _ (.tail _ (.tail _ (.head _))))))))))))))))))))))))⟩, ⟨_, _, rfl, (.tail _ (.tail _ (.tail _ (.tail _ (.tail _ (.tail _ (.tail _ (.tail _ (.tail _ (.tail _ (.tail _ (.tail _ (.tail _ (.tail _ (.tail _ (.tail _ (.tail _ (.tail _ (.tail _ (.tail _ (.tail _ (.tail _ (.tail _ (.tail _ (.head _)))))))))))))))))))))))))⟩, ⟨_, _, rfl, (.tail _ (.tail _ (.tail _ (.tail _ (.tail _ (.tail _ (.tail _ (.tail _ (.tail _ (.tail _ (.tail _ (.tail _ (.tail _ (.tail _ (.tail _ (.tail _ (.tail _ (.tail _ (.tail _ (.tail _ (.tail _ (.tail _ (.tail _ (.tail _ (.tail _ (.head _))))))))))))))))))))))))))⟩, ⟨_, _, rfl, (.tail _ (.tail _ (.tail _ (.tail _ (.tail _ (.tail _ (.tail _ (.tail _ (.tail _ (.tail _ (.tail _ (.tail _ (.tail _ (.tail _ (.tail _ (.tail _ (.tail _ (.tail _ (.tail _ (.tail _ (.tail _ (.tail _ (.tail _ (.tail _ (.tail _ (.tail _ (.head _)))))))))))))))))))))))))))⟩, ⟨_, _, rfl, (.tail _ (.tail _ (.tail _ (.tail _ (.tail _ (.tail _ (.tail _ (.tail _ (.tail _ (.tail _ (.tail _ (.tail _ (.tail _ (.tail _ (.tail _ (.tail _ (.tail _ (.tail _ (.tail _ (.tail _ (.tail _ (.tail _ (.tail _ (.tail _ (.tail _ (.tail _ (.tail _ (.head _))))))))))))))))))))))))))))⟩, ⟨_, _, rfl, (.tail _ (.tail _ (.tail _ (.tail _ (.tail _ (.tail _ (.tail _ (.tail _ (.tail _ (.tail _ (.tail _ (.tail _ (.tail _ (.tail _ (.tail _ (.tail _ (.tail _ (.tail _ (.tail _ (.tail _ (.tail _ (.tail _ (.tail _ (.tail _ (.tail _ (.tail _ (.tail _ (.tail _ (.head _)))))))))))))))))))))))))))))⟩, fun _ h => nomatch h⟩
theorem seq_at {i : Int} {n : Nat} (h0 : 0 ≤ i) (h : i < n) : seqIndex? i n = some i.toNat := by
  have e : (if i < 0 then i + (n : Int) else i) = i := if_neg (by omega)
  show (if (0 ≤ (if i < 0 then i + (n : Int) else i) && (if i < 0 then i + (n : Int) else i) < n) = true then some (if i < 0 then i + (n : Int) else i).toNat else none) = _
  rw [e, if_pos (by simp [h0, h])]
theorem bases_item {w : World} {A : Around} {E : Value → Shared → Prop} {s : Shared} {h₀ : Heap} {L : Addr} {m : Str → Option Value} {value slice : PySem.Expr} {u : Tok} {i : Int} {Q : Value → Shared → Prop} (F : Fr h₀ L s.heap m) (X : (kk.heap_1 w.params).In h₀) (h0 : 0 ≤ i) (hi : i < 20)
    (h : ∀ a k, KdIn (kk.heap_1 w.params) [] a k → k ∈ basesL → Q (.ref a) s)
    (hs : subscripted slice false (.ref 521) (.int i u) = operate [.ref 521, .int i u] (getItem (.ref 521) (.int i u))) : wpAny (model P0 w) A (subscriptTail value slice (.ref 521) (.int i u)) Q E s := by
  have T : IsTup s.heap 521 basesV.toArray := ⟨_, F.keep _ _ (X _ _ (bases_at w)), rfl, 0, rfl⟩
  have hl : i.toNat < basesP.length := by show i.toNat < 20; omega
  have e : basesV[i.toNat]? = some (.ref (basesP[i.toNat]).1) := by
    unfold basesV
    rw [List.getElem?_map, List.getElem?_eq_getElem hl]
    rfl
  exact item_tupleT (l := basesV) T (by omega) (by omega) (seq_at (n := basesV.length) h0 hi) e (h _ _ (base_kd w [] _ (List.getElem_mem hl)) (base_mem _ (List.getElem_mem hl))) hs
theorem signs_item {w : World} {A : Around} {E : Value → Shared → Prop} {s : Shared} {h₀ : Heap} {L : Addr} {m : Str → Option Value} {value slice : PySem.Expr} {u : Tok} {i : Int} {Q : Value → Shared → Prop} (F : Fr h₀ L s.heap m) (X : (kk.heap_1 w.params).In h₀) (h0 : 0 ≤ i) (hi : i < 29)
    (h : ∀ x t, x ∈ signsL → Q (.str x t) s)
    (hs : subscripted slice false (.ref 522) (.int i u) = operate [.ref 522, .int i u] (getItem (.ref 522) (.int i u))) : wpAny (model P0 w) A (subscriptTail value slice (.ref 522) (.int i u)) Q E s := by
  have T : IsTup s.heap 522 signsV.toArray := ⟨_, F.keep _ _ (X _ _ (signs_at w)), rfl, 0, rfl⟩
  have hl : i.toNat < signsV.length := by show i.toNat < 29; omega
  obtain ⟨x, t, e, hx⟩ := sign_mem _ (List.getElem_mem hl)
  exact item_tupleT (l := signsV) T (by omega) (by omega) (seq_at (n := signsV.length) h0 hi) ((List.getElem?_eq_getElem hl).trans (congrArg some e)) (h x t hx) hs
noncomputable def BRefs (ys : List Value) : Prop := ∀ v ∈ ys, ∃ p ∈ basesP, v = .ref p.1
theorem brefs_reads {w : World} {h₀ : Heap} {L : Addr} {s : Shared} {m : Str → Option Value} (F : Fr h₀ L s.heap m) (X : (kk.heap_1 w.params).In h₀) : ∀ {ys : List Value}, BRefs ys → ∃ ds as, ReadsAll s.heap ys ds as ∧ PyData.canLayAll0 ds = true ∧ PyData.depthAll ds ≤ 1 ∧ ds.isEmpty = ys.isEmpty
  | [], _ => ⟨[], [], .nil, rfl, Nat.zero_le _, rfl⟩
  | v :: r, h => by
    obtain ⟨ds, as, r1, r2, r3, _⟩ := brefs_reads F X (ys := r) fun v hv => h v (.tail _ hv)
    obtain ⟨p, hp, rfl⟩ := h v (.head _)
    obtain ⟨bs, rd⟩ := kd_reads (base_kd w [] p hp) F X News.nil
    refine ⟨_ :: ds, bs ++ as, .cons rd r1, ?_, ?_, rfl⟩
    · have e := kd_shaped p.2
      unfold shaped at e
      rw [PyData.canLayAll0, (Bool.and_eq_true_iff.mp e).1, r2]
      rfl
    · rw [PyData.depthAll]
      refine Nat.max_le.mpr ⟨?_, r3⟩
      simp [PyData.depth, PyData.depthAll]
theorem eq_nil {w : World} {A : Around} {E : Value → Shared → Prop} {s : Shared} {h₀ : Heap} {L : Addr} {m : Str → Option Value} {D T : Addr} {ys : List Value} {Q : Value → Shared → Prop} (hy : BRefs ys) (F : Fr h₀ L s.heap m) (X : (kk.heap_1 w.params).In h₀) (hD : s.heap.IsList D ys.toArray) (hT : s.heap.IsList T #[]) (hu : A.units + 64 < cLine)
    (h : Q (.bool ys.isEmpty) s) : wpAny (model P0 w) A (compareOp .Eq (.ref D) (.ref T)) Q E s := by
  obtain ⟨oa, ga, ca, na, da⟩ := hD
  obtain ⟨ob, gb, cb, nb, db⟩ := hT
  obtain ⟨ds, as, r1, r2, r3, r4⟩ := brefs_reads F X hy
  refine eq_dataH (reads_list_at ga ca da (by simpa using r1)) (reads_list_at gb cb db .nil) ?_ (by simp [shaped, PyData.canLay0, PyData.canLayAll0, PyData.depth, PyData.depthAll]) hu ?_
  · unfold shaped
    refine Bool.and_eq_true_iff.mpr ⟨by rw [PyData.canLay0]; exact r2, decide_eq_true ?_⟩
    rw [PyData.depth]
    omega
  · rw [← r4] at h
    cases ds with
    | nil => simpa [PyData.eqv, PyData.eqvAll] using h
    | cons b r => simpa [PyData.eqv, PyData.eqvAll] using h
theorem some_item {w : World} {A : Around} {E : Value → Shared → Prop} {s : Shared} {value slice : PySem.Expr} {D : Addr} {u : Tok} {i : Int} {ys : List Value} {Q : Value → Shared → Prop} (hy : BRefs ys) (hl : ys.length ≤ 20) (hD : s.heap.IsList D ys.toArray) (h0 : 0 ≤ i) (hi : i < (ys.toArray.size : Int))
    (h : ∀ a k, KdIn (kk.heap_1 w.params) [] a k → k ∈ basesL → Q (.ref a) s)
    (hsub : subscripted slice false (.ref D) (.int i u) = operate [.ref D, .int i u] (getItem (.ref D) (.int i u)) := by with_unfolding_all rfl) (hg : ∀ r, letTemporaryGo value (.ref D) r = pure () := by intro _; with_unfolding_all rfl) :
    wpAny (model P0 w) A (subscriptTail value slice (.ref D) (.int i u)) Q E s := by
  rw [List.size_toArray] at hi
  have hlt : i.toNat < ys.length := by omega
  obtain ⟨p, hp, e⟩ := hy _ (List.getElem_mem hlt)
  refine item_list hD h0 (by omega) (x := .ref p.1) ?_ (h _ _ (base_kd w [] _ hp) (base_mem _ hp)) hsub hg
  rw [List.getElem?_toArray, List.getElem?_eq_getElem hlt, e]
theorem dip_use {w : World} {news : List (Addr × Obj)} {g : Obj → List (Addr × Obj)} {fd cl : Addr} {o : Obj} {tm : Tok} {n many : Int} {its : Array Value} {ns : List Int} {c : Nat} 
    {p : Program} {loose : List Str} {mean : ExcName → Option Value} {mg mb : Str → Option Value} {dp un : Nat} {gd : Option (List Code)} {cn : Str} {cs : Scope} {a : Addr} {ccd : Value} {cll : List (Str × Addr)} {outer : List Env} {A₀ : Around} {base h₀ : Heap} {L : Addr} {m : Str → Option Value} {s : Shared} {Q E : Value → Shared → Prop}
    (hits : IntsAre its.toList ns) (hsz : its.size ≤ 60) (B : Below A₀ base outer h₀) (F : Fr h₀ L s.heap m) (X : (kk.heap_1 w.params).In h₀) (N : News h₀ L s.heap news) (U : UpdF fd o news g) (ho : IsFeed w cl n o) (hcl : (cl, W.listOf its c) ∈ news) (hcf : cl ≠ fd) (hm : 0 < many ∧ many ≤ 100) (hn : 0 ≤ n ∧ n ≤ 1000000) (T : Top p loose mean mg mb h₀) (hk : cs.kind = .function) (hdp : dp + 20 < recursionLimit) (hun : un + 200 < cLine)
    (hret : ∀ r t o' h' tk', 0 ≤ r → r < many → IsFeed w cl (n + 1) o' → Fr h₀ L h' m → News h₀ L h' (g o') → Q (.int r t) { s with heap := h', toks := tk' }) :
    wpAny (model P0 w) (ktrTop dp un gd cn cs L a ccd cll outer) (call (.ref 536) [.ref fd, .int many tm]) Q E s := by
  obtain ⟨tn, ho⟩ := ho
  obtain ⟨pre, post, rfl, hg, h1, h2⟩ := U.split
  have hcl' : (cl, W.listOf its c) ∈ pre ++ post := by
    rcases List.mem_append.mp hcl with h | h
    · exact List.mem_append_left _ h
    rcases List.mem_cons.mp h with h | h
    · exact absurd (congrArg Prod.fst h) hcf
    · exact List.mem_append_right _ h
  refine dip_ct w (pre ++ post) fd cl o tn tm n many its ns c hm hn ho hcl' hits hsz ?_ p loose mean mg mb dp un gd cn cs a ccd cll outer A₀ base h₀ L m s Q E B F X ?_ T hk hdp hun ?_
  · intro p hp
    rcases List.mem_append.mp hp with h | h
    · exact h1 p h
    · exact h2 p h
  · intro p hp
    rcases List.mem_cons.mp hp with rfl | hp
    · exact N _ (List.mem_append_right _ (.head _))
    rcases List.mem_append.mp hp with h | h
    · exact N _ (List.mem_append_left _ h)
    · exact N _ (List.mem_append_right _ (.tail _ h))
  · intro r t o' h' tk' r0 r1 hf F' N'
    refine hret r t o' h' tk' r0 r1 hf F' ?_
    rw [hg]
    intro p hp
    rcases List.mem_append.mp hp with h | h
    · exact N' _ (.tail _ (List.mem_append_left _ h))
    rcases List.mem_cons.mp h with rfl | h
    · exact N' _ (.head _)
    · exact N' _ (.tail _ (List.mem_append_right _ h))
theorem lawj_use {w : World} {news : List (Addr × Obj)} {a1 a2 : Addr} {k1 k2 : Kd} {x : Str} {tx : Tok}
    {p : Program} {loose : List Str} {mean : ExcName → Option Value} {mg mb : Str → Option Value} {dp un : Nat} {gd : Option (List Code)} {cn : Str} {cs : Scope} {a : Addr} {ccd : Value} {cl : List (Str × Addr)} {outer : List Env} {A₀ : Around} {base h₀ : Heap} {L : Addr} {m : Str → Option Value} {s : Shared} {Q E : Value → Shared → Prop}
    (h1 : KdIn (kk.heap_1 w.params) news a1 k1) (h2 : KdIn (kk.heap_1 w.params) news a2 k2) (hx : x ∈ signsL) (B : Below A₀ base outer h₀) (F : Fr h₀ L s.heap m) (X : (kk.heap_1 w.params).In h₀) (N : News h₀ L s.heap news) (T : Top p loose mean mg mb h₀) (hk : cs.kind = .function) (hd : dp + 100 < recursionLimit) (hu : un + 1000 < cLine)
    (ret : ∀ k D tl h' tk', lawF x k1 k2 = some k → Fr h₀ L h' m → News h₀ L h' (tl ++ news) → (∀ q ∈ news, ∀ p ∈ tl, q.1 < p.1) → KdIn (kk.heap_1 w.params) tl D k → Q (.ref D) { s with heap := h', toks := tk' })
    (no : ∀ h' tk', lawF x k1 k2 = none → Fr h₀ L h' m → News h₀ L h' news → Q .none { s with heap := h', toks := tk' }) :
    wpAny (model P0 w) (ktrTop dp un gd cn cs L a ccd cl outer) (call (.ref 555) [.str x tx, .ref a1, .ref a2]) Q E s := by
  refine CallC.use (lawj_ct w news a1 a2 k1 k2 x tx h1 h2 (signs_len x hx)) B F X N T hk hd hu (fun r tl h' tk' F' N' l e => ?_) (fun e t ws dx k1 kv k2 ts n g h' tk' f => f.elim)
  rcases e with ⟨k, ek, D, rfl, hkd⟩ | ⟨ek, rfl, rfl⟩
  · exact ret k D tl h' tk' ek F' N' l hkd
  · exact no h' tk' ek F' N'
end
local macro_rules | `(tactic| walk_at "no such key") => `(tactic| fail)
section
open PyProof.Rows.LCt PyProof.Rows.LCg
theorem nil_sub {l : List (Addr × Obj)} : ∀ p ∈ ([] : List (Addr × Obj)), p ∈ l := fun _ h => nomatch h
theorem many_ok {ys : List Value} (he : ys.isEmpty = false) (hl : ys.length ≤ 20) : 0 < (ys.toArray.size : Int) ∧ (ys.toArray.size : Int) ≤ 100 := by
  rw [List.size_toArray]
  cases ys with
  | nil => cases he
  | cons v r => rw [List.length_cons] at hl ⊢; omega
noncomputable def GeNe (L : Addr) (rest : List (Addr × Obj)) : Prop := ∀ c : Addr, @LE.le Nat _ L c → ∀ p ∈ rest, p.1 ≠ c
theorem GeNe.use {L c : Addr} {rest : List (Addr × Obj)} (h : GeNe L rest) (hc : @LE.le Nat _ L c) : ∀ p ∈ rest, p.1 ≠ c := h c hc
theorem GeNe.of {L : Addr} {rest : List (Addr × Obj)} (h : ∀ p ∈ rest, p.1 < L) : GeNe L rest := fun _ hc p hp => Nat.ne_of_lt (Nat.lt_of_lt_of_le (h p hp) hc)
local macro_rules | `(tactic| k_all) => `(tactic| first
  | with_reducible assumption
  | exact List.forall_mem_nil _
  | (refine List.forall_mem_cons.mpr ⟨?_, ?_⟩ <;> first | k_ne | k_all)
  | exact GeNe.use (by with_reducible assumption) (by omega))
local macro_rules | `(tactic| walk_at "call ref") => `(tactic| (k_here; (with_reducible show wpAny _ _ (call (Value.ref 536) _) _ _ _); k_dflt (refine' dip_use ?d1 ?d2 ?k1 ?k2 ?k3 ?k4 ?U ?d3 ?d4 ?d5 ?d6 ?d7 ?k5 ?k6 ?k7 ?k8 ?_; (case d1 => with_reducible assumption); (case d2 => assumption); (case k1 | k2 | k3 | k4 => k_asm); (case U => k_updF); (case d3 => assumption); (case d4 => k_mem); (case d5 => assumption); (case d6 => first | decide | assumption | exact many_ok (by assumption) (by assumption)); (case d7 => omega); (case k5 => k_asm); (case k6 => first | exact rfl | assumption); (case k7 => ktr_room); (case k8 => ktr_units)); intro r' t' o' h' tk' r0' r1' if' F' N'; (try dsimp only at N')))
local macro_rules | `(tactic| walk_at "subscriptTail") => `(tactic| (k_here; (first
  | ((with_reducible show wpAny _ _ (subscriptTail _ _ (Value.ref 522) (Value.int _ _)) _ _ _); k_dflt (refine' signs_item ?kF ?kX ?k1 ?k2 ?_ ?k6; (case kF | kX => k_asm); (case k1 | k2 => assumption); (case k6 => with_unfolding_all rfl)); intro x' t' hx')
  | ((with_reducible show wpAny _ _ (subscriptTail _ _ (Value.ref 521) (Value.int _ _)) _ _ _); k_dflt (refine' bases_item ?kF ?kX ?k1 ?k2 ?_ ?k6; (case kF | kX => k_asm); (case k1 | k2 => assumption); (case k6 => with_unfolding_all rfl)); intro a' k' kd' kb'))))
local macro_rules | `(tactic| walk_at "call ref") => `(tactic| (k_here; (with_reducible show wpAny _ _ (call (Value.ref 555) _) _ _ _); k_dflt (refine' lawj_use (KdIn.mono ?h1 ?m1) (KdIn.mono ?h2 ?m2) ?hx ?k1 ?k2 ?k3 ?k4 ?k5 ?k6 ?k7 ?k8 ?_ ?_; (case h1 | h2 | hx => with_reducible assumption); (case k1 | k2 | k3 | k4 | k5 => k_asm); (case k6 => first | exact rfl | assumption); (case k7 => ktr_room); (case k8 => ktr_units); (case m1 | m2 => first | exact nil_sub | ktd_sub)); (first | intro k' D' tl' h' tk' ek' F' N' l' kd' | skip)))
local macro_rules | `(tactic| walk_at "compareOp Eq ref ref") => `(tactic| (k_here; (with_reducible show wpAny _ _ (compareOp CmpOp.Eq (Value.ref _) (Value.ref _)) _ _ _); k_dflt (refine' eq_nil ?hy ?kF ?kX ?k1 ?k2 ?k4 ?_; (case hy => with_reducible assumption); (case kF | kX => k_asm); (case k1 | k2 => (refine News.isList (by k_asm) (by k_mem))); (case k4 => ktr_units))))
local macro_rules | `(tactic| walk_at "call builtin:len") => `(tactic| (k_here; (with_reducible show wpAny _ _ (call (Value.builtin "len") [Value.ref _]) _ _ _); k_dflt (refine' len_list ?k1 ?k2 ?_; (case k1 => (refine News.isList (by k_asm) (by k_mem))); (case k2 => with_reducible assumption))))
local macro_rules | `(tactic| walk_at "subscriptTail") => `(tactic| (k_here; (with_reducible show wpAny _ _ (subscriptTail _ _ (Value.ref _) (Value.int _ _)) _ _ _); k_dflt (refine' some_item ?hy ?hl ?hD ?k1 ?k2 ?_ ?k6 ?k7; (case hy => with_reducible assumption); (case hl => assumption); (case hD => (refine News.isList (by k_asm) (by k_mem))); (case k1 | k2 => assumption); (case k6 => with_unfolding_all rfl); (case k7 => (intro _; with_unfolding_all rfl))); intro a' k' kd' kb'))
theorem brefs_snoc {ys : List Value} {p : Addr × Kd} (h : BRefs ys) (hp : p ∈ basesP) : BRefs (ys ++ [.ref p.1]) := fun v hv => by
  rcases List.mem_append.mp hv with hv | hv
  · exact h v hv
  · exact ⟨p, hp, List.mem_singleton.mp hv⟩
theorem len_snoc2 {ys : List Value} {v : Value} {i : Nat} (h : ys.length ≤ i) : (ys ++ [v]).length ≤ i + 1 := by rw [List.length_append, List.length_singleton]; omega
theorem mem_app2 {α : Type} {a : α} {t l : List α} (h : a ∈ l) : List.Mem a (t ++ l) := List.mem_append_right t h
local macro_rules | `(tactic| walk_at "exec Assign cons ListComp") => `(tactic| (k_here; k_dflt (refine Assign_ListComp_tup (by k_asm) (by rfl) (by with_unfolding_all rfl) (by with_unfolding_all rfl) (by decide) (by rfl) (by decide) (by rfl) (by rfl) (by rfl) ?_)))
theorem next_end {w : World} {rest nn ll : List (Addr × Obj)} {fd cl la D : Addr} {kl : Kd} {o o' o9 : Obj} {n n' : Int} {x : Str} {tx : Tok} {b : Bool} {h₀ h' : Heap} {L : Addr} {m : Str → Option Value} {Q : Value → Shared → Prop} {s : Shared} {tk : Nat}
    (hret : ∀ D x tx la kl b o' n' h' tk', x ∈ signsL → KdIn (kk.heap_1 w.params) [] la kl → kl ∈ basesL → n ≤ n' → n' ≤ n + 4 → IsFeed w cl n' o' → Fr h₀ L h' m → News h₀ L h' ((D, tupX [.str x tx, .ref la, .bool b] 0 none #[]) :: (fd, o') :: rest) → (∀ p ∈ (fd, o) :: rest, p.1 < D) → Q (.ref D) { s with heap := h', toks := tk' })
    (F : Fr h₀ L h' m) (N : News h₀ L h' ((D, { cls := .type "tuple", data := .seq #[.str x tx, .ref la, .bool b] }) :: nn)) (mf : (fd, o') ∈ nn) (hs : ∀ p ∈ rest, p ∈ nn) (hx : x ∈ signsL) (hk : KdIn (kk.heap_1 w.params) [] la kl) (hb : kl ∈ basesL) (hf : IsFeed w cl n' o') (h1 : n ≤ n') (h2 : n' ≤ n + 4) (hl : ∀ p ∈ ll, p.1 < D) (mf' : (fd, o9) ∈ ll) (hs' : ∀ p ∈ rest, p ∈ ll) : Q (.ref D) { s with heap := h', toks := tk } :=
  hret D x tx la kl b o' n' h' tk hx hk hb h1 h2 hf F (fun p hp => by
    rcases List.mem_cons.mp hp with rfl | hp
    · exact N _ (.head _)
    rcases List.mem_cons.mp hp with rfl | hp
    · exact N _ (.tail _ mf)
    · exact N _ (.tail _ (hs p hp))) (fun p hp => by
    rcases List.mem_cons.mp hp with rfl | hp
    · exact hl (fd, o9) mf'
    · exact hl p (hs' p hp))
theorem next_ct (w : World) (rest : List (Addr × Obj)) (fd cl ka : Addr) (k : Kd) (o : Obj) (n : Int) (its : Array Value) (ns : List Int) (c : Nat) (hits : IntsAre its.toList ns) (hsz : its.size ≤ 60) (ho : IsFeed w cl n o) (hcl : (cl, W.listOf its c) ∈ rest) (hcf : cl ≠ fd) (hn : 0 ≤ n ∧ n ≤ 999000) (hne : ∀ p ∈ rest, p.1 ≠ fd) (hkd : KdIn (kk.heap_1 w.params) rest ka k) (hb : k ∈ basesL)
    (p : Program) (loose : List Str) (mean : ExcName → Option Value) (mg mb : Str → Option Value) (dp un : Nat) (gd : Option (List Code)) (cn : Str) (cs : Scope) (a : Addr) (ccd : Value) (cll : List (Str × Addr)) (outer : List Env) (A₀ : Around) (base h₀ : Heap) (L : Addr) (m : Str → Option Value) (s : Shared) (Q E : Value → Shared → Prop)
    (B : Below A₀ base outer h₀) (F : Fr h₀ L s.heap m) (X : (kk.heap_1 w.params).In h₀) (N : News h₀ L s.heap ((fd, o) :: rest)) (T : Top p loose mean mg mb h₀) (hk : cs.kind = .function) (hdp : dp + 120 < recursionLimit) (hun : un + 1200 < cLine)
    (hret : ∀ D x tx la kl b o' n' h' tk', x ∈ signsL → KdIn (kk.heap_1 w.params) [] la kl → kl ∈ basesL → n ≤ n' → n' ≤ n + 4 → IsFeed w cl n' o' → Fr h₀ L h' m → News h₀ L h' ((D, tupX [.str x tx, .ref la, .bool b] 0 none #[]) :: (fd, o') :: rest) → (∀ p ∈ (fd, o) :: rest, p.1 < D) → Q (.ref D) { s with heap := h', toks := tk' }) :
    wpAny (model P0 w) (ktrTop dp un gd cn cs L a ccd cll outer) (call (.ref 574) [.ref fd, .ref ka]) Q E s := by
  have hn0 := hn.1
  have hn1 := hn.2
  refine wpAny_call ?_
  k_dflt (refine' code_defC ?k1 ?k2 ?k3 ?k4 ?k5 ?kA ?kF ?kK ?k6 ?k7 ?k8 ?k9 ?kB ?kD ?_ ?c2 ?c3 ?c4; (case kA => exact rfl); (case kF => exact rfl); (case kK => assumption); (case k1 => k_asm); (case k2 => k_asm); (case k3 => k_asm); (case k4 => k_asm); (case k5 => k_asm); (case k6 => k_is); (case k7 => k_is); (case k8 => ktr_room); (case k9 => first | exact BindsTo.of_eq rfl); (case kB => exact rfl); (case kD => decide +kernel); (case c2 => exact rfl); (case c3 => exact rfl); (case c4 => exact rfl); k_whole; intro g' L' h' tk' cells' FG' F' N' Y' B' X' T' l1; (try k_lt l1); k_cells Y'; (try simp only [List.cons_append, List.nil_append] at N'); (try dsimp only); (try k_fold))
  have hge : GeNe L' rest := .of fun p hp => (ktn_ltOf l1.2) p hp
  k_steps
  have X9 : (kk.heap_1 w.params).In g' := by k_asm
  have T9 : g'.IsTuple 521 basesV.toArray := ⟨_, X9 _ _ (bases_at w), rfl, 0, rfl⟩
  refine ⟨_, basesV.toArray, _, rfl, rfl, by k_asm, by k_asm, .inl T9, Nat.le_of_ble_eq_true rfl, ?_⟩
  rintro s₂ ⟨g, rfl⟩
  suffices hh : ∀ n i ys, i + n = basesV.toArray.size → ys.length ≤ i → BRefs ys → CompRestT _ _ _ _ _ _ _ _ _ _ _ _ _ _ _ _ n i ys _ by exact hh _ _ _ (Nat.zero_add _) (Nat.le_refl _) (fun _ h => nomatch h)
  intro n9
  induction n9 with
  | zero =>
    intro i ys hi hyl hys
    refine CompRestT.zero ?_
    intro D h tk F9 N9 off9
    have hy20 : ys.length ≤ 20 := Nat.le_trans hyl (by have : basesV.toArray.size = 20 := rfl; omega)
    clear hyl hi
    dsimp only
    have hDf : @Ne Nat D fd := Ne.symm off9.2.2.2.2.1
    have hy63 : (ys.toArray.size : Int) < 2 ^ 63 := by rw [List.size_toArray]; omega
    k_steps
    all_goals (refine' next_end hret ?kF ?kN ?mf ?kS ?hx ?hk ?hb ?hf ?h1 ?h2 ?hl ?mf2 ?hs2; (case kF => k_asm); (case kN => k_asm); (case mf => k_mem); (case kS => ktd_sub); (case hx => assumption); (case hk => assumption); (case hb => assumption); (case hf => assumption); (case h1 => omega); (case h2 => omega); (case hl => with_reducible assumption); (case mf2 => k_mem); (case hs2 => ktd_sub))
  | succ n9 ih =>
    intro i ys hi hyl hys
    refine CompRestT.succ ?_
    intro v I oI C oC D m₂ h tk E' hv hC hx F N off ne
    have hv' : v ∈ basesV := by
      rw [List.getElem?_toArray] at hv
      exact List.mem_of_getElem? hv
    obtain ⟨p9, hp9, rfl⟩ := List.mem_map.mp hv'
    have hkp : ∀ nn, KdIn (kk.heap_1 w.params) nn p9.1 p9.2 := fun nn => base_kd w nn p9 hp9
    have hkp0 := hkp []
    have hbp := base_mem p9 hp9
    clear hkp
    k_steps
    all_goals first
    | (refine CompEnd.intro (by k_asm) (by k_asm) _ ?_ off (.inl T9) (ih _ _ ?_ (len_snoc2 hyl) (brefs_snoc hys hp9)); (intro p hp; exact List.mem_append_right _ hp); omega)
    | (refine CompEnd.intro (by k_asm) (by k_asm) _ ?_ off (.inl T9) (ih _ _ ?_ (Nat.le_succ_of_le hyl) hys); (intro p hp; exact hp); omega)
section
theorem valueAt_snoc {kvs : List (Str × Value)} {k y : Str} {v : Value} : valueAt (kvs ++ [(k, v)]) y = (valueAt kvs y).or (if k = y then some v else none) := by
  unfold valueAt
  rw [List.find?_append]
  cases h : kvs.find? (fun kv => decide (kv.1 = y)) with
  | some p => rfl
  | none =>
    by_cases e : k = y
    · simp [e]
    · simp [e]
theorem valueAt_new {kvs : List (Str × Value)} {k : Str} {v : Value} (h : valueAt kvs k = none) : valueAt (stored kvs k v) k = some v := by
  rw [stored_absent h, valueAt_snoc, h, if_pos rfl]; rfl
theorem valueAt_old {kvs : List (Str × Value)} {k y : Str} {v x : Value} (h : valueAt kvs k = none) (hy : valueAt kvs y = some x) : valueAt (stored kvs k v) y = some x := by
  rw [stored_absent h, valueAt_snoc, hy]; rfl
theorem valueAt_none {kvs : List (Str × Value)} {k y : Str} {v : Value} (h : valueAt kvs k = none) (hy : valueAt kvs y = none) (hne : k ≠ y) : valueAt (stored kvs k v) y = none := by
  rw [stored_absent h, valueAt_snoc, hy, if_neg hne]; rfl
theorem NodeAt.stored {K : Frag} {news : List (Addr × Obj)} {es : List (Str × Value)} {k : Str} {v : Value} (hn : valueAt es k = none) : ∀ {a : Addr} {t : Tr}, NodeAt K news es a t → NodeAt K news (stored es k v) a t
  | _, _, .leaf x e kd b => .leaf x (valueAt_old hn e) kd b
  | _, _, .bin x s l r => .bin x s (l.stored hn) (r.stored hn)
theorem put_use {w : World} {news : List (Addr × Obj)} {g : Obj → List (Addr × Obj)} {nm dn sd l ak ka : Addr} {od : Obj} {s1 s2 tx ts : Tok} {es : List (Str × Value)} {x : Str} {sp : Int}
    {p : Program} {loose : List Str} {mean : ExcName → Option Value} {mg mb : Str → Option Value} {dp un : Nat} {gd : Option (List Code)} {cn : Str} {cs : Scope} {a : Addr} {ccd : Value} {cl : List (Str × Addr)} {outer : List Env} {A₀ : Around} {base h₀ : Heap} {L : Addr} {m : Str → Option Value} {s : Shared} {Q E : Value → Shared → Prop}
    (B : Below A₀ base outer h₀) (F : Fr h₀ L s.heap m) (X : (kk.heap_1 w.params).In h₀) (N : News h₀ L s.heap news) (m3 : (nm, nmO dn) ∈ news) (m4 : (dn, nmD w s1 s2 l ak) ∈ news) (m5 : (l, listOf #[.ref sd] 0) ∈ news) (U : UpdF sd od news g) (hes : od.IsDictOf (strKind P0 w) es) (hno : valueAt es x = none) (hlen : es.length ≤ 100) (lo : (sd == sysModules) = false)
    (n3 : nm ≠ sd) (n4 : dn ≠ sd) (n5 : l ≠ sd) (T : Top p loose mean mg mb h₀) (hk : cs.kind = .function) (hdp : dp + 20 < recursionLimit) (hun : un + 200 < cLine)
    (hret : ∀ od' h' tk', od'.IsDictOf (strKind P0 w) (stored es x (.ref ka)) → Fr h₀ L h' m → News h₀ L h' (g od') → Q .none { s with heap := h', toks := tk' }) :
    wpAny (model P0 w) (ktrTop dp un gd cn cs L a ccd cl outer) (call (.ref 247) [.ref nm, .str x tx, .ref ka, .int sp ts]) Q E s := by
  obtain ⟨pre, post, rfl, hg, h1, h2⟩ := U.split
  have cut : ∀ q : Addr × Obj, q ∈ pre ++ (sd, od) :: post → q.1 ≠ sd → q ∈ pre ++ post := fun q h hne => by
    rcases List.mem_append.mp h with h | h
    · exact List.mem_append_left _ h
    rcases List.mem_cons.mp h with h | h
    · exact absurd (congrArg Prod.fst h) hne
    · exact List.mem_append_right _ h
  refine put_ct w (pre ++ post) nm dn sd l ak ka od s1 s2 tx ts es x sp hes hno hlen lo (cut _ m3 n3) (cut _ m4 n4) (cut _ m5 n5) ?_ p loose mean mg mb dp un gd cn cs a ccd cl outer A₀ base h₀ L m s Q E B F X ?_ T hk hdp hun ?_
  · intro p hp
    rcases List.mem_append.mp hp with h | h
    · exact h1 p h
    · exact h2 p h
  · intro p hp
    rcases List.mem_cons.mp hp with rfl | hp
    · exact N _ (List.mem_append_right _ (.head _))
    rcases List.mem_append.mp hp with h | h
    · exact N _ (List.mem_append_left _ h)
    · exact N _ (List.mem_append_right _ (.tail _ h))
  · intro od' h' tk' hf F' N'
    refine hret od' h' tk' hf F' ?_
    rw [hg]
    intro p hp
    rcases List.mem_append.mp hp with h | h
    · exact N' _ (.tail _ (List.mem_append_left _ h))
    rcases List.mem_cons.mp h with rfl | h
    · exact N' _ (.head _)
    · exact N' _ (.tail _ (List.mem_append_right _ h))
end
section
noncomputable def nmS (j : Int) : Str := Str.ofString "k" ++ Str.ofString (toString j)
structure S3 where
  t : Tr
  nd : Addr
  due : Value
  at_ : Value
  sp : Int
  ts : Tok
  o : Obj
  od : Obj
  n : Int
  es : List (Str × Value)
  tl : List (Addr × Obj)
noncomputable def DueOk (K : Frag) (news : List (Addr × Obj)) (due at_ : Value) (t : Tr) : Prop := (∃ D k, due = .ref D ∧ at_ = .none ∧ evalT t = .ok k ∧ KdIn K news D k) ∨ (∃ sp ts, due = .none ∧ at_ = .int sp ts ∧ evalT t = .error sp)
structure TP (w : World) (rest : List (Addr × Obj)) (fd cl sd ak : Addr) (i : Nat) (c : S3) : Prop where
  node : NodeAt (kk.heap_1 w.params) (c.tl ++ rest) c.es c.nd c.t
  due : DueOk (kk.heap_1 w.params) (c.tl ++ rest) c.due c.at_ c.t
  feed : IsFeed w cl c.n c.o
  nlo : 0 ≤ c.n
  nhi : c.n ≤ 2000 + 10 * i
  dict : c.od.IsDictOf (strKind P0 w) c.es
  len : c.es.length ≤ 1 + i
  fresh : ∀ j : Nat, i < j → j ≤ 6 → valueAt c.es (nmS j) = none
  size : c.t.size ≤ 2 * i + 1
  spot : c.sp = 10 * (i + 1)
  off : ∀ p ∈ c.tl, @Ne Nat p.1 fd ∧ @Ne Nat p.1 sd ∧ @Ne Nat p.1 ak
noncomputable def psT (c : S3) : List (Str × Value) := [(Str.ofString "node", .ref c.nd), (Str.ofString "due", c.due), (Str.ofString "at", c.at_), (Str.ofString "spot", .int c.sp c.ts)]
noncomputable def stT : List Str := [Str.ofString "lap", Str.ofString "kind", Str.ofString "sign", Str.ofString "late", Str.ofString "is_left", Str.ofString "name", Str.ofString "sides"]
noncomputable def TJ (w : World) (rest : List (Addr × Obj)) (fd cl sd ak : Addr) (oa : Obj) (m₀ : Str → Option Value) (i : Nat) (m : Str → Option Value) (nx : List (Addr × Obj)) : Prop :=
  ∃ c : S3, nx = (fd, c.o) :: (sd, c.od) :: (ak, oa) :: (c.tl ++ rest) ∧ (∀ p ∈ psT c, m p.1 = some p.2) ∧ (∀ z, (∀ p ∈ psT c, z ≠ p.1) → stT.contains z = false → m z = m₀ z) ∧ TP w rest fd cl sd ak i c
theorem map_form {m₀ m₁ : Str → Option Value} {ps : List (Str × Value)} {stored : List Str} (h1 : ∀ p ∈ ps, m₁ p.1 = some p.2) (h2 : ∀ z, (∀ p ∈ ps, z ≠ p.1) → stored.contains z = false → m₁ z = m₀ z) :
    ∃ u : Str → Option Value, m₁ = kstB (fun z => if stored.contains z then u z else m₀ z) ps := by
  refine ⟨m₁, (funext fun y => kstB_eq h1 fun hn => ?_).symm⟩
  show (if stored.contains y = true then m₁ y else m₀ y) = m₁ y
  cases h3 : stored.contains y with
  | true => simp
  | false => simp only [Bool.false_eq_true, if_false]; exact (h2 y hn h3).symm
theorem ks_get {a k : Int} {n i : Nat} (h : (rangeKs a n)[i]? = some k) : k = a + i ∧ i < n := by
  unfold rangeKs at h
  rw [List.getElem?_map] at h
  cases e : (List.range n)[i]? with
  | none => rw [e] at h; cases h
  | some j =>
    rw [e] at h
    have h1 := List.getElem?_eq_some_iff.mp e
    obtain ⟨hl, e2⟩ := h1
    rw [List.getElem_range] at e2
    rw [List.length_range] at hl
    subst e2
    cases h
    exact ⟨rfl, hl⟩
theorem nm_ne : ∀ i : Nat, i ≤ 6 → ∀ j : Nat, j ≤ 6 → i ≠ j → nmS i ≠ nmS j := by
  have h : ∀ i : Fin 7, ∀ j : Fin 7, i ≠ j → nmS (i.val : Int) ≠ nmS (j.val : Int) := by decide +kernel
  intro i hi j hj hne
  exact h ⟨i, by omega⟩ ⟨j, by omega⟩ (fun e => hne (congrArg Fin.val e))
theorem nm_zero : Str.ofString "k0" = nmS 0 := by decide +kernel
theorem nm_len : ∀ i : Nat, i ≤ 6 → (nmS i).length ≤ 100 := by
  have h : ∀ i : Fin 7, (nmS (i.val : Int)).length ≤ 100 := by decide +kernel
  intro i hi
  exact h ⟨i, by omega⟩
theorem tree_loop {w : World} {A : Around} {E : Value → Shared → Prop} {s : Shared} {env : Env} {g : Heap} {body : List Stmt} {Q : Flow → Shared → Prop} {rest : List (Addr × Obj)} {r fd cl sd ak D1 D2 a' : Addr} {k' : Kd} {oD o' od' oa : Obj} {n' r' : Int} {m₀ : Str → Option Value} {t₀ u₀ v₀ ta tb tc tt : Tok}
    (hh : A.handled = none) (RA : IsRange s.heap r 0 (1 + r') 1 t₀ u₀ v₀) (FA : Fr g env.locals s.heap m₀)
    (NA : News g env.locals s.heap ((D2, { cls := .type "tuple", data := .seq #[.str (Str.ofString "name") ta, .int 5 tb, .str (Str.ofString "k0") tc] }) :: (D1, oD) :: (fd, o') :: (sd, od') :: (ak, oa) :: rest))
    (IF : IsFeed w cl n' o') (hn0 : 0 ≤ n') (hn1 : n' ≤ 2000) (KD : KdIn (kk.heap_1 w.params) [] a' k') (KB : k' ∈ basesL) (HD : od'.IsDictOf (strKind P0 w) (stored [] (Str.ofString "k0") (.ref a')))
    (l1 : @LT.lt Nat _ fd D2) (l2 : @LT.lt Nat _ sd D2) (l3 : @LT.lt Nat _ ak D2) (R0 : 0 ≤ r') (R1 : r' < 6)
    (p1 : m₀ (Str.ofString "node") = some (.ref D2)) (p2 : m₀ (Str.ofString "due") = some (.ref a')) (p3 : m₀ (Str.ofString "at") = some .none) (p4 : m₀ (Str.ofString "spot") = some (.int 10 tt))
    (turn : ∀ (i : Nat) (t : Tok) (c : S3) (u : Str → Option Value) h tk own, i < 6 → TbOff own ((fd, c.o) :: (sd, c.od) :: (ak, oa) :: (c.tl ++ rest)) → TP w rest fd cl sd ak i c →
      Fr g env.locals h (fun y => if y = Str.ofString "lap" then some (.int i t) else kstB (fun z => if stT.contains z then u z else m₀ z) (psT c) y) → News g env.locals h (((fd, c.o) :: (sd, c.od) :: (ak, oa) :: (c.tl ++ rest)) ++ own) →
      wpAny (model P0 w) A (execs body env) (TbPost g env.locals (TJ w rest fd cl sd ak oa m₀ (i + 1)) own { s with heap := h, toks := tk } Q) E { s with heap := h, toks := tk })
    (done : ∀ (i : Nat) (c : S3) (u : Str → Option Value) h tk, i ≤ 6 → TP w rest fd cl sd ak i c → Fr g env.locals h (kstB (fun z => if stT.contains z then u z else m₀ z) (psT c)) → News g env.locals h ((fd, c.o) :: (sd, c.od) :: (ak, oa) :: (c.tl ++ rest)) → Q .next { s with heap := h, toks := tk }) :
    wpAny (model P0 w) A (pyIter (.ref r)) (fun it s₂ => LoopAtV P0 w A g env (Str.ofString "lap") body Q E it s₂) E s := by
  have hN : News g env.locals s.heap ((fd, o') :: (sd, od') :: (ak, oa) :: ([(D2, tupX [.str (Str.ofString "name") ta, .int 5 tb, .str (Str.ofString "k0") tc] 0 none #[])] ++ rest)) := fun p hp => NA p (by
    simp only [List.mem_cons, List.mem_append, List.not_mem_nil, or_false] at hp ⊢
    rcases hp with h | h | h | h | h
    · exact .inr (.inr (.inl h))
    · exact .inr (.inr (.inr (.inl h)))
    · exact .inr (.inr (.inr (.inr (.inl h))))
    · exact .inl h
    · exact .inr (.inr (.inr (.inr (.inr h)))))
  have hv0 : valueAt (stored [] (Str.ofString "k0") (Value.ref a')) (Str.ofString "k0") = some (.ref a') := valueAt_new rfl
  refine tbr_invG (TJ w rest fd cl sd ak oa m₀) hh RA (small_one (by decide) (by decide) (by omega) (by omega)) (rangeSize_nat _ _) FA hN ?_ ?_ ?_
  · refine ⟨⟨.leaf (Str.ofString "k0") k' 5, D2, .ref a', .none, 10, tt, o', od', n', stored [] (Str.ofString "k0") (.ref a'), [(D2, tupX [.str (Str.ofString "name") ta, .int 5 tb, .str (Str.ofString "k0") tc] 0 none #[])]⟩, rfl, ?_, fun _ _ _ => rfl, ?_⟩
    · intro p hp
      simp only [psT, List.mem_cons, List.not_mem_nil, or_false] at hp
      rcases hp with rfl | rfl | rfl | rfl
      · exact p1
      · exact p2
      · exact p3
      · exact p4
    · refine ⟨.leaf ⟨0, none, #[], .inl (.head _)⟩ hv0 (KD.mono nil_sub) KB, .inl ⟨a', k', rfl, rfl, rfl, KD.mono nil_sub⟩, IF, hn0, by show n' ≤ 2000 + 10 * ((0 : Nat) : Int); omega, HD, stored_length_le [] _ _, ?_, Nat.le_refl _, rfl, ?_⟩
      · intro j hj hj6
        refine valueAt_none (kvs := []) (k := Str.ofString "k0") rfl rfl ?_
        rw [nm_zero]
        exact nm_ne 0 (by omega) j hj6 (by omega)
      · intro p hp
        rw [List.mem_singleton.mp hp]
        exact ⟨Nat.ne_of_gt l1, Nat.ne_of_gt l2, Nat.ne_of_gt l3⟩
  · rintro i k t m₁ nx h tk own hk hoff ⟨c, rfl, h1, h2, P⟩ F₁ N₁
    obtain ⟨rfl, hi⟩ := ks_get hk
    obtain ⟨u, rfl⟩ := map_form h1 h2
    rw [Int.zero_add] at F₁
    exact turn i t c u h tk own (by omega) hoff P F₁ N₁
  · rintro m₁ nx h tk ⟨c, rfl, h1, h2, P⟩ F₁ N₁
    obtain ⟨u, rfl⟩ := map_form h1 h2
    exact done _ c u h tk (by omega) P F₁ N₁
end
section
theorem st_ne {z : Str} (h : stT.contains z = false) : z ≠ Str.ofString "lap" ∧ z ≠ Str.ofString "kind" ∧ z ≠ Str.ofString "sign" ∧ z ≠ Str.ofString "late" ∧ z ≠ Str.ofString "is_left" ∧ z ≠ Str.ofString "name" ∧ z ≠ Str.ofString "sides" := by
  unfold stT at h
  simp only [List.contains_cons, List.contains_nil, Bool.or_false, Bool.or_eq_false_iff, beq_eq_false_iff_ne, ne_eq] at h
  exact h
theorem kst_skip {f : Str → Option Value} {ps : List (Str × Value)} {z : Str} (h : ∀ p ∈ ps, z ≠ p.1) : kstB f ps z = f z := by
  induction ps with
  | nil => rfl
  | cons p r ih =>
    show (if z = p.1 then some p.2 else kstB f r z) = f z
    rw [if_neg (h p (.head _))]
    exact ih fun q hq => h q (.tail _ hq)
theorem kst_all {u m₀ : Str → Option Value} {v1 v2 v3 v4 : Value} {z : Str} (a1 : z ≠ Str.ofString "node") (a2 : z ≠ Str.ofString "due") (a3 : z ≠ Str.ofString "at") (a4 : z ≠ Str.ofString "spot") (a5 : stT.contains z = false) :
    kstB (fun z => if stT.contains z then u z else m₀ z) [(Str.ofString "node", v1), (Str.ofString "due", v2), (Str.ofString "at", v3), (Str.ofString "spot", v4)] z = m₀ z := by
  rw [kst_skip]
  · exact if_neg (by rw [a5]; exact Bool.false_ne_true)
  · simp only [List.forall_mem_cons]
    exact ⟨a1, a2, a3, a4, fun _ h => nomatch h⟩
noncomputable def mkT (b : Bool) (sp : Int) (x : Str) (t lf : Tr) : Tr := match b with
  | true => .bin sp x lf t
  | false => .bin sp x t lf
theorem turn_end {w : World} {rest nn tl R own : List (Addr × Obj)} {fd cl sd ak nd D2 la : Addr} {oa o9 od' : Obj} {m₀ m' : Str → Option Value} {i : Nat} {g h' : Heap} {L : Addr} {s₁ : Shared} {tk : Nat} {c7 : S3} {b : Bool} {x nm : Str} {t1 tx ta tb tc ts' : Tok} {kl : Kd} {due' at' : Value} {n9 : Int} {sp2 : Int}
    (F : Fr g L h' m') (N : News g L h' nn) (hR : R = (c7.tl ++ rest) ++ own) (hoff : TbOff own ((fd, c7.o) :: (sd, c7.od) :: (ak, oa) :: (c7.tl ++ rest))) (P : TP w rest fd cl sd ak i c7) (hi : i < 6)
    (p1 : m' (Str.ofString "node") = some (.ref nd)) (p2 : m' (Str.ofString "due") = some due') (p3 : m' (Str.ofString "at") = some at') (p4 : m' (Str.ofString "spot") = some (.int (c7.sp + 10) ts'))
    (hm : ∀ z, z ≠ Str.ofString "node" → z ≠ Str.ofString "due" → z ≠ Str.ofString "at" → z ≠ Str.ofString "spot" → stT.contains z = false → m' z = m₀ z)
    (hq2 : (D2, tupX [.str (Str.ofString "name") ta, .int sp2 tb, .str nm tc] 0 none #[]) ∈ nn) (hq1 : (nd, tupX [.str (Str.ofString "bin") t1, .int c7.sp c7.ts, .str x tx, .ref (bif b then D2 else c7.nd), .ref (bif b then c7.nd else D2)] 0 none #[]) ∈ nn)
    (mfd : (fd, o9) ∈ nn) (msd : (sd, od') ∈ nn) (mak : (ak, oa) ∈ nn) (mR : ∀ p ∈ R, p ∈ nn) (ht : ∀ p ∈ tl, p ∈ nn) (hT : ∀ p ∈ tl, @LT.lt Nat _ D2 p.1)
    (lnd : @LT.lt Nat _ D2 nd) (lfd : @LT.lt Nat _ fd D2) (lsd : @LT.lt Nat _ sd D2) (lak : @LT.lt Nat _ ak D2) (lR : ∀ q ∈ R, @LT.lt Nat _ q.1 D2)
    (hf : IsFeed w cl n9 o9) (hlo : c7.n ≤ n9) (hhi : n9 ≤ c7.n + 4) (hd : od'.IsDictOf (strKind P0 w) (stored c7.es nm (.ref la))) (hx : x ∈ signsL) (hkl : KdIn (kk.heap_1 w.params) [] la kl) (hbl : kl ∈ basesL) (hno : valueAt c7.es nm = none) (hnm : nm = nmS ((i : Int) + 1))
    (hdue : ∀ nw, (∀ p ∈ tl, p ∈ nw) → (∀ p ∈ c7.tl ++ rest, p ∈ nw) → DueOk (kk.heap_1 w.params) nw due' at' (mkT b c7.sp x c7.t (.leaf nm kl sp2))) :
    TbEnd g L (TJ w rest fd cl sd ak oa m₀ (i + 1)) own s₁ { s₁ with heap := h', toks := tk } := by
  have inn : ∀ p ∈ c7.tl ++ rest, p ∈ nn := fun p hp => mR p (by rw [hR]; exact List.mem_append_left _ hp)
  have ino : ∀ p ∈ own, p ∈ nn := fun p hp => mR p (by rw [hR]; exact List.mem_append_right _ hp)
  have lo : ∀ p ∈ own, @LT.lt Nat _ p.1 D2 := fun p hp => lR p (by rw [hR]; exact List.mem_append_right _ hp)
  obtain ⟨q1, e1⟩ : ∃ q1 : Addr × Obj, q1 = (nd, tupX [.str (Str.ofString "bin") t1, .int c7.sp c7.ts, .str x tx, .ref (bif b then D2 else c7.nd), .ref (bif b then c7.nd else D2)] 0 none #[]) := ⟨_, rfl⟩
  obtain ⟨q2, e2⟩ : ∃ q2 : Addr × Obj, q2 = (D2, tupX [.str (Str.ofString "name") ta, .int sp2 tb, .str nm tc] 0 none #[]) := ⟨_, rfl⟩
  rw [← e1] at hq1
  rw [← e2] at hq2
  have hnew : ∀ p ∈ tl ++ [q1, q2], @LE.le Nat _ D2 p.1 ∧ p ∈ nn := fun p hp => by
    rcases List.mem_append.mp hp with h | h
    · exact ⟨Nat.le_of_lt (hT p h), ht p h⟩
    rcases List.mem_cons.mp h with rfl | h
    · exact ⟨by rw [e1]; exact Nat.le_of_lt lnd, hq1⟩
    · rw [List.mem_singleton.mp h]
      exact ⟨by rw [e2]; exact Nat.le_refl _, hq2⟩
  have s1 : ∀ p ∈ c7.tl ++ rest, p ∈ ((tl ++ [q1, q2]) ++ c7.tl) ++ rest := fun p hp => by
    rw [List.append_assoc]
    exact List.mem_append_right _ hp
  have s2 : ∀ p ∈ tl ++ [q1, q2], p ∈ ((tl ++ [q1, q2]) ++ c7.tl) ++ rest := fun p hp => List.mem_append_left _ (List.mem_append_left _ hp)
  have hleaf : NodeAt (kk.heap_1 w.params) (((tl ++ [q1, q2]) ++ c7.tl) ++ rest) (stored c7.es nm (.ref la)) D2 (.leaf nm kl sp2) :=
    .leaf ⟨0, none, #[], .inl (s2 _ (by rw [e2]; exact List.mem_append_right _ (.tail _ (.head _))))⟩ (valueAt_new hno) (hkl.mono nil_sub) hbl
  have hold := (P.node.mono s1).stored (v := .ref la) hno
  have hbin : NodeAt (kk.heap_1 w.params) (((tl ++ [q1, q2]) ++ c7.tl) ++ rest) (stored c7.es nm (.ref la)) nd (mkT b c7.sp x c7.t (.leaf nm kl sp2)) := by
    have hm1 : (nd, tupX [.str (Str.ofString "bin") t1, .int c7.sp c7.ts, .str x tx, .ref (bif b then D2 else c7.nd), .ref (bif b then c7.nd else D2)] 0 none #[]) ∈ ((tl ++ [q1, q2]) ++ c7.tl) ++ rest := by
      rw [← e1]
      exact s2 _ (List.mem_append_right _ (.head _))
    cases b with
    | true => exact .bin ⟨0, none, #[], .inl hm1⟩ hx hleaf hold
    | false => exact .bin ⟨0, none, #[], .inl hm1⟩ hx hold hleaf
  have hst : ∀ z, (∀ p ∈ psT ⟨mkT b c7.sp x c7.t (.leaf nm kl sp2), nd, due', at', c7.sp + 10, ts', o9, od', n9, stored c7.es nm (.ref la), (tl ++ [q1, q2]) ++ c7.tl⟩, z ≠ p.1) → stT.contains z = false → m' z = m₀ z := fun z h1 h2 =>
    hm z (h1 _ (.head _)) (h1 _ (.tail _ (.head _))) (h1 _ (.tail _ (.tail _ (.head _)))) (h1 _ (.tail _ (.tail _ (.tail _ (.head _))))) h2
  refine ⟨h', tk, m', nn, _, rfl, F, N, ?_, ino, ?_, ⟨mkT b c7.sp x c7.t (.leaf nm kl sp2), nd, due', at', c7.sp + 10, ts', o9, od', n9, stored c7.es nm (.ref la), (tl ++ [q1, q2]) ++ c7.tl⟩, rfl, ?_, hst, hbin, hdue _ (fun p hp => s2 p (List.mem_append_left _ hp)) s1, hf, Int.le_trans P.nlo hlo, ?_, hd, ?_, ?_, ?_, ?_, ?_⟩
  · intro p hp
    rcases List.mem_cons.mp hp with rfl | hp
    · exact mfd
    rcases List.mem_cons.mp hp with rfl | hp
    · exact msd
    rcases List.mem_cons.mp hp with rfl | hp
    · exact mak
    rcases List.mem_append.mp hp with hp | hp
    · rcases List.mem_append.mp hp with hp | hp
      · exact (hnew p hp).2
      · exact inn p (List.mem_append_left _ hp)
    · exact inn p (List.mem_append_right _ hp)
  · intro q hq p hp
    rcases List.mem_cons.mp hp with rfl | hp
    · exact hoff q hq (fd, c7.o) (.head _)
    rcases List.mem_cons.mp hp with rfl | hp
    · exact hoff q hq (sd, c7.od) (.tail _ (.head _))
    rcases List.mem_cons.mp hp with rfl | hp
    · exact hoff q hq (ak, oa) (.tail _ (.tail _ (.head _)))
    rcases List.mem_append.mp hp with hp | hp
    · rcases List.mem_append.mp hp with hp | hp
      · exact Nat.ne_of_lt (Nat.lt_of_lt_of_le (lo q hq) (hnew p hp).1)
      · exact hoff q hq p (.tail _ (.tail _ (.tail _ (List.mem_append_left _ hp))))
    · exact hoff q hq p (.tail _ (.tail _ (.tail _ (List.mem_append_right _ hp))))
  · intro p hp
    simp only [psT, List.mem_cons, List.not_mem_nil, or_false] at hp
    rcases hp with rfl | rfl | rfl | rfl
    · exact p1
    · exact p2
    · exact p3
    · exact p4
  · have := P.nhi
    show n9 ≤ 2000 + 10 * ((i + 1 : Nat) : Int)
    omega
  · have h1 := P.len
    have h2 := stored_length_le c7.es nm (.ref la)
    show (stored c7.es nm (.ref la)).length ≤ 1 + (i + 1)
    omega
  · intro j hj hj6
    refine valueAt_none hno (P.fresh j (by omega) hj6) ?_
    rw [hnm]
    exact nm_ne (i + 1) (by omega) j hj6 (by omega)
  · have h1 := P.size
    show (mkT b c7.sp x c7.t (.leaf nm kl sp2)).size ≤ 2 * (i + 1) + 1
    cases b with
    | true => show 1 + c7.t.size + 1 ≤ _; omega
    | false => show c7.t.size + 1 + 1 ≤ _; omega
  · have h1 := P.spot
    show c7.sp + 10 = 10 * (((i + 1 : Nat) : Int) + 1)
    omega
  · intro p hp
    rcases List.mem_append.mp hp with hp | hp
    · have l := (hnew p hp).1
      exact ⟨Nat.ne_of_gt (Nat.lt_of_lt_of_le lfd l), Nat.ne_of_gt (Nat.lt_of_lt_of_le lsd l), Nat.ne_of_gt (Nat.lt_of_lt_of_le lak l)⟩
    · exact P.off p hp
theorem due_some {w : World} {nw tl : List (Addr × Obj)} {b : Bool} {sp sp2 : Int} {x nm : Str} {t : Tr} {kd kl k : Kd} {D : Addr} (e3 : evalT t = .ok kd) (hx : x ∈ signsL) (hk : kd ∈ basesL) (hl : kl ∈ basesL) (ek : (bif b then lawF x kl kd else lawF x kd kl) = some k) (hD : KdIn (kk.heap_1 w.params) tl D k) (hs : ∀ p ∈ tl, p ∈ nw) :
    DueOk (kk.heap_1 w.params) nw (.ref D) .none (mkT b sp x t (.leaf nm kl sp2)) := by
  refine .inl ⟨D, k, rfl, rfl, ?_, hD.mono hs⟩
  cases b with
  | true => exact eval_ok (l := .leaf nm kl sp2) rfl e3 ((plain hx hl hk).1.trans ek)
  | false => exact eval_ok (r := .leaf nm kl sp2) e3 rfl ((plain hx hk hl).1.trans ek)
theorem due_no {w : World} {nw : List (Addr × Obj)} {b : Bool} {sp sp2 : Int} {ts : Tok} {x nm : Str} {t : Tr} {kd kl : Kd} (e3 : evalT t = .ok kd) (hx : x ∈ signsL) (hk : kd ∈ basesL) (hl : kl ∈ basesL) (ek : (bif b then lawF x kl kd else lawF x kd kl) = none) :
    DueOk (kk.heap_1 w.params) nw .none (.int sp ts) (mkT b sp x t (.leaf nm kl sp2)) := by
  refine .inr ⟨sp, ts, rfl, rfl, ?_⟩
  cases b with
  | true => exact eval_no (l := .leaf nm kl sp2) rfl e3 ((plain hx hl hk).1.trans ek)
  | false => exact eval_no (r := .leaf nm kl sp2) e3 rfl ((plain hx hk hl).1.trans ek)
theorem due_er {w : World} {nw : List (Addr × Obj)} {b : Bool} {sp sp2 spd : Int} {ts : Tok} {x nm : Str} {t : Tr} {kl : Kd} (e3 : evalT t = .error spd) :
    DueOk (kk.heap_1 w.params) nw .none (.int spd ts) (mkT b sp x t (.leaf nm kl sp2)) := by
  refine .inr ⟨spd, ts, rfl, rfl, ?_⟩
  cases b with
  | true => exact eval_er (l := .leaf nm kl sp2) rfl e3
  | false => show evalT (.bin sp x t (.leaf nm kl sp2)) = _; rw [evalT, e3]
noncomputable abbrev tlOf {K : Frag} {tl : List (Addr × Obj)} {D : Addr} {k : Kd} (_ : KdIn K tl D k) : List (Addr × Obj) := tl
theorem due_use1 {w : World} {news : List (Addr × Obj)} {a1 a2 : Addr} {k : Kd} {v : Value}
    {p : Program} {loose : List Str} {mean : ExcName → Option Value} {mg mb : Str → Option Value} {dp un : Nat} {gd : Option (List Code)} {cn : Str} {cs : Scope} {a : Addr} {ccd : Value} {cl : List (Str × Addr)} {outer : List Env} {A₀ : Around} {base h₀ : Heap} {L : Addr} {m : Str → Option Value} {s : Shared} {Q E : Value → Shared → Prop}
    (h1 : KdIn (kk.heap_1 w.params) news a1 k) (h2 : KdIn (kk.heap_1 w.params) news a2 k) (B : Below A₀ base outer h₀) (F : Fr h₀ L s.heap m) (X : (kk.heap_1 w.params).In h₀) (N : News h₀ L s.heap news) (T : Top p loose mean mg mb h₀) (hk : cs.kind = .function) (hd : dp + 20 < recursionLimit) (hu : un + 200 < cLine)
    (ret : ∀ h' tk', Fr h₀ L h' m → News h₀ L h' news → Q (.bool true) { s with heap := h', toks := tk' }) :
    wpAny (model P0 w) (ktrTop dp un gd cn cs L a ccd cl outer) (call (.ref 569) [.ref a1, .ref a2, v]) Q E s := by
  refine CallC.use (due_kd w news a1 a2 k v h1 h2) B F X N T hk hd hu (fun r tl h' tk' F' N' l e => ?_) (fun e t ws dx k1 kv k2 ts n g h' tk' f => f.elim)
  obtain ⟨rfl, rfl⟩ := e
  exact ret h' tk' F' N'
theorem due_use2 {w : World} {news : List (Addr × Obj)} {i : Int} {t1 t2 : Tok}
    {p : Program} {loose : List Str} {mean : ExcName → Option Value} {mg mb : Str → Option Value} {dp un : Nat} {gd : Option (List Code)} {cn : Str} {cs : Scope} {a : Addr} {ccd : Value} {cl : List (Str × Addr)} {outer : List Env} {A₀ : Around} {base h₀ : Heap} {L : Addr} {m : Str → Option Value} {s : Shared} {Q E : Value → Shared → Prop}
    (B : Below A₀ base outer h₀) (F : Fr h₀ L s.heap m) (X : (kk.heap_1 w.params).In h₀) (N : News h₀ L s.heap news) (T : Top p loose mean mg mb h₀) (hk : cs.kind = .function) (hd : dp + 20 < recursionLimit) (hu : un + 200 < cLine)
    (ret : ∀ h' tk', Fr h₀ L h' m → News h₀ L h' news → Q (.bool true) { s with heap := h', toks := tk' }) :
    wpAny (model P0 w) (ktrTop dp un gd cn cs L a ccd cl outer) (call (.ref 569) [.int i t1, .none, .int i t2]) Q E s := by
  refine CallC.use (due_none w news i t1 t2) B F X N T hk hd hu (fun r tl h' tk' F' N' l e => ?_) (fun e t ws dx k1 kv k2 ts n g h' tk' f => f.elim)
  obtain ⟨rfl, rfl⟩ := e
  exact ret h' tk' F' N'
end
local macro_rules | `(tactic| walk_at "noteFrame ref") => `(tactic| (k_here; k_dflt (refine' caughtD ?kR ?kF ?kK ?ku ?kXB ?kTB ?kex ?kq ?_ ?l1 ?l2 ?l3 ?l4; (case kR => assumption); (case kF | kK => k_asm); (case ku | kXB | kTB => assumption); (case kex => k_is); (case kq => kts_isx); (case l1 | l2 | l3 => exact rfl); (case l4 => decide)); intro h' g' tk' oe' ws' T' F' ec' ed' eo' N' K' X' P'))
local macro_rules | `(tactic| walk_at "getAttr ref") => `(tactic| (k_here; (with_reducible show wpAny _ _ (getAttr (Value.ref _) (Str.ofString "spot") _) _ _ _); k_dflt (refine' exc_spot ?k1 ?k2 ?k3 ?k4 ?k5 ?k6 ?k7 ?k8 ?k9 ?ka ?kb ?_; (case k1 | k2 => k_asm); (case k3 => with_reducible assumption); (case k4 | k5 | k6 => assumption); (case k7 | k8 | k9 | ka | kb => k_is))))
section
local macro_rules | `(tactic| walk_at "call ref") => `(tactic| (k_here; (with_reducible show wpAny _ _ (call (Value.ref 247) _) _ _ _); k_dflt (refine' put_use ?k1 ?k2 ?k3 ?k4 ?d1 ?d2 ?d3 ?U ?d4 ?d5 ?d6 ?d7 ?d8 ?d9 ?d0 ?k5 ?k6 ?k7 ?k8 ?_; (case k1 | k2 | k3 | k4 => k_asm); (case d1 | d2 | d3 => k_mem); (case U => k_updF); (case d4 => assumption); (case d5 => first | exact rfl | assumption); (case d6 => first | exact Nat.zero_le _ | assumption); (case d7 | d8 | d9 | d0 => assumption); (case k5 => k_asm); (case k6 => first | exact rfl | assumption); (case k7 => ktr_room); (case k8 => ktr_units)); intro od' h' tk' hd' F' N'; (try dsimp only at N')))
theorem tree_ct (w : World) (rest : List (Addr × Obj)) (fd cl mk dmk nm dn sd l ak : Addr) (o od oa : Obj) (n : Int) (its : Array Value) (ns : List Int) (c : Nat) (t1 t2 t3 t4 t5 t6 : Tok) (v2 v3 v4 v5 v6 : Value) (s1 s2 : Tok)
    (hits : IntsAre its.toList ns) (hsz : its.size ≤ 60) (ho : IsFeed w cl n o) (hcl : (cl, W.listOf its c) ∈ rest) (hcf : cl ≠ fd) (hn : 0 ≤ n ∧ n ≤ 1000) (hes : od.IsDictOf (strKind P0 w) []) (hea : oa.IsDictOf (strKind P0 w) []) (lo : (sd == sysModules) = false)
    (m1 : (mk, mkO dmk) ∈ rest) (m2 : (dmk, mkD w t1 t2 t3 t4 t5 t6 (.ref nm) v2 v3 v4 v5 v6) ∈ rest) (m3 : (nm, nmO dn) ∈ rest) (m4 : (dn, nmD w s1 s2 l ak) ∈ rest) (m5 : (l, W.listOf #[.ref sd] 0) ∈ rest)
    (hne1 : ∀ p ∈ rest, p.1 ≠ fd) (hne2 : ∀ p ∈ rest, p.1 ≠ sd) (hne3 : ∀ p ∈ rest, p.1 ≠ ak) (hne4 : @Ne Nat fd sd) (hne5 : @Ne Nat fd ak) (hne6 : @Ne Nat sd ak)
    (p : Program) (loose : List Str) (mean : ExcName → Option Value) (mg mb : Str → Option Value) (dp un : Nat) (gd : Option (List Code)) (cn : Str) (cs : Scope) (a : Addr) (ccd : Value) (A₀ : Around) (base h₀ : Heap) (L : Addr) (m : Str → Option Value) (s : Shared) (Q E : Value → Shared → Prop)
    (B : Below A₀ base [] h₀) (F : Fr h₀ L s.heap m) (X : (kk.heap_1 w.params).In h₀) (XB : (kk.heap_1 w.params).In base) (N : News h₀ L s.heap ((fd, o) :: (sd, od) :: (ak, oa) :: rest)) (T : Top p loose mean mg mb h₀) (TB : Top p loose mean mg mb base) (hk : cs.kind = .function) (hdp : dp + 300 < recursionLimit) (hun : un + 4000 < cLine)
    (hret : ∀ h' tk', Fr h₀ L h' m → Q (.bool true) { s with heap := h', toks := tk' }) :
    wpAny (model P0 w) (ktrTop dp un gd cn cs L a ccd [] []) (call (.ref 581) [.ref fd, .ref mk]) Q E s := by
  have hn0 := hn.1
  have hn1 := hn.2
  have q3 := hne2 _ m3
  have q4 := hne2 _ m4
  have q5 := hne2 _ m5
  refine wpAny_call ?_
  k_dflt (refine' code_defS0 ?k1 ?k2 ?k3 ?k4 ?k5 ?kA ?k6 ?k7 ?k8 ?k9 ?kB ?_ ?kK ?c2 ?c3 ?c4 ?c5; (case kA => exact rfl); (case kK => assumption); (case k1 => k_asm); (case k2 => k_asm); (case k3 => k_asm); (case k4 => k_asm); (case k5 => k_asm); (case k6 => k_is); (case k7 => k_is); (case k8 => ktr_room); (case k9 => exact BindsTo.of_eq rfl); (case c5 => decide); (case kB => exact locs rfl); (case c2 => exact rfl); (case c3 => exact rfl); (case c4 => exact rfl); k_whole; intro g' L' h' FG' F' N' B' X' T' D'; (try dsimp only); (try k_fold))
  iterate 87 walk1
  rename Fr _ _ _ _ => FA
  rename News _ _ _ _ => NA
  rename IsRange _ _ _ _ _ _ _ _ => RA
  rename IsFeed _ _ _ _ => IF
  rename KdIn _ _ _ _ => KD
  rename _ ∈ basesL => KB
  rename Obj.IsDictOf (strKind P0 w) _ (stored _ _ _) => HD
  rename (@LT.lt Nat _ _ _) ∧ _ ∧ _ ∧ _ ∧ AllLt _ rest => L9
  rename (_ : Int) < 6 => R1
  rename 0 ≤ _ => R0
  refine' tree_loop rfl RA FA NA IF ?n0 ?n1 KD KB HD L9.2.1 L9.2.2.1 L9.2.2.2.1 R0 R1 ?p1 ?p2 ?p3 ?p4 ?turn ?done
  (case n0 => omega)
  (case n1 => omega)
  (case p1 => exact rfl)
  (case p2 => exact rfl)
  (case p3 => exact rfl)
  (case p4 => exact rfl)
  case turn =>
    clear FA NA RA IF KD KB HD L9 R0 R1
    intro i t c7 u h tk own hi hoff P F7 N7
    obtain ⟨R, hR⟩ : ∃ R, R = (c7.tl ++ rest) ++ own := ⟨_, rfl⟩
    have N8 : News g' L' h ((fd, c7.o) :: (sd, c7.od) :: (ak, oa) :: R) := by rw [hR]; exact N7
    clear N7
    have sub : ∀ p ∈ c7.tl ++ rest, p ∈ R := fun p hp => by rw [hR]; exact List.mem_append_left _ hp
    have subr : ∀ p ∈ rest, p ∈ R := fun p hp => sub p (List.mem_append_right _ hp)
    have g1 : ∀ p ∈ R, p.1 ≠ fd := fun p hp => by
      rw [hR] at hp
      rcases List.mem_append.mp hp with h | h
      · rcases List.mem_append.mp h with h | h
        · exact (P.off p h).1
        · exact hne1 p h
      · exact hoff p h (fd, c7.o) (.head _)
    have g2 : ∀ p ∈ R, p.1 ≠ sd := fun p hp => by
      rw [hR] at hp
      rcases List.mem_append.mp hp with h | h
      · rcases List.mem_append.mp h with h | h
        · exact (P.off p h).2.1
        · exact hne2 p h
      · exact hoff p h (sd, c7.od) (.tail _ (.head _))
    have g3 : ∀ p ∈ R, p.1 ≠ ak := fun p hp => by
      rw [hR] at hp
      rcases List.mem_append.mp hp with h | h
      · rcases List.mem_append.mp h with h | h
        · exact (P.off p h).2.2
        · exact hne3 p h
      · exact hoff p h (ak, oa) (.tail _ (.tail _ (.head _)))
    have z1 := subr _ m1
    have z2 := subr _ m2
    have z3 := subr _ m3
    have z4 := subr _ m4
    have z5 := subr _ m5
    have z6 := subr _ hcl
    have zn := P.node.mono sub
    have zf := P.feed
    have zd := P.dict
    have zno : valueAt c7.es (Str.ofString "k" ++ Str.ofString (toString ((i : Int) + 1))) = none := by
      have e := P.fresh (i + 1) (by omega) (by omega)
      rw [Int.natCast_succ] at e
      exact e
    have zl : c7.es.length ≤ 100 := by have := P.len; omega
    unfold psT at F7
    rcases P.due with ⟨Dd, kd, e1, e2, e3, e4'⟩ | ⟨spd, tsd, e1, e2, e3⟩
    · rw [e1, e2] at F7
      have e4 := e4'.mono sub
      clear e4'
      k_steps
      k_here
      k_dflt refine' next_ct w ((sd, c7.od) :: (ak, oa) :: R) fd cl Dd kd c7.o c7.n its ns c hits hsz zf (.tail _ (.tail _ z6)) hcf ⟨P.nlo, ?hn⟩ ?hne (e4.mono fun p hp => .tail _ (.tail _ hp)) (eval_bases P.node e3) _ _ _ _ _ _ _ _ _ _ _ _ _ _ _ _ _ _ _ _ _ _ ?k1 ?k2 ?k3 ?k4 ?k5 ?k6 ?k7 ?k8 ?_
      (case k1 => k_asm)
      (case k2 => k_asm)
      (case k3 => k_asm)
      (case k4 => k_asm)
      (case k5 => k_asm)
      (case k6 => first | exact rfl | assumption)
      (case k7 => ktr_room)
      (case k8 => ktr_units)
      (case hn => (have := P.nhi; omega))
      (case hne => exact List.forall_mem_cons.mpr ⟨Ne.symm hne4, List.forall_mem_cons.mpr ⟨Ne.symm hne5, g1⟩⟩)
      intro D9 x9 tx9 la9 kl9 b9 o9 n9 h9 tk9 hx9 hkl9 hbl9 hlo9 hhi9 hf9 F9 N9 hD9
      have ll9 := allLt_of hD9
      simp only [AllLt, and_true] at ll9
      cases b9 with
      | false =>
        k_steps
        · rename _ ∧ _ ∧ _ ∧ _ ∧ AllLt _ R => LR
          rename lawF _ _ _ = some _ => EK
          rename KdIn _ _ _ _ => KD9
          rename ∀ q ∈ _, ∀ p ∈ _, (q : Addr × Obj).1 < (p : Addr × Obj).1 => LT9
          rename Fr _ _ _ _ => FA
          rename News _ _ _ _ => NA
          refine' turn_end (b := false) (tl := tlOf KD9) FA NA hR hoff P hi rfl rfl rfl rfl ?hm ?hq2 ?hq1 ?mfd ?msd ?mak ?mR ?ht ?hT ?lnd ?lfd ?lsd ?lak ?lR hf9 hlo9 hhi9 ?hd hx9 hkl9 hbl9 zno rfl ?hdue
          (case hd => assumption)
          (case hm => (intro z a1 a2 a3 a4 a5; obtain ⟨b1, b2, b3, b4, b5, b6, b7⟩ := st_ne a5; (repeat (with_reducible (first | refine (if_neg a1).trans ?_ | refine (if_neg a2).trans ?_ | refine (if_neg a3).trans ?_ | refine (if_neg a4).trans ?_ | refine (if_neg b1).trans ?_ | refine (if_neg b2).trans ?_ | refine (if_neg b3).trans ?_ | refine (if_neg b4).trans ?_ | refine (if_neg b5).trans ?_ | refine (if_neg b6).trans ?_ | refine (if_neg b7).trans ?_))); exact kst_all a1 a2 a3 a4 a5))
          (case mfd => exact List.mem_append_right _ (by k_mem))
          (case msd => exact List.mem_append_right _ (by k_mem))
          (case mak => exact List.mem_append_right _ (by k_mem))
          (case hq2 => exact List.mem_append_right _ (by k_mem))
          (case hq1 => exact List.mem_append_right _ (by k_mem))
          (case mR => (intro p hp; repeat (first | exact hp | refine List.mem_cons_of_mem _ ?_ | refine List.mem_append_right _ ?_)))
          (case ht => exact fun p hp => List.mem_append_left _ hp)
          (case hT => exact fun p hp => LT9 (_, tupX [.str (Str.ofString "name") _, _, _] 0 none #[]) (by k_mem) p hp)
          (case lnd => omega)
          (case lfd => omega)
          (case lsd => omega)
          (case lak => omega)
          (case lR => exact ktn_ltOf LR.2.2.2.2)
          (case hdue => exact fun nw h1 h2 => due_some e3 hx9 (eval_bases P.node e3) hbl9 EK KD9 h1)
        · rename _ ∧ _ ∧ _ ∧ _ ∧ AllLt _ R => LR
          rename lawF _ _ _ = none => EK
          rename Fr _ _ _ _ => FA
          rename News _ _ _ _ => NA
          refine' turn_end (b := false) (tl := []) FA NA hR hoff P hi rfl rfl rfl rfl ?hm ?hq2 ?hq1 ?mfd ?msd ?mak ?mR ?ht ?hT ?lnd ?lfd ?lsd ?lak ?lR hf9 hlo9 hhi9 ?hd hx9 hkl9 hbl9 zno rfl ?hdue
          (case hd => assumption)
          (case hm => (intro z a1 a2 a3 a4 a5; obtain ⟨b1, b2, b3, b4, b5, b6, b7⟩ := st_ne a5; (repeat (with_reducible (first | refine (if_neg a1).trans ?_ | refine (if_neg a2).trans ?_ | refine (if_neg a3).trans ?_ | refine (if_neg a4).trans ?_ | refine (if_neg b1).trans ?_ | refine (if_neg b2).trans ?_ | refine (if_neg b3).trans ?_ | refine (if_neg b4).trans ?_ | refine (if_neg b5).trans ?_ | refine (if_neg b6).trans ?_ | refine (if_neg b7).trans ?_))); exact kst_all a1 a2 a3 a4 a5))
          (case mfd => k_mem)
          (case msd => k_mem)
          (case mak => k_mem)
          (case hq2 => k_mem)
          (case hq1 => k_mem)
          (case mR => (intro p hp; repeat (first | exact hp | refine List.mem_cons_of_mem _ ?_ | refine List.mem_append_right _ ?_)))
          (case ht => exact fun _ h => nomatch h)
          (case hT => exact fun _ h => nomatch h)
          (case lnd => omega)
          (case lfd => omega)
          (case lsd => omega)
          (case lak => omega)
          (case lR => exact ktn_ltOf LR.2.2.2.2)
          (case hdue => exact fun nw h1 h2 => due_no e3 hx9 (eval_bases P.node e3) hbl9 EK)
      | true =>
        k_steps
        · rename _ ∧ _ ∧ _ ∧ _ ∧ AllLt _ R => LR
          rename lawF _ _ _ = some _ => EK
          rename KdIn _ _ _ _ => KD9
          rename ∀ q ∈ _, ∀ p ∈ _, (q : Addr × Obj).1 < (p : Addr × Obj).1 => LT9
          rename Fr _ _ _ _ => FA
          rename News _ _ _ _ => NA
          refine' turn_end (b := true) (tl := tlOf KD9) FA NA hR hoff P hi rfl rfl rfl rfl ?hm ?hq2 ?hq1 ?mfd ?msd ?mak ?mR ?ht ?hT ?lnd ?lfd ?lsd ?lak ?lR hf9 hlo9 hhi9 ?hd hx9 hkl9 hbl9 zno rfl ?hdue
          (case hd => assumption)
          (case hm => (intro z a1 a2 a3 a4 a5; obtain ⟨b1, b2, b3, b4, b5, b6, b7⟩ := st_ne a5; (repeat (with_reducible (first | refine (if_neg a1).trans ?_ | refine (if_neg a2).trans ?_ | refine (if_neg a3).trans ?_ | refine (if_neg a4).trans ?_ | refine (if_neg b1).trans ?_ | refine (if_neg b2).trans ?_ | refine (if_neg b3).trans ?_ | refine (if_neg b4).trans ?_ | refine (if_neg b5).trans ?_ | refine (if_neg b6).trans ?_ | refine (if_neg b7).trans ?_))); exact kst_all a1 a2 a3 a4 a5))
          (case mfd => exact List.mem_append_right _ (by k_mem))
          (case msd => exact List.mem_append_right _ (by k_mem))
          (case mak => exact List.mem_append_right _ (by k_mem))
          (case hq2 => exact List.mem_append_right _ (by k_mem))
          (case hq1 => exact List.mem_append_right _ (by k_mem))
          (case mR => (intro p hp; repeat (first | exact hp | refine List.mem_cons_of_mem _ ?_ | refine List.mem_append_right _ ?_)))
          (case ht => exact fun p hp => List.mem_append_left _ hp)
          (case hT => exact fun p hp => LT9 (_, tupX [.str (Str.ofString "name") _, _, _] 0 none #[]) (by k_mem) p hp)
          (case lnd => omega)
          (case lfd => omega)
          (case lsd => omega)
          (case lak => omega)
          (case lR => exact ktn_ltOf LR.2.2.2.2)
          (case hdue => exact fun nw h1 h2 => due_some e3 hx9 (eval_bases P.node e3) hbl9 EK KD9 h1)
        · rename _ ∧ _ ∧ _ ∧ _ ∧ AllLt _ R => LR
          rename lawF _ _ _ = none => EK
          rename Fr _ _ _ _ => FA
          rename News _ _ _ _ => NA
          refine' turn_end (b := true) (tl := []) FA NA hR hoff P hi rfl rfl rfl rfl ?hm ?hq2 ?hq1 ?mfd ?msd ?mak ?mR ?ht ?hT ?lnd ?lfd ?lsd ?lak ?lR hf9 hlo9 hhi9 ?hd hx9 hkl9 hbl9 zno rfl ?hdue
          (case hd => assumption)
          (case hm => (intro z a1 a2 a3 a4 a5; obtain ⟨b1, b2, b3, b4, b5, b6, b7⟩ := st_ne a5; (repeat (with_reducible (first | refine (if_neg a1).trans ?_ | refine (if_neg a2).trans ?_ | refine (if_neg a3).trans ?_ | refine (if_neg a4).trans ?_ | refine (if_neg b1).trans ?_ | refine (if_neg b2).trans ?_ | refine (if_neg b3).trans ?_ | refine (if_neg b4).trans ?_ | refine (if_neg b5).trans ?_ | refine (if_neg b6).trans ?_ | refine (if_neg b7).trans ?_))); exact kst_all a1 a2 a3 a4 a5))
          (case mfd => k_mem)
          (case msd => k_mem)
          (case mak => k_mem)
          (case hq2 => k_mem)
          (case hq1 => k_mem)
          (case mR => (intro p hp; repeat (first | exact hp | refine List.mem_cons_of_mem _ ?_ | refine List.mem_append_right _ ?_)))
          (case ht => exact fun _ h => nomatch h)
          (case hT => exact fun _ h => nomatch h)
          (case lnd => omega)
          (case lfd => omega)
          (case lsd => omega)
          (case lak => omega)
          (case lR => exact ktn_ltOf LR.2.2.2.2)
          (case hdue => exact fun nw h1 h2 => due_no e3 hx9 (eval_bases P.node e3) hbl9 EK)
    · rw [e1, e2] at F7
      k_steps
      rename (@LT.lt Nat _ _ _) ∧ _ ∧ _ ∧ AllLt _ R => L9
      rename_i dq9 hh1 FF1 NN1 hall8 hh2 FF2 NN2
      have dq : fd < dq9 := L9.1
      k_here
      k_dflt refine' next_ct w ((dq9, { cls := .type "tuple", data := .seq #[.str (Str.ofString "int") _, .bool false, .int 0 _] }) :: (sd, c7.od) :: (ak, oa) :: R) fd cl dq9 ⟨.int, false, 0⟩ c7.o c7.n its ns c hits hsz zf (.tail _ (.tail _ (.tail _ z6))) hcf ⟨P.nlo, ?hn⟩ ?hne ⟨_, _, _, _, _, .inl (.head _)⟩ (.head _) _ _ _ _ _ _ _ _ _ _ _ _ _ _ _ _ _ _ _ _ _ _ ?k1 ?k2 ?k3 ?k4 ?k5 ?k6 ?k7 ?k8 ?_
      (case k1 => k_asm)
      (case k2 => k_asm)
      (case k3 => k_asm)
      (case k4 => (refine' cb_drop ?kN sub_swap; (case kN => k_asm)))
      (case k5 => k_asm)
      (case k6 => first | exact rfl | assumption)
      (case k7 => ktr_room)
      (case k8 => ktr_units)
      (case hn => (have := P.nhi; omega))
      (case hne => exact List.forall_mem_cons.mpr ⟨Nat.ne_of_gt dq, List.forall_mem_cons.mpr ⟨Ne.symm hne4, List.forall_mem_cons.mpr ⟨Ne.symm hne5, g1⟩⟩⟩)
      intro D9 x9 tx9 la9 kl9 b9 o9 n9 h9 tk9 hx9 hkl9 hbl9 hlo9 hhi9 hf9 F9 N9 hD9
      have ll9 := allLt_of hD9
      simp only [AllLt, and_true] at ll9
      cases b9 with
      | false =>
        k_steps
        rename _ ∧ _ ∧ _ ∧ _ ∧ _ ∧ AllLt _ R => LR
        rename Fr _ _ _ _ => FA
        rename News _ _ _ _ => NA
        refine' turn_end (b := false) (tl := []) FA NA hR hoff P hi rfl rfl rfl rfl ?hm ?hq2 ?hq1 ?mfd ?msd ?mak ?mR ?ht ?hT ?lnd ?lfd ?lsd ?lak ?lR hf9 hlo9 hhi9 ?hd hx9 hkl9 hbl9 zno rfl ?hdue
        (case hd => assumption)
        (case hm => (intro z a1 a2 a3 a4 a5; obtain ⟨b1, b2, b3, b4, b5, b6, b7⟩ := st_ne a5; (repeat (with_reducible (first | refine (if_neg a1).trans ?_ | refine (if_neg a2).trans ?_ | refine (if_neg a3).trans ?_ | refine (if_neg a4).trans ?_ | refine (if_neg b1).trans ?_ | refine (if_neg b2).trans ?_ | refine (if_neg b3).trans ?_ | refine (if_neg b4).trans ?_ | refine (if_neg b5).trans ?_ | refine (if_neg b6).trans ?_ | refine (if_neg b7).trans ?_))); exact kst_all a1 a2 a3 a4 a5))
        (case mfd => k_mem)
        (case msd => k_mem)
        (case mak => k_mem)
        (case hq2 => k_mem)
        (case hq1 => k_mem)
        (case mR => (intro p hp; repeat (first | exact hp | refine List.mem_cons_of_mem _ ?_ | refine List.mem_append_right _ ?_)))
        (case ht => exact fun _ h => nomatch h)
        (case hT => exact fun _ h => nomatch h)
        (case lnd => omega)
        (case lfd => omega)
        (case lsd => omega)
        (case lak => omega)
        (case lR => exact ktn_ltOf LR.2.2.2.2.2)
        (case hdue => exact fun nw h1 h2 => due_er e3)
      | true =>
        k_steps
        rename _ ∧ _ ∧ _ ∧ _ ∧ _ ∧ AllLt _ R => LR
        rename Fr _ _ _ _ => FA
        rename News _ _ _ _ => NA
        refine' turn_end (b := true) (tl := []) FA NA hR hoff P hi rfl rfl rfl rfl ?hm ?hq2 ?hq1 ?mfd ?msd ?mak ?mR ?ht ?hT ?lnd ?lfd ?lsd ?lak ?lR hf9 hlo9 hhi9 ?hd hx9 hkl9 hbl9 zno rfl ?hdue
        (case hd => assumption)
        (case hm => (intro z a1 a2 a3 a4 a5; obtain ⟨b1, b2, b3, b4, b5, b6, b7⟩ := st_ne a5; (repeat (with_reducible (first | refine (if_neg a1).trans ?_ | refine (if_neg a2).trans ?_ | refine (if_neg a3).trans ?_ | refine (if_neg a4).trans ?_ | refine (if_neg b1).trans ?_ | refine (if_neg b2).trans ?_ | refine (if_neg b3).trans ?_ | refine (if_neg b4).trans ?_ | refine (if_neg b5).trans ?_ | refine (if_neg b6).trans ?_ | refine (if_neg b7).trans ?_))); exact kst_all a1 a2 a3 a4 a5))
        (case mfd => k_mem)
        (case msd => k_mem)
        (case mak => k_mem)
        (case hq2 => k_mem)
        (case hq1 => k_mem)
        (case mR => (intro p hp; repeat (first | exact hp | refine List.mem_cons_of_mem _ ?_ | refine List.mem_append_right _ ?_)))
        (case ht => exact fun _ h => nomatch h)
        (case hT => exact fun _ h => nomatch h)
        (case lnd => omega)
        (case lfd => omega)
        (case lsd => omega)
        (case lak => omega)
        (case lR => exact ktn_ltOf LR.2.2.2.2.2)
        (case hdue => exact fun nw h1 h2 => due_er e3)
  case done =>
    clear FA NA RA IF KD KB HD L9 R0 R1
    intro i c7 u h tk hi P F7 N7
    have hsz7 := P.size
    unfold psT at F7
    have w1 : ∀ p ∈ rest, p ∈ ((fd, c7.o) :: (sd, c7.od) :: (c7.tl ++ rest)) := fun p hp => .tail _ (.tail _ (List.mem_append_right _ hp))
    have w2 : ∀ p ∈ c7.tl ++ rest, p ∈ ((fd, c7.o) :: (sd, c7.od) :: (c7.tl ++ rest)) := fun p hp => .tail _ (.tail _ hp)
    have w3 : ∀ p ∈ ((fd, c7.o) :: (sd, c7.od) :: (c7.tl ++ rest)), p.1 ≠ ak := List.forall_mem_cons.mpr ⟨hne5, List.forall_mem_cons.mpr ⟨hne6, fun p hp => by
      rcases List.mem_append.mp hp with h | h
      · exact (P.off p h).2.2
      · exact hne3 p h⟩⟩
    have w4 : ∀ p ∈ (ak, oa) :: ((fd, c7.o) :: (sd, c7.od) :: (c7.tl ++ rest)), p ∈ (fd, c7.o) :: (sd, c7.od) :: (ak, oa) :: (c7.tl ++ rest) := fun p hp => by
      simp only [List.mem_cons] at hp ⊢
      rcases hp with h | h | h | h
      · exact .inr (.inr (.inl h))
      · exact .inl h
      · exact .inr (.inl h)
      · exact .inr (.inr (.inr h))
    have x1 := w1 _ m1
    have x2 := w1 _ m2
    have y1 : (mk, mkO dmk) ∈ c7.tl ++ rest := List.mem_append_right _ m1
    have y2 : (dmk, mkD w t1 t2 t3 t4 t5 t6 (.ref nm) v2 v3 v4 v5 v6) ∈ c7.tl ++ rest := List.mem_append_right _ m2
    rcases P.due with ⟨Dd, kd, e1, e2, e3, e4⟩ | ⟨spd, tsd, e1, e2, e3⟩
    · rw [e1, e2] at F7
      k_steps
      k_here
      k_dflt refine' kindof2_ct w c7.t ((fd, c7.o) :: (sd, c7.od) :: (c7.tl ++ rest)) mk dmk nm dn sd l ak c7.nd c7.od oa t1 t2 t3 t4 t5 t6 v2 v3 v4 v5 v6 s1 s2 c7.es [] _ _ _ _ _ _ _ _ _ _ _ _ _ _ _ _ _ _ _ _ _ _ P.dict hea ?hl lo x1 x2 (w1 _ m3) (w1 _ m4) (w1 _ m5) (.tail _ (.head _)) w3 (P.node.mono w2) ?k1 ?k2 ?k3 ?k4 ?k5 ?k6 ?k7 ?k8 ?_ ?_
      (case k1 => k_asm)
      (case k2 => k_asm)
      (case k3 => k_asm)
      (case k4 => (refine' cb_drop ?kN w4; (case kN => k_asm)))
      (case k5 => k_asm)
      (case k6 => first | exact rfl | assumption)
      (case k7 => (show dp + 1 + (dK _ + 10) < _; unfold dK; omega))
      (case k8 => (show un + 3 + (uK _ + 100) < _; unfold uK; omega))
      (case hl => (show 0 + c7.t.size ≤ 100; omega))
      · intro k9 D9 oa9 ea9 tl9 h9 tk9 he9 hd9 hle9 F9 N9 ho9 hkd9
        rw [e3] at he9
        cases he9
        have j1 : KdIn (kk.heap_1 w.params) ((ak, oa9) :: (tl9 ++ ((fd, c7.o) :: (sd, c7.od) :: (c7.tl ++ rest)))) D9 kd := hkd9.mono fun p hp => .tail _ hp
        have j2 : KdIn (kk.heap_1 w.params) ((ak, oa9) :: (tl9 ++ ((fd, c7.o) :: (sd, c7.od) :: (c7.tl ++ rest)))) Dd kd := e4.mono fun p hp => .tail _ (List.mem_append_right _ (w2 p hp))
        k_steps
        k_here
        k_dflt refine' due_use1 j1 j2 ?k1 ?k2 ?k3 ?k4 ?k5 ?k6 ?k7 ?k8 ?_
        (case k1 => k_asm)
        (case k2 => k_asm)
        (case k3 => k_asm)
        (case k4 => k_asm)
        (case k5 => k_asm)
        (case k6 => first | exact rfl | assumption)
        (case k7 => ktr_room)
        (case k8 => ktr_units)
        intro h' tk' F' N'
        k_steps
        exact hret _ _ (by k_asm)
      · intro e9 t9 ws9 dx9 k19 kv9 k29 sp9 ts9 n9 g9 h9 tk9 he9
        rw [e3] at he9
        cases he9
    · rw [e1, e2] at F7
      k_steps
      k_here
      k_dflt refine' kindof2_ct w c7.t ((fd, c7.o) :: (sd, c7.od) :: (c7.tl ++ rest)) mk dmk nm dn sd l ak c7.nd c7.od oa t1 t2 t3 t4 t5 t6 v2 v3 v4 v5 v6 s1 s2 c7.es [] _ _ _ _ _ _ _ _ _ _ _ _ _ _ _ _ _ _ _ _ _ _ P.dict hea ?hl lo x1 x2 (w1 _ m3) (w1 _ m4) (w1 _ m5) (.tail _ (.head _)) w3 (P.node.mono w2) ?k1 ?k2 ?k3 ?k4 ?k5 ?k6 ?k7 ?k8 ?_ ?_
      (case k1 => k_asm)
      (case k2 => k_asm)
      (case k3 => k_asm)
      (case k4 => (refine' cb_drop ?kN w4; (case kN => k_asm)))
      (case k5 => k_asm)
      (case k6 => first | exact rfl | assumption)
      (case k7 => (show dp + 1 + (dK _ + 10) < _; unfold dK; omega))
      (case k8 => (show un + 3 + (uK _ + 100) < _; unfold uK; omega))
      (case hl => (show 0 + c7.t.size ≤ 100; omega))
      · intro k9 D9 oa9 ea9 tl9 h9 tk9 he9
        rw [e3] at he9
        cases he9
      · intro e9 t9 ws9 dx9 k19 kv9 k29 sp9 ts9 n9 g9 h9 tk9 he9 F9 R9 U9
        rw [e3] at he9
        cases he9
        k_steps
        k_here
        k_dflt refine' due_use2 ?k1 ?k2 ?k3 ?k4 ?k5 ?k6 ?k7 ?k8 ?_
        (case k1 => k_asm)
        (case k2 => k_asm)
        (case k3 => k_asm)
        (case k4 => k_asm)
        (case k5 => k_asm)
        (case k6 => first | exact rfl | assumption)
        (case k7 => ktr_room)
        (case k8 => ktr_units)
        intro h' tk' F' N'
        k_steps
        refine' hret _ _ ?kF
        (case kF => k_asm)
end
section
noncomputable def sgn (i : Int) : Str := match signsV[i.toNat]? with
  | some (.str x _) => x
  | _ => Str.ofString ""
theorem sgn_at {i : Int} (h0 : 0 ≤ i) (hi : i < 29) : ∃ t, signsV[i.toNat]? = some (.str (sgn i) t) ∧ sgn i ∈ signsL := by
  have hl : i.toNat < signsV.length := by show i.toNat < 29; omega
  obtain ⟨x, t, e, hx⟩ := sign_mem _ (List.getElem_mem hl)
  have e2 : signsV[i.toNat]? = some (.str x t) := (List.getElem?_eq_getElem hl).trans (congrArg some e)
  have e3 : sgn i = x := by unfold sgn; rw [e2]
  rw [e3]
  exact ⟨t, e2, hx⟩
theorem sgn_mem {i : Int} (h0 : 0 ≤ i) (hi : i < 29) : sgn i ∈ signsL := let ⟨_, _, h⟩ := sgn_at h0 hi; h
theorem signs_item2 {w : World} {A : Around} {E : Value → Shared → Prop} {s : Shared} {h₀ : Heap} {L : Addr} {m : Str → Option Value} {value slice : PySem.Expr} {u : Tok} {i : Int} {Q : Value → Shared → Prop} (F : Fr h₀ L s.heap m) (X : (kk.heap_1 w.params).In h₀) (h0 : 0 ≤ i) (hi : i < 29)
    (h : ∀ t, Q (.str (sgn i) t) s)
    (hs : subscripted slice false (.ref 522) (.int i u) = operate [.ref 522, .int i u] (getItem (.ref 522) (.int i u))) : wpAny (model P0 w) A (subscriptTail value slice (.ref 522) (.int i u)) Q E s := by
  have T : IsTup s.heap 522 signsV.toArray := ⟨_, F.keep _ _ (X _ _ (signs_at w)), rfl, 0, rfl⟩
  obtain ⟨t, e, _⟩ := sgn_at h0 hi
  exact item_tupleT (l := signsV) T (by omega) (by omega) (seq_at (n := signsV.length) h0 hi) e (h t) hs
noncomputable def stL : List Str := [Str.ofString "lap", Str.ofString "one", Str.ofString "other", Str.ofString "spot", Str.ofString "told"]
noncomputable def LJ (w : World) (rest : List (Addr × Obj)) (fd cl : Addr) (m₀ : Str → Option Value) (i : Nat) (m : Str → Option Value) (nx : List (Addr × Obj)) : Prop :=
  ∃ (o : Obj) (n : Int), nx = (fd, o) :: rest ∧ IsFeed w cl n o ∧ 0 ≤ n ∧ n ≤ 2 * i ∧ ∀ z, stL.contains z = false → m z = m₀ z
theorem law_loop {w : World} {A : Around} {E : Value → Shared → Prop} {s : Shared} {env : Env} {g : Heap} {body : List Stmt} {Q : Flow → Shared → Prop} (rest : List (Addr × Obj)) {nn : List (Addr × Obj)} {r fd cl : Addr} {o : Obj} {m₀ : Str → Option Value} {t₀ u₀ v₀ : Tok}
    (hh : A.handled = none) (RA : IsRange s.heap r 0 3 1 t₀ u₀ v₀) (FA : Fr g env.locals s.heap m₀) (NA : News g env.locals s.heap nn) (IF : IsFeed w cl 0 o) (hs : ∀ p ∈ (fd, o) :: rest, p ∈ nn)
    (turn : ∀ (i : Nat) (t : Tok) (o : Obj) (n : Int) (u : Str → Option Value) h tk own, i < 3 → 0 ≤ n → n ≤ 2 * i → IsFeed w cl n o → TbOff own ((fd, o) :: rest) →
      Fr g env.locals h (fun y => if y = Str.ofString "lap" then some (.int i t) else if stL.contains y then u y else m₀ y) → News g env.locals h (((fd, o) :: rest) ++ own) →
      wpAny (model P0 w) A (execs body env) (TbPost g env.locals (LJ w rest fd cl m₀ (i + 1)) own { s with heap := h, toks := tk } Q) E { s with heap := h, toks := tk })
    (done : ∀ (o : Obj) (n : Int) (u : Str → Option Value) h tk, 0 ≤ n → n ≤ 6 → IsFeed w cl n o → Fr g env.locals h (fun y => if stL.contains y then u y else m₀ y) → News g env.locals h ((fd, o) :: rest) → Q .next { s with heap := h, toks := tk }) :
    wpAny (model P0 w) A (pyIter (.ref r)) (fun it s₂ => LoopAtV P0 w A g env (Str.ofString "lap") body Q E it s₂) E s := by
  have form : ∀ {m : Str → Option Value}, (∀ z, stL.contains z = false → m z = m₀ z) → ∃ u : Str → Option Value, m = fun y => if stL.contains y then u y else m₀ y := fun {m} h => ⟨m, funext fun y => by
    cases h3 : stL.contains y with
    | true => simp
    | false => simp only [Bool.false_eq_true, if_false]; exact h y h3⟩
  refine tbr_invG (n := 3) (LJ w rest fd cl m₀) hh RA (small_one (by decide) (by decide) (by decide) (by decide)) (rangeSize_nat _ _) FA (fun p hp => NA p (hs p hp)) ⟨o, 0, rfl, IF, Int.le_refl _, by decide, fun _ _ => rfl⟩ ?_ ?_
  · rintro i k t m₁ nx h tk own hk hoff ⟨o, n, rfl, hf, h0, h1, h2⟩ F₁ N₁
    obtain ⟨rfl, hi⟩ := ks_get hk
    obtain ⟨u, rfl⟩ := form h2
    rw [Int.zero_add] at F₁
    exact turn i t o n u h tk own hi h0 h1 hf hoff F₁ N₁
  · rintro m₁ nx h tk ⟨o, n, rfl, hf, h0, h1, h2⟩ F₁ N₁
    obtain ⟨u, rfl⟩ := form h2
    exact done o n u h tk h0 (by omega) hf F₁ N₁
theorem stl_ne {z : Str} (h : stL.contains z = false) : z ≠ Str.ofString "lap" ∧ z ≠ Str.ofString "one" ∧ z ≠ Str.ofString "other" ∧ z ≠ Str.ofString "spot" ∧ z ≠ Str.ofString "told" := by
  unfold stL at h
  simp only [List.contains_cons, List.contains_nil, Bool.or_false, Bool.or_eq_false_iff, beq_eq_false_iff_ne, ne_eq] at h
  exact h
theorem clash1 {x : Str} {k1 k2 k : Kd} (hx : x ∈ signsL) (h1 : k1 ∈ basesL) (h2 : k2 ∈ basesL) (e1 : joinedF x k1 k2 = some k) (e2 : lawF x k1 k2 = none) : False := by
  rw [(plain hx h1 h2).1, e2] at e1; cases e1
theorem clash2 {x : Str} {k1 k2 k : Kd} (hx : x ∈ signsL) (h1 : k1 ∈ basesL) (h2 : k2 ∈ basesL) (e1 : joinedF x k1 k2 = none) (e2 : lawF x k1 k2 = some k) : False := by
  rw [(plain hx h1 h2).1, e2] at e1; cases e1
theorem agree {x : Str} {k1 k2 k k' : Kd} (hx : x ∈ signsL) (h1 : k1 ∈ basesL) (h2 : k2 ∈ basesL) (e1 : joinedF x k1 k2 = some k) (e2 : lawF x k1 k2 = some k') : k = k' := by
  rw [(plain hx h1 h2).1, e2] at e1; cases e1; rfl
theorem clash1' {x : Str} {k1 k2 k : Kd} (e1 : joinedF x k1 k2 = some k) (e2 : lawF x k1 k2 = none) (hx : x ∈ signsL) (h1 : k1 ∈ basesL) (h2 : k2 ∈ basesL) : False := clash1 hx h1 h2 e1 e2
theorem clash2' {x : Str} {k1 k2 k : Kd} (e1 : joinedF x k1 k2 = none) (e2 : lawF x k1 k2 = some k) (hx : x ∈ signsL) (h1 : k1 ∈ basesL) (h2 : k2 ∈ basesL) : False := clash2 hx h1 h2 e1 e2
theorem due_use3 {w : World} {news n1 n2 : List (Addr × Obj)} {a1 a2 : Addr} {x : Str} {k1 k2 k k' : Kd} {v : Value}
    {p : Program} {loose : List Str} {mean : ExcName → Option Value} {mg mb : Str → Option Value} {dp un : Nat} {gd : Option (List Code)} {cn : Str} {cs : Scope} {a : Addr} {ccd : Value} {cl : List (Str × Addr)} {outer : List Env} {A₀ : Around} {base h₀ : Heap} {L : Addr} {m : Str → Option Value} {s : Shared} {Q E : Value → Shared → Prop}
    (q1 : KdIn (kk.heap_1 w.params) n1 a1 k) (q2 : KdIn (kk.heap_1 w.params) n2 a2 k') (s1 : ∀ p ∈ n1, p ∈ news) (s2 : ∀ p ∈ n2, p ∈ news) (e1 : joinedF x k1 k2 = some k) (e2 : lawF x k1 k2 = some k') (hx : x ∈ signsL) (h1 : k1 ∈ basesL) (h2 : k2 ∈ basesL)
    (B : Below A₀ base outer h₀) (F : Fr h₀ L s.heap m) (X : (kk.heap_1 w.params).In h₀) (N : News h₀ L s.heap news) (T : Top p loose mean mg mb h₀) (hk : cs.kind = .function) (hd : dp + 20 < recursionLimit) (hu : un + 200 < cLine)
    (ret : ∀ h' tk', Fr h₀ L h' m → News h₀ L h' news → Q (.bool true) { s with heap := h', toks := tk' }) :
    wpAny (model P0 w) (ktrTop dp un gd cn cs L a ccd cl outer) (call (.ref 569) [.ref a1, .ref a2, v]) Q E s := by
  have e := agree hx h1 h2 e1 e2
  subst e
  exact due_use1 (q1.mono s1) (q2.mono s2) B F X N T hk hd hu ret
end
section
open PySem PySem.W PyProof.Rows
namespace Hd
noncomputable section
noncomputable def sts (i n : Nat) : List Stmt := (PySem.Challenge.pw_pq0384_02.main.body.drop i).take n
noncomputable def envM : Env := { scope := PySem.Challenge.pw_pq0384_02.main.scope, locals := mainNs, globals := mainNs, cells := [], code := .ref 13, frame := some 14 }
noncomputable def S (x : String) (t : Nat) : Value := .str (Str.ofString x) t
noncomputable def E (P : Params) (x : String) (t : Nat) (v : Value) : DictEntry := ⟨PyData.keyHash P (Str.ofString x), .str (Str.ofString x) t, v⟩
noncomputable def e0 : Obj := ⟨.none, none, .fields [].toArray, [].toArray⟩
noncomputable def look : Nat → List (Nat × Obj) → Obj
  | _, [] => e0
  | i, k :: r => match Nat.beq k.1 i with
    | true => k.2
    | false => look i r
noncomputable def prOf (o : Obj) : Obj := match o with
  | ⟨_, _, .func f, _⟩ => ⟨.none, none, .func { name := f.name, qualname := f.qualname, params := f.params, body := f.body, scope := f.scope, globals := 0, closure := [], defaults := .none, kwdefaults := .none, doc := .none, pyModule := .none, annotations := none, code := .none, closureTuple := .none, builtins := 0 }, [].toArray⟩
  | o => o
noncomputable def pr (P : Params) (i : Nat) : Obj := prOf (look i (kk.heap_1 P))
noncomputable def pre3 (P : Params) (m n : Nat) (l : List DictEntry) : Obj := match look 3 (kk.heap_1 P) with
  | ⟨c, d, .dict es _, sl⟩ => ⟨c, d, .dict (l ++ (es.toList.take m).drop 1).toArray n, sl⟩
  | o => o
noncomputable def ext12 : List Value := [.int 1 0, .int 0 0, .ref 20, .int 5 0, .int 0 0, .ref 28, .int 13 0, .int 0 0, .ref 57, .int 21 0, .int 0 0, .ref 84, .int 38 0, .int 0 0, .ref 190, .int 42 0, .int 0 0, .ref 197, .int 46 0, .int 0 0, .ref 204, .int 49 0, .int 0 0, .ref 211, .int 55 0, .int 0 0, .ref 218, .int 79 0, .int 0 0, .ref 267, .int 399 0, .int 0 0, .ref 528, .int 401 0, .int 0 0, .ref 535, .int 407 0, .int 0 0, .ref 542, .int 409 0, .int 0 0, .ref 547, .int 412 0, .int 0 0, .ref 554, .int 433 0, .int 0 0, .ref 561, .int 438 0, .int 0 0, .ref 568, .int 442 0, .int 0 0, .ref 573, .int 448 0, .int 0 0, .ref 580, .int 468 0, .int 0 0, .ref 587]
noncomputable def pre12 (_P : Params) (m : Nat) : Obj := ⟨.none, none, .fields (ext12.take m).toArray, [].toArray⟩
noncomputable def fill : Nat → Nat → List (Nat × Obj) → List (Nat × Obj) → List Obj
  | 0, _, _, _ => []
  | n + 1, i, ks, es => match ks with
    | [] => (match es with
      | [] => []
      | e :: er => e.2 :: fill n (i + 1) [] er)
    | k :: kr => match Nat.beq k.1 i with
      | true => k.2 :: fill n (i + 1) kr es
      | false => (match es with
        | [] => []
        | e :: er => e.2 :: fill n (i + 1) (k :: kr) er)
noncomputable def alt : List Obj → List Obj
  | [] => []
  | [a] => [a]
  | a :: _ :: r => a :: alt r
noncomputable def ofL : Nat → List Obj → BT
  | 0, _ => .nil
  | _ + 1, [] => .nil
  | n + 1, o :: r => .node o (ofL n (alt r)) (ofL n (alt r.tail))
noncomputable def setAt : Nat → Obj → List Obj → List Obj
  | _, _, [] => []
  | 0, o, _ :: r => o :: r
  | n + 1, o, a :: r => a :: setAt n o r
noncomputable def ovr : List (Nat × Obj) → List Obj → List Obj
  | [], l => l
  | p :: r, l => ovr r (setAt p.1 p.2 l)
noncomputable def ext (P : Params) : List (Nat × Obj) := [
  (0, PySem.W.boot_o_0 P),
  (1, PySem.W.boot_o_1 P),
  (4, PySem.W.boot_o_4 P),
  (5, PySem.W.boot_o_5 P),
  (6, PySem.W.boot_o_6 P),
  (7, PySem.W.boot_o_7 P),
  (8, PySem.W.boot_o_8 P),
  (9, PySem.W.boot_o_9 P),
  (10, PySem.W.boot_o_10 P),
  (11, ⟨.type "tuple", none, .seq [].toArray 0, [].toArray⟩),
  (12, pre12 P 60),
  (13, ⟨.type "code", none, .fields [S "<module>" 182, S "<module>" 183, S "/claim/cut.py" 184, .int 1 0, .int 0 0, .int 0 0, .int 0 0, .int 0 0, .ref 11, .bool false, .int 181 0, .ref 12, .none, .none, .none, .none, .int 185 0, .int 1 0, S "/claim/cut.py" 186].toArray, [].toArray⟩),
  (14, ⟨.type "frame", none, .plain, [some (.ref 13), some (.ref 3), some (.ref 3), none, some (S "__main__" 164), none, some (.ref 0)].toArray⟩),
  (16, e0),
  (19, pr P 21),
  (23, ⟨.type "builtin_function_or_method", none, .fields [.builtin "type.__prepare__", .type "type"].toArray, [].toArray⟩),
  (24, ⟨.type "dict", none, .dict [E P "__module__" 203 (S "fdsolve.errors" 194), E P "__qualname__" 205 (S "FdError" 204), E P "__firstlineno__" 207 (.int 5 206), E P "__init__" 216 (.ref 37), E P "told" 223 (.ref 44), E P "__static_attributes__" 225 (.ref 45), E P "__classcell__" 226 (.ref 25)].toArray 7, [].toArray⟩),
  (26, ⟨.type "tuple", none, .seq [].toArray 0, [].toArray⟩),
  (27, ⟨.none, none, .fields [.int 7 0, .int 4 0, .ref 36, .int 11 0, .int 4 0, .ref 43].toArray, [].toArray⟩),
  (28, ⟨.type "code", none, .fields [S "FdError" 198, S "FdError" 199, S "/claim/cut.py" 200, .int 5 0, .int 0 0, .int 0 0, .int 0 0, .int 0 0, .ref 26, .bool false, .int 181 0, .ref 27, .none, .none, .none, .none, .int 201 0, .int 5 0, S "/claim/cut.py" 202].toArray, [].toArray⟩),
  (29, ⟨.type "frame", none, .plain, [some (.ref 28), some (.ref 3), some (.ref 24), none, some (S "fdsolve.errors" 194), none, some (.ref 0)].toArray⟩),
  (32, e0),
  (35, pr P 37),
  (39, e0),
  (42, pr P 44),
  (49, ⟨.type "super", none, .fields [.ref 47, .ref 47, .ref 47].toArray, [].toArray⟩),
  (50, ⟨.type "builtin_function_or_method", none, .fields [.builtin "object.__init_subclass__", .ref 47].toArray, [].toArray⟩),
  (52, ⟨.type "builtin_function_or_method", none, .fields [.builtin "type.__prepare__", .type "type"].toArray, [].toArray⟩),
  (53, ⟨.type "dict", none, .dict [E P "__module__" 241 (S "fdsolve.errors" 194), E P "__qualname__" 243 (S "SpotFault" 242), E P "__firstlineno__" 245 (.int 13 244), E P "__init__" 255 (.ref 66), E P "told" 262 (.ref 73), E P "__static_attributes__" 264 (.ref 74), E P "__classcell__" 265 (.ref 54)].toArray 7, [].toArray⟩),
  (55, ⟨.type "tuple", none, .seq [].toArray 0, [].toArray⟩),
  (56, ⟨.none, none, .fields [.int 15 0, .int 4 0, .ref 65, .int 19 0, .int 4 0, .ref 72].toArray, [].toArray⟩),
  (57, ⟨.type "code", none, .fields [S "SpotFault" 236, S "SpotFault" 237, S "/claim/cut.py" 238, .int 13 0, .int 0 0, .int 0 0, .int 0 0, .int 0 0, .ref 55, .bool false, .int 181 0, .ref 56, .none, .none, .none, .none, .int 239 0, .int 13 0, S "/claim/cut.py" 240].toArray, [].toArray⟩),
  (58, ⟨.type "frame", none, .plain, [some (.ref 57), some (.ref 3), some (.ref 53), none, some (S "fdsolve.errors" 194), none, some (.ref 0)].toArray⟩),
  (61, e0),
  (64, pr P 66),
  (68, e0),
  (71, pr P 73),
  (77, ⟨.type "super", none, .fields [.ref 76, .ref 76, .ref 76].toArray, [].toArray⟩),
  (78, ⟨.type "builtin_function_or_method", none, .fields [.builtin "object.__init_subclass__", .ref 76].toArray, [].toArray⟩),
  (80, ⟨.type "builtin_function_or_method", none, .fields [.builtin "type.__prepare__", .type "type"].toArray, [].toArray⟩),
  (81, ⟨.type "dict", none, .dict [E P "__module__" 276 (S "fdsolve.errors" 194), E P "__qualname__" 278 (S "KindFault" 277), E P "__firstlineno__" 280 (.int 21 279), E P "__static_attributes__" 281 (.ref 86)].toArray 4, [].toArray⟩),
  (82, ⟨.type "tuple", none, .seq [].toArray 0, [].toArray⟩),
  (83, e0),
  (84, ⟨.type "code", none, .fields [S "KindFault" 271, S "KindFault" 272, S "/claim/cut.py" 273, .int 21 0, .int 0 0, .int 0 0, .int 0 0, .int 0 0, .ref 82, .bool false, .int 181 0, .ref 83, .none, .none, .none, .none, .int 274 0, .int 21 0, S "/claim/cut.py" 275].toArray, [].toArray⟩),
  (85, ⟨.type "frame", none, .plain, [some (.ref 84), some (.ref 3), some (.ref 81), none, some (S "fdsolve.errors" 194), none, some (.ref 0)].toArray⟩),
  (89, ⟨.type "super", none, .fields [.ref 88, .ref 88, .ref 88].toArray, [].toArray⟩),
  (90, ⟨.type "builtin_function_or_method", none, .fields [.builtin "object.__init_subclass__", .ref 88].toArray, [].toArray⟩),
  (138, ⟨.type "dict", none, .dict [E P "circuit" 374 (.ref 140), E P "increasing" 377 (.ref 142), E P "decreasing" 380 (.ref 144), E P "inverse" 383 (.ref 146), E P "lex_less" 386 (.ref 148), E P "lex_lesseq" 389 (.ref 150), E P "lex_greater" 392 (.ref 152), E P "lex_greatereq" 395 (.ref 154), E P "element" 398 (.ref 156), E P "table" 401 (.ref 158), E P "cumulative" 404 (.ref 160), E P "disjunctive" 407 (.ref 162), E P "regular" 410 (.ref 164), E P "value_precede" 413 (.ref 166), E P "global_cardinality" 416 (.ref 168), E P "global_cardinality_low_up" 419 (.ref 170), E P "nvalue" 422 (.ref 172)].toArray 17, [].toArray⟩),
  (173, ⟨.type "dict", none, .dict [E P "at_least" 425 (.ref 175), E P "at_most" 427 (.ref 177), E P "exactly" 429 (.ref 179), E P "maximum" 431 (.ref 181), E P "minimum" 433 (.ref 183)].toArray 5, [].toArray⟩),
  (186, e0),
  (189, pr P 191),
  (193, e0),
  (196, pr P 198),
  (200, e0),
  (203, pr P 205),
  (207, e0),
  (210, pr P 212),
  (213, ⟨.type "tuple", none, .seq [].toArray 0, [].toArray⟩),
  (214, ⟨.type "builtin_function_or_method", none, .fields [.builtin "type.__prepare__", .type "type"].toArray, [].toArray⟩),
  (215, ⟨.type "dict", none, .dict [E P "__module__" 504 (S "fdsolve.kinds" 285), E P "__qualname__" 506 (S "Names" 505), E P "__firstlineno__" 508 (.int 55 507), E P "__init__" 515 (.ref 226), E P "push" 522 (.ref 233), E P "pop" 529 (.ref 240), E P "put" 539 (.ref 247), E P "kind_of" 549 (.ref 254), E P "__static_attributes__" 552 (.ref 255)].toArray 9, [].toArray⟩),
  (216, ⟨.type "tuple", none, .seq [].toArray 0, [].toArray⟩),
  (217, ⟨.none, none, .fields [.int 57 0, .int 4 0, .ref 225, .int 61 0, .int 4 0, .ref 232, .int 64 0, .int 4 0, .ref 239, .int 67 0, .int 4 0, .ref 246, .int 72 0, .int 4 0, .ref 253].toArray, [].toArray⟩),
  (218, ⟨.type "code", none, .fields [S "Names" 499, S "Names" 500, S "/claim/cut.py" 501, .int 55 0, .int 0 0, .int 0 0, .int 0 0, .int 0 0, .ref 216, .bool false, .int 181 0, .ref 217, .none, .none, .none, .none, .int 502 0, .int 55 0, S "/claim/cut.py" 503].toArray, [].toArray⟩),
  (219, ⟨.type "frame", none, .plain, [some (.ref 218), some (.ref 3), some (.ref 215), none, some (S "fdsolve.kinds" 285), none, some (.ref 0)].toArray⟩),
  (221, e0),
  (224, pr P 226),
  (228, e0),
  (231, pr P 233),
  (235, e0),
  (238, pr P 240),
  (242, e0),
  (245, pr P 247),
  (249, e0),
  (252, pr P 254),
  (260, ⟨.type "super", none, .fields [.ref 257, .ref 257, .ref 257].toArray, [].toArray⟩),
  (261, ⟨.type "builtin_function_or_method", none, .fields [.builtin "object.__init_subclass__", .ref 257].toArray, [].toArray⟩),
  (262, ⟨.type "tuple", none, .seq [].toArray 0, [].toArray⟩),
  (263, ⟨.type "builtin_function_or_method", none, .fields [.builtin "type.__prepare__", .type "type"].toArray, [].toArray⟩),
  (264, ⟨.type "dict", none, .dict [E P "__module__" 567 (S "fdsolve.kinds" 285), E P "__qualname__" 569 (S "Kinds" 568), E P "__firstlineno__" 571 (.int 79 570), E P "__init__" 578 (.ref 275), E P "kind_of" 588 (.ref 282), E P "kind" 594 (.ref 287), E P "known_set" 603 (.ref 294), E P "chain" 613 (.ref 301), E P "joined" 625 (.ref 308), E P "put_together" 636 (.ref 315), E P "compared" 648 (.ref 322), E P "turned" 659 (.ref 329), E P "indexed" 672 (.ref 336), E P "of_all" 684 (.ref 343), E P "gathered" 695 (.ref 350), E P "generated" 710 (.ref 357), E P "goes_through" 719 (.ref 364), E P "source" 728 (.ref 371), E P "put_names" 740 (.ref 378), E P "chosen" 755 (.ref 385), E P "within" 765 (.ref 392), E P "call" 771 (.ref 397), E P "want_each" 784 (.ref 404), E P "open_call" 797 (.ref 411), E P "listing_call" 809 (.ref 418), E P "extreme" 819 (.ref 425), E P "type_kind" 833 (.ref 432), E P "declared" 839 (.ref 437), E P "check" 847 (.ref 444), E P "plain_kind" 855 (.ref 451), E P "note_predicate" 863 (.ref 458), E P "note_assigned" 871 (.ref 465), E P "ordered" 880 (.ref 472), E P "asked_within" 887 (.ref 479), E P "check_item" 895 (.ref 486), E P "check_predicate" 903 (.ref 493), E P "__static_attributes__" 910 (.ref 494)].toArray 37, [].toArray⟩),
  (265, ⟨.type "tuple", none, .seq [].toArray 0, [].toArray⟩),
  (266, ⟨.none, none, .fields [.int 81 0, .int 4 0, .ref 274, .int 89 0, .int 4 0, .ref 281, .int 100 0, .int 4 0, .ref 286, .int 124 0, .int 4 0, .ref 293, .int 127 0, .int 4 0, .ref 300, .int 138 0, .int 4 0, .ref 307, .int 164 0, .int 4 0, .ref 314, .int 170 0, .int 4 0, .ref 321, .int 178 0, .int 4 0, .ref 328, .int 183 0, .int 4 0, .ref 335, .int 195 0, .int 4 0, .ref 342, .int 204 0, .int 4 0, .ref 349, .int 222 0, .int 4 0, .ref 356, .int 243 0, .int 4 0, .ref 363, .int 247 0, .int 4 0, .ref 370, .int 255 0, .int 4 0, .ref 377, .int 261 0, .int 4 0, .ref 384, .int 276 0, .int 4 0, .ref 391, .int 291 0, .int 4 0, .ref 396, .int 305 0, .int 4 0, .ref 403, .int 311 0, .int 4 0, .ref 410, .int 333 0, .int 4 0, .ref 417, .int 344 0, .int 4 0, .ref 424, .int 353 0, .int 4 0, .ref 431, .int 364 0, .int 4 0, .ref 436, .int 373 0, .int 4 0, .ref 443, .int 376 0, .int 4 0, .ref 450, .int 379 0, .int 4 0, .ref 457, .int 382 0, .int 4 0, .ref 464, .int 385 0, .int 4 0, .ref 471, .int 388 0, .int 4 0, .ref 478, .int 391 0, .int 4 0, .ref 485, .int 394 0, .int 4 0, .ref 492].toArray, [].toArray⟩),
  (267, ⟨.type "code", none, .fields [S "Kinds" 562, S "Kinds" 563, S "/claim/cut.py" 564, .int 79 0, .int 0 0, .int 0 0, .int 0 0, .int 0 0, .ref 265, .bool false, .int 181 0, .ref 266, .none, .none, .none, .none, .int 565 0, .int 79 0, S "/claim/cut.py" 566].toArray, [].toArray⟩),
  (268, ⟨.type "frame", none, .plain, [some (.ref 267), some (.ref 3), some (.ref 264), none, some (S "fdsolve.kinds" 285), none, some (.ref 0)].toArray⟩),
  (270, e0),
  (273, pr P 275),
  (277, e0),
  (280, pr P 282),
  (284, e0),
  (285, pr P 287),
  (289, e0),
  (292, pr P 294),
  (296, e0),
  (299, pr P 301),
  (303, e0),
  (306, pr P 308),
  (310, e0),
  (313, pr P 315),
  (317, e0),
  (320, pr P 322),
  (324, e0),
  (327, pr P 329),
  (331, e0),
  (334, pr P 336),
  (338, e0),
  (341, pr P 343),
  (345, e0),
  (348, pr P 350),
  (352, e0),
  (355, pr P 357),
  (359, e0),
  (362, pr P 364),
  (366, e0),
  (369, pr P 371),
  (373, e0),
  (376, pr P 378),
  (380, e0),
  (383, pr P 385),
  (387, e0),
  (390, pr P 392),
  (394, e0),
  (395, pr P 397),
  (399, e0),
  (402, pr P 404),
  (406, e0),
  (409, pr P 411),
  (413, e0),
  (416, pr P 418),
  (420, e0),
  (423, pr P 425),
  (427, e0),
  (430, pr P 432),
  (434, e0),
  (435, pr P 437),
  (439, e0),
  (442, pr P 444),
  (446, e0),
  (449, pr P 451),
  (453, e0),
  (456, pr P 458),
  (460, e0),
  (463, pr P 465),
  (467, e0),
  (470, pr P 472),
  (474, e0),
  (477, pr P 479),
  (481, e0),
  (484, pr P 486),
  (488, e0),
  (491, pr P 493),
  (499, ⟨.type "super", none, .fields [.ref 496, .ref 496, .ref 496].toArray, [].toArray⟩),
  (500, ⟨.type "builtin_function_or_method", none, .fields [.builtin "object.__init_subclass__", .ref 496].toArray, [].toArray⟩),
  (524, e0),
  (527, pr P 529),
  (531, e0),
  (534, pr P 536),
  (538, e0),
  (541, pr P 543),
  (545, e0),
  (546, pr P 548),
  (550, e0),
  (553, pr P 555),
  (557, e0),
  (560, pr P 562),
  (564, e0),
  (567, pr P 569),
  (571, e0),
  (572, pr P 574),
  (576, e0),
  (579, pr P 581),
  (583, e0),
  (586, pr P 588)]
noncomputable def objs (P : Params) : List Obj := fill 589 0 (kk.heap_1 P) (ext P)
noncomputable def tr (ov : List (Nat × Obj)) (n : Nat) (P : Params) : BT := ofL 12 (ovr ov ((objs P).take n))
noncomputable def life0 : Life := ⟨[], [], [], 0, [], [], false, [].toArray, [], 0, false, false, false, 0, [2000, 10, 10], false, 0, true, [], [], 0, false⟩
noncomputable def drawn0 : Drawn := ⟨0, 0, 0, 0⟩
noncomputable def ov0 (P : Params) : List (Nat × Obj) := [(2, ⟨.none, none, .dict [].toArray 0, [].toArray⟩), (3, pre3 P 9 9 [E P "__name__" 165 (S "__main__" 164)]), (12, pre12 P 0)]
noncomputable def pos0 : Pos := ⟨0, 0, 0, 0⟩
noncomputable def st0 (w : World) (os : OsState) : SharedT := ⟨tr (ov0 w.params) 15 w.params, 15, life0, Array.mk [], drawn0, 187, os⟩
noncomputable def ov5 (P : Params) : List (Nat × Obj) := [(3, pre3 P 13 13 [E P "__name__" 165 (S "fdsolve.errors" 194)]), (12, pre12 P 12)]
noncomputable def pos5 : Pos := ⟨21, 0, 22, 8⟩
noncomputable def st5 (w : World) (os : OsState) : SharedT := ⟨tr (ov5 w.params) 91 w.params, 91, life0, Array.mk [], drawn0, 285, os⟩
noncomputable def ov18 (P : Params) : List (Nat × Obj) := [(3, pre3 P 25 25 [E P "__name__" 165 (S "fdsolve.kinds" 285)]), (12, pre12 P 12)]
noncomputable def pos18 : Pos := ⟨35, 0, 35, 6⟩
noncomputable def st18 (w : World) (os : OsState) : SharedT := ⟨tr (ov18 w.params) 103 w.params, 103, life0, Array.mk [], drawn0, 323, os⟩
noncomputable def ov19 (P : Params) : List (Nat × Obj) := [(3, pre3 P 26 26 [E P "__name__" 165 (S "fdsolve.kinds" 285)]), (12, pre12 P 12)]
noncomputable def pos19 : Pos := ⟨36, 0, 36, 5⟩
noncomputable def st19 (w : World) (os : OsState) : SharedT := ⟨tr (ov19 w.params) 184 w.params, 184, life0, Array.mk [], drawn0, 441, os⟩
noncomputable def ov25 (P : Params) : List (Nat × Obj) := [(3, pre3 P 32 32 [E P "__name__" 165 (S "fdsolve.kinds" 285)]), (12, pre12 P 27)]
noncomputable def pos25 : Pos := ⟨55, 0, 78, 56⟩
noncomputable def st25 (w : World) (os : OsState) : SharedT := ⟨tr (ov25 w.params) 262 w.params, 262, life0, Array.mk [], drawn0, 560, os⟩
noncomputable def ov26 (P : Params) : List (Nat × Obj) := [(3, pre3 P 33 33 [E P "__name__" 165 (S "fdsolve.kinds" 285)]), (12, pre12 P 30)]
noncomputable def pos26 : Pos := ⟨79, 0, 395, 16⟩
noncomputable def st26 (w : World) (os : OsState) : SharedT := ⟨tr (ov26 w.params) 501 w.params, 501, life0, Array.mk [], drawn0, 918, os⟩
noncomputable def ov39 (P : Params) : List (Nat × Obj) := []
noncomputable def pos39 : Pos := ⟨468, 0, 476, 39⟩
noncomputable def st39 (w : World) (os : OsState) : SharedT := ⟨tr (ov39 w.params) 589 w.params, 589, life0, Array.mk [], drawn0, 1096, os⟩


noncomputable def B0 : List Frame := [topFrame ⟨0, 0, 0, 0⟩]
noncomputable def ann0 : Option Value := some (.ref 6)
noncomputable def cM (b : List Stmt) : Code := .body b envM
theorem seg5 : ∀ (w : World) (p : Program) (b : List Stmt) (os : OsState), segRunT treeTable p w 11 ann0 1 834 (st0 w os) (piecesOf (sts 0 5) envM (cM b) pos0 B0) = some (.next, st5 w os, cM b, pos5) := by
  rewrite [PySem.W.Fast.te10110043849684766642, PySem.W.Fast.te14364793385576792824]
  intro w p b os
  kernel_rfl
theorem seg18 : ∀ (w : World) (p : Program) (b : List Stmt) (os : OsState), segRunT treeTable p w 11 ann0 1 154 (st5 w os) (piecesOf (sts 5 13) envM (cM b) pos5 B0) = some (.next, st18 w os, cM b, pos18) := by
  rewrite [PySem.W.Fast.te10110043849684766642, PySem.W.Fast.te14364793385576792824]
  intro w p b os
  kernel_rfl
theorem seg19f : ∀ (w : World) (p : Program) (b : List Stmt) (os : OsState), segRunT treeTable p (w.withFollow "special-get-raises" false) 11 ann0 1 1048 (st18 (w.withFollow "special-get-raises" false) os) (piecesOf (sts 18 1) envM (cM b) pos18 B0) = some (.next, st19 (w.withFollow "special-get-raises" false) os, cM b, pos19) := by
  rewrite [PySem.W.Fast.te10110043849684766642, PySem.W.Fast.te14364793385576792824]
  intro w p b os
  kernel_rfl
theorem seg19t : ∀ (w : World) (p : Program) (b : List Stmt) (os : OsState), segRunT treeTable p (w.withFollow "special-get-raises" true) 11 ann0 1 1048 (st18 (w.withFollow "special-get-raises" true) os) (piecesOf (sts 18 1) envM (cM b) pos18 B0) = some (.next, st19 (w.withFollow "special-get-raises" true) os, cM b, pos19) := by
  rewrite [PySem.W.Fast.te10110043849684766642, PySem.W.Fast.te14364793385576792824]
  intro w p b os
  kernel_rfl
theorem seg19 : ∀ (w : World) (p : Program) (b : List Stmt) (os : OsState), segRunT treeTable p w 11 ann0 1 1048 (st18 w os) (piecesOf (sts 18 1) envM (cM b) pos18 B0) = some (.next, st19 w os, cM b, pos19) :=
  byRow2 "special-get-raises" seg19f seg19t
theorem seg25 : ∀ (w : World) (p : Program) (b : List Stmt) (os : OsState), segRunT treeTable p w 11 ann0 1 506 (st19 w os) (piecesOf (sts 19 6) envM (cM b) pos19 B0) = some (.next, st25 w os, cM b, pos25) := by
  rewrite [PySem.W.Fast.te10110043849684766642, PySem.W.Fast.te14364793385576792824]
  intro w p b os
  kernel_rfl
theorem seg26 : ∀ (w : World) (p : Program) (b : List Stmt) (os : OsState), segRunT treeTable p w 11 ann0 1 1314 (st25 w os) (piecesOf (sts 25 1) envM (cM b) pos25 B0) = some (.next, st26 w os, cM b, pos26) := by
  rewrite [PySem.W.Fast.te10110043849684766642, PySem.W.Fast.te14364793385576792824]
  intro w p b os
  kernel_rfl
theorem seg39 : ∀ (w : World) (p : Program) (b : List Stmt) (os : OsState), segRunT treeTable p w 11 ann0 1 460 (st26 w os) (piecesOf (sts 26 13) envM (cM b) pos26 B0) = some (.next, st39 w os, cM b, pos39) := by
  rewrite [PySem.W.Fast.te10110043849684766642, PySem.W.Fast.te14364793385576792824]
  intro w p b os
  kernel_rfl
end
end Hd
end
section
open PySem PySem.W PyProof.Rows
namespace Hd
noncomputable section
noncomputable def bE : List Stmt := behindTheImports P0
theorem pre0 : ∀ (w : World) (os : OsState), topGo treeTable P0 w 11 ann0 12 ⟨boot_heap w.params, Array.mk [], boot_drawn, boot_toks, os⟩ (topStub P0) = some ((st0 w os).abs, ⟨denote treeTable (cM bE), cM bE, pos0, B0⟩) := by
  rewrite [PySem.W.Fast.te15667345088766844465, PySem.W.Fast.te14364793385576792824, PySem.W.Fast.te11892475500146522536]
  intro w os
  kernel_rfl
theorem blk0 : ∀ (w : World) (os : OsState), segRun treeTable P0 w 11 ann0 1 1 (st0 w os).abs (blockOf bE envM (cM bE) pos0 B0) = some (.next, (st0 w os).abs, cM bE, pos0) := by
  rewrite [PySem.W.Fast.te14374325043358763698, PySem.W.Fast.te14364793385576792824]
  intro w os
  kernel_rfl
theorem split0 : bE = sts 0 5 ++ (sts 5 13 ++ (sts 18 1 ++ (sts 19 6 ++ (sts 25 1 ++ (sts 26 13 ++ []))))) := by kernel_rfl
theorem fin0 : ∀ (w : World) (b : List Stmt) (os : OsState), topRun treeTable P0 w 11 ann0 2 (st39 w os).abs ⟨doneF .next, cM b, pos39, B0⟩ = some (st39 w os).abs := by
  intro w b os
  kernel_rfl
theorem chain0 (w : World) (b : List Stmt) (os : OsState) : topRun treeTable P0 w 11 ann0 (834 + (154 + (1048 + (506 + (1314 + (460 + 2)))))) (st0 w os).abs
    (restOf (sts 0 5 ++ (sts 5 13 ++ (sts 18 1 ++ (sts 19 6 ++ (sts 25 1 ++ (sts 26 13 ++ [])))))) envM (cM b) pos0 B0) = some (st39 w os).abs :=
  piece_app (segRun_of (seg5 w P0 b os)) <| piece_app (segRun_of (seg18 w P0 b os)) <| piece_app (segRun_of (seg19 w P0 b os)) <| piece_app (segRun_of (seg25 w P0 b os)) <|
    piece_app (segRun_of (seg26 w P0 b os)) <| piece_app (segRun_of (seg39 w P0 b os)) <| piece_nil (fin0 w b os)
noncomputable def M0 : Nat := 12 + (1 + (834 + (154 + (1048 + (506 + (1314 + (460 + 2)))))))
noncomputable def H₁ (P : Params) : Heap := ⟨(objs P).toArray, life0⟩
theorem heap0 : ∀ P : Params, absHeap (tr (ov39 P) 589 P) 589 life0 = H₁ P := by
  intro P
  kernel_rfl
theorem run0 (w : World) (os : OsState) : topRun treeTable P0 w 11 ann0 M0 ⟨boot_heap w.params, Array.mk [], boot_drawn, boot_toks, os⟩ (topStub P0) = some ⟨H₁ w.params, Array.mk [], drawn0, 1096, os⟩ := by
  have h := chain0 w bE os
  rw [← split0] at h
  have h2 := go_top (pre0 w os) (piece_block (blk0 w os) h)
  have e : (st39 w os).abs = ⟨H₁ w.params, Array.mk [], drawn0, 1096, os⟩ := congrArg (fun H => (⟨H, Array.mk [], drawn0, 1096, os⟩ : Shared)) (heap0 w.params)
  rw [e] at h2
  exact h2
theorem size0 : ∀ w : World, ((boot_heap w.params).isNs mainGlobals && (Array.mk [] : Array GenState).size == 0, (boot_heap w.params).objs.size, (boot_heap w.params).nsMap mainGlobals "__annotations__") = (true, 11, ann0) := by
  intro w
  kernel_rfl
theorem open0 : ∀ w : World, (fencedOpening treeTable P0 w 9000).map (fun s => (s.heap, s.gens, s.drawn, s.toks)) = some (boot_heap w.params, Array.mk [], boot_drawn, boot_toks) :=
  boot_open (by kernel_rfl) (by decide +kernel) (by intro s; kernel_rfl)
noncomputable def qV : Program := { PySem.Challenge.pw_pq0384_02 with main := { PySem.Challenge.pw_pq0384_02.main with body := sts 38 1 } }
noncomputable def looseL : List Str := [Str.ofString "_wall", Str.ofString "FdError", Str.ofString "SpotFault", Str.ofString "KindFault", Str.ofString "INT", Str.ofString "BOOL", Str.ofString "INTS", Str.ofString "BOOLS", Str.ofString "KNOWN", Str.ofString "KNOWNS", Str.ofString "ROWS", Str.ofString "SET", Str.ofString "TEXT", Str.ofString "TEXTS", Str.ofString "SETS", Str.ofString "TRUTHS", Str.ofString "CALLS", Str.ofString "OPEN_CALLS", Str.ofString "kind_text", Str.ofString "fits", Str.ofString "want", Str.ofString "common", Str.ofString "Names", Str.ofString "Kinds", Str.ofString "_law_bases", Str.ofString "_law_signs", Str.ofString "_law_stands", Str.ofString "_law_dip", Str.ofString "_law_is", Str.ofString "_law_same", Str.ofString "_law_joined", Str.ofString "_law_told", Str.ofString "_law_is_due", Str.ofString "_law_next", Str.ofString "_law_tree_right"]
noncomputable def asK : List Addr := [2, 3, 15, 17, 18, 20, 21, 22, 25, 30, 31, 33, 34, 36, 37, 38, 40, 41, 43, 44, 45, 46, 47, 48, 51, 54, 59, 60, 62, 63, 65, 66, 67, 69, 70, 72, 73, 74, 75, 76, 79, 86, 87, 88, 91, 92, 93, 94, 95, 96, 97, 98, 99, 100, 101, 102, 103, 104, 105, 106, 107, 108, 109, 110, 111, 112, 113, 114, 115, 116, 117, 118, 119, 120, 121, 122, 123, 124, 125, 126, 127, 128, 129, 130, 131, 132, 133, 134, 135, 136, 137, 139, 140, 141, 142, 143, 144, 145, 146, 147, 148, 149, 150, 151, 152, 153, 154, 155, 156, 157, 158, 159, 160, 161, 162, 163, 164, 165, 166, 167, 168, 169, 170, 171, 172, 174, 175, 176, 177, 178, 179, 180, 181, 182, 183, 184, 185, 187, 188, 190, 191, 192, 194, 195, 197, 198, 199, 201, 202, 204, 205, 206, 208, 209, 211, 212, 220, 222, 223, 225, 226, 227, 229, 230, 232, 233, 234, 236, 237, 239, 240, 241, 243, 244, 246, 247, 248, 250, 251, 253, 254, 255, 256, 257, 258, 259, 269, 271, 272, 274, 275, 276, 278, 279, 281, 282, 283, 286, 287, 288, 290, 291, 293, 294, 295, 297, 298, 300, 301, 302, 304, 305, 307, 308, 309, 311, 312, 314, 315, 316, 318, 319, 321, 322, 323, 325, 326, 328, 329, 330, 332, 333, 335, 336, 337, 339, 340, 342, 343, 344, 346, 347, 349, 350, 351, 353, 354, 356, 357, 358, 360, 361, 363, 364, 365, 367, 368, 370, 371, 372, 374, 375, 377, 378, 379, 381, 382, 384, 385, 386, 388, 389, 391, 392, 393, 396, 397, 398, 400, 401, 403, 404, 405, 407, 408, 410, 411, 412, 414, 415, 417, 418, 419, 421, 422, 424, 425, 426, 428, 429, 431, 432, 433, 436, 437, 438, 440, 441, 443, 444, 445, 447, 448, 450, 451, 452, 454, 455, 457, 458, 459, 461, 462, 464, 465, 466, 468, 469, 471, 472, 473, 475, 476, 478, 479, 480, 482, 483, 485, 486, 487, 489, 490, 492, 493, 494, 495, 496, 497, 498, 501, 502, 503, 504, 505, 506, 507, 508, 509, 510, 511, 512, 513, 514, 515, 516, 517, 518, 519, 520, 521, 522, 523, 525, 526, 528, 529, 530, 532, 533, 535, 536, 537, 539, 540, 542, 543, 544, 547, 548, 549, 551, 552, 554, 555, 556, 558, 559, 561, 562, 563, 565, 566, 568, 569, 570, 573, 574, 575, 577, 578, 580, 581, 582, 584, 585, 587, 588]
theorem asK_eq : ∀ P, asK = (kk.heap_1 P).map (·.1) := by intro P; kernel_rfl

theorem gl_names : namesOk qV (looseW qV looseL) (namesW qV looseL) = true := by
  rewrite [PySem.W.Fast.te17448422675489707002, PySem.W.Fast.te821141287760084731]
  kernel_rfl
theorem gl_imps : importsNone qV = true := by
  rewrite [PySem.W.Fast.te2458874890965802552]
  kernel_rfl
noncomputable abbrev XtL (s : Shared) : Bool := xlAt qV [] s && recOk [] s
theorem looks0 : ∀ w : World, (fun os => ((staticsOk (importedModules P0.main.body) (boot_heap w.params) (H₁ w.params) && namesBound P0 (H₁ w.params) && gensDone ⟨H₁ w.params, Array.mk [], drawn0, 1096, os⟩ && laidKept (boot_heap w.params) (H₁ w.params)),
        openSeen qV looseL (importedModules P0.main.body) XtL true ⟨H₁ w.params, Array.mk [], drawn0, 1096, os⟩, asK.map (H₁ w.params).get?)) = fun _ => (true, openGood qV looseL, (kk.heap_1 w.params).map fun p => some p.2) := by
  rewrite [PySem.W.Fast.te4187177175401517315]
  intro w
  kernel_rfl
theorem left0 : LeftO P0 qV looseL XtL (Hook.obs (kHook kk.heap_1 asK asK_eq)) (Hook.val (kHook kk.heap_1 asK asK_eq)) 9000 :=
  LeftO.of_pieces open0 size0 run0 (by kernel_rfl) looks0
end
end Hd
end
local macro_rules | `(tactic| walk_at "call ref") => `(tactic| (k_here; (with_reducible show wpAny _ _ (call (Value.ref 496) _) _ _ _); k_dflt (refine' kinds_ct _ _ _ _ _ _ _ _ _ _ _ _ _ _ _ _ _ _ _ _ _ _ _ _ ?k1 ?k2 ?k3 ?k4 ?k5 ?k6 ?k7 ?k8 ?_; (case k1 | k2 | k3 | k4 | k5 => k_asm); (case k6 => first | exact rfl | assumption); (case k7 => ktr_room); (case k8 => ktr_units)); intro mk dmk nm dn sd l ak od oa t1 t2 t3 t4 t5 t6 v2 v3 v4 v5 v6 s1 s2 h' tk' F' N' hd1' hd2' hl' ho' lo1' lo2'))
local macro_rules | `(tactic| ktr_room) => `(tactic| (show 302 + _ < 1000; decide))
local macro_rules | `(tactic| ktr_units) => `(tactic| (show 7 + _ < 9900; decide))
local macro_rules | `(tactic| walk_at "subscriptTail") => `(tactic| (k_here; ((with_reducible show wpAny _ _ (subscriptTail _ _ (Value.ref 522) (Value.int _ _)) _ _ _); k_dflt (refine' signs_item2 ?kF ?kX ?k1 ?k2 ?_ ?k6; (case kF | kX => k_asm); (case k1 | k2 => with_reducible assumption); (case k6 => with_unfolding_all rfl)); intro t')))
local macro_rules | `(tactic| walk_at "call ref") => `(tactic| (k_here; (with_reducible show wpAny _ _ (call (Value.ref 562) _) _ _ _); k_dflt (refine' told_ct _ _ _ _ _ _ _ _ _ _ _ _ _ _ _ _ _ _ _ _ _ _ _ _ ?hm ?hmd (KdIn.mono ?h1 nil_sub) (KdIn.mono ?h2 nil_sub) ?d1 ?d2 ?hx _ _ _ _ _ _ _ _ _ _ _ _ _ _ _ _ _ _ _ _ ?k1 ?k2 ?k3 ?k9 ?k4 ?k5 ?k0 ?k6 ?k7 ?k8 ?_ ?_; (case k1 | k2 | k3 => k_asm); (case k9 => with_reducible assumption); (case k4 | k5 => k_asm); (case k0 => with_reducible assumption); (case k6 => exact rfl); (case k7 => ktr_room); (case k8 => ktr_units); (case hm | hmd => k_mem); (case h1 | h2 => with_reducible assumption); (case d1 | d2 => exact bases_d _ (by with_reducible assumption)); (case hx => exact signs_len _ (by with_reducible assumption))); (first | intro k' D' tl' h' tk' ej' F' N' l' kd' | skip)))
local macro_rules | `(tactic| walk_at "call ref") => `(tactic| (k_here; (with_reducible show wpAny _ _ (call (Value.ref 569) _) _ _ _); first
  | exact (clash1' (by with_reducible assumption) (by with_reducible assumption) (by with_reducible assumption) (by with_reducible assumption) (by with_reducible assumption)).elim
  | exact (clash2' (by with_reducible assumption) (by with_reducible assumption) (by with_reducible assumption) (by with_reducible assumption) (by with_reducible assumption)).elim
  | (k_dflt (refine' due_use3 ?q1 ?q2 ?s1 ?s2 ?e1 ?e2 ?hx ?h1 ?h2 ?k1 ?k2 ?k3 ?k4 ?k5 ?k6 ?k7 ?k8 ?_; (case e1 | e2 | q1 | q2 | hx | h1 | h2 => with_reducible assumption); (case k1 | k2 | k3 | k4 | k5 => k_asm); (case k6 => exact rfl); (case k7 => ktr_room); (case k8 => ktr_units); (case s1 | s2 => first | exact (fun p hp => List.mem_append_left _ hp) | (intro p hp; repeat (first | exact hp | refine List.mem_append_right _ ?_)))); intro h' tk' F' N')
  | (k_dflt (refine' due_use2 ?k1 ?k2 ?k3 ?k4 ?k5 ?k6 ?k7 ?k8 ?_; (case k1 | k2 | k3 | k4 | k5 => k_asm); (case k6 => exact rfl); (case k7 => ktr_room); (case k8 => ktr_units)); intro h' tk' F' N')))
local macro_rules | `(tactic| k_qdec) => `(tactic| first | exact Hd.gl_names | exact Hd.gl_imps)
open Hd
theorem law_holds : PySem.Challenge.rw_pq0384_02.Holds := by
  w_on
  refine holds_law said0 fun _ => ?_
  refine holds_open (q := qV) (loose := looseL) (Xt := XtL) (XP := XL qV []) (Yf := Hook.obs (kHook kk.heap_1 asK asK_eq)) (Ya := Hook.val (kHook kk.heap_1 asK asK_eq)) (YP := Hook.says (kHook kk.heap_1 asK asK_eq)) (N := 9000) left0 (Hook.of (kHook kk.heap_1 asK asK_eq)) (Hook.keeps (kHook kk.heap_1 asK asK_eq)) (fun s e => xl_of s (Bool.and_eq_true_iff.mp e).1) XL.keeps (by rfl) (by rfl) (by rfl) (fun s e => recFacts_of (Bool.and_eq_true_iff.mp e).2) (by rfl) (by first | assumption | decide +kernel) (by decide +kernel) ⟨rfl, rfl, rfl, rfl, rfl, by decide +kernel⟩ ?hw ?hc
  (case hw => w_witness2)
  k_go0
  (all_goals try k_fold)
  rename World => w
  show wpAny (model P0 w) _ _ _ _ _
  iterate 31 walk1
  rename IntsAre _ (List.take _ _) => HI
  rename News _ _ _ _ => N4
  rename Obj.IsDictOf _ _ (strPairs _) => HF
  rename_i fd h3 o1 lo9 hd0 ha2 lb2 D1 ws h2 hC hL ha1 lb1 cl c h1 F1 N1 ha lb h0 o F0
  k_here
  k_dflt refine' kinds_ct _ _ _ _ _ _ _ _ _ _ _ _ _ _ _ _ _ _ _ _ _ _ _ _ ?k1 ?k2 ?k3 N4 ?k5 ?k6 ?k7 ?k8 ?_
  (case k1 => k_asm)
  (case k2 => k_asm)
  (case k3 => k_asm)
  (case k5 => k_asm)
  (case k6 => exact rfl)
  (case k7 => (show 302 + _ < 1000; decide))
  (case k8 => (show 7 + _ < 9900; decide))
  intro mk dmk nm dn sd l ak od oa t1 t2 t3 t4 t5 t6 v2 v3 v4 v5 v6 s1 s2 h9 tk9 F9 N9 hd1 hd2 hl9 ho9 lo1 lo2
  have ll9 := allLt_of hl9
  simp only [AllLt, and_true] at ll9
  clear N4
  iterate 20 walk1
  rename Fr _ _ _ _ => FA
  rename News _ _ _ _ => NA
  rename IsRange _ _ _ _ _ _ _ _ => RA
  have hsz : ws.toArray.size ≤ 60 := by
    have e := HI.length
    rw [List.size_toArray, e, hC]
    exact Nat.min_le_left _ _
  have hits : IntsAre ws.toArray.toList (List.take 60 _) := HI
  have hcf : cl ≠ fd := Nat.ne_of_gt lb.2
  refine' law_loop [(sd, od), (ak, oa), (l, W.listOf #[.ref sd] 0), (nm, nmO dn), (dn, nmD w s1 s2 l ak), (mk, mkO dmk), (dmk, mkD w t1 t2 t3 t4 t5 t6 (.ref nm) v2 v3 v4 v5 v6), (cl, W.listOf ws.toArray c)] rfl RA FA NA ⟨_, HF⟩ ?hs ?turn ?done
  case hs =>
    simp only [List.forall_mem_cons]
    exact ⟨by k_mem, by k_mem, by k_mem, by k_mem, by k_mem, by k_mem, by k_mem, by k_mem, by k_mem, fun _ h => nomatch h⟩
  case turn =>
    clear FA NA RA HF
    intro i t o7 n7 u h tk own hi hlo7 hhi7 hf7 hoff F7 N7
    obtain ⟨rest, hrest⟩ : ∃ rest, rest = [(sd, od), (ak, oa), (l, W.listOf #[.ref sd] 0), (nm, nmO dn), (dn, nmD w s1 s2 l ak), (mk, mkO dmk), (dmk, mkD w t1 t2 t3 t4 t5 t6 (.ref nm) v2 v3 v4 v5 v6), (cl, W.listOf ws.toArray c)] := ⟨_, rfl⟩
    obtain ⟨R, hR⟩ : ∃ R, R = rest ++ own := ⟨_, rfl⟩
    have zm1 : (mk, mkO dmk) ∈ R := by rw [hR, hrest]; exact List.mem_append_left _ (by k_mem)
    have zm2 : (dmk, mkD w t1 t2 t3 t4 t5 t6 (.ref nm) v2 v3 v4 v5 v6) ∈ R := by rw [hR, hrest]; exact List.mem_append_left _ (by k_mem)
    have zcl : (cl, W.listOf ws.toArray c) ∈ R := by rw [hR, hrest]; exact List.mem_append_left _ (by k_mem)
    rw [← hrest] at N7 hoff
    have N8 := N7
    rw [List.cons_append, ← hR] at N8
    have g1 : ∀ p ∈ R, p.1 ≠ fd := fun p hp => by
      rw [hR] at hp
      rcases List.mem_append.mp hp with hp | hp
      · rw [hrest] at hp
        simp only [List.mem_cons, List.not_mem_nil, or_false] at hp
        rcases hp with h | h | h | h | h | h | h | h <;> (rw [h]; show (_ : Nat) ≠ fd; omega)
      · exact hoff p hp _ (.head _)
    clear N7
    iterate 57 walk1
    rename Fr _ _ _ _ => FB
    rename News _ _ _ _ => NB
    rename IsRange _ _ _ _ _ _ _ _ => RB
    rename IsFeed _ _ _ _ => IF
    refine' kow_range (n := 29) [Str.ofString "told"] rfl RB (by decide) (by decide) FB NB ?turn2 ?done2
    case turn2 =>
      clear FB NB RB N8
      intro k t9 u9 h9 tk9 I oI hk0 hk1 FT NT hI
      have hk2 : k < 29 := by omega
      have hsg := sgn_mem hk0 hk2
      k_steps
    case done2 =>
      intro u9 h9 tk9 FT NT
      k_steps
      have c2 : ∀ z, stL.contains z = false → ¬ (stL.contains z = true) := fun z hz => by rw [hz]; exact Bool.false_ne_true
      refine ⟨_, _, _, _, (fd, _) :: rest, rfl, FT, NT, ?_, ?_, ?_, ⟨_, n7 + 1 + 1, congrArg (List.cons (fd, _)) hrest, IF, by omega, by omega, ?_⟩⟩
      · intro p hp
        rcases List.mem_cons.mp hp with rfl | hp
        · k_mem
        · have hq : p ∈ R := by rw [hR]; exact List.mem_append_left _ hp
          repeat (first | exact hq | refine List.mem_cons_of_mem _ ?_)
      · intro p hp
        have hq : p ∈ R := by rw [hR]; exact List.mem_append_right _ hp
        repeat (first | exact hq | refine List.mem_cons_of_mem _ ?_)
      · intro q hq p hp
        rcases List.mem_cons.mp hp with rfl | hp
        · exact hoff q hq (fd, o7) (.head _)
        · exact hoff q hq p (.tail _ hp)
      · intro z hz
        obtain ⟨b1, b2, b3, b4, b5⟩ := stl_ne hz
        have c1 : ¬ ([Str.ofString "told"].contains z = true) := by simp [b5]
        have c3 := c2 z hz
        repeat (with_reducible (first | refine (if_neg b1).trans ?_ | refine (if_neg b2).trans ?_ | refine (if_neg b3).trans ?_ | refine (if_neg b4).trans ?_ | refine (if_neg c1).trans ?_ | refine (if_neg c3).trans ?_))
        exact rfl
  case done =>
    clear FA NA RA HF
    intro o7 n7 u h tk h07 h67 hf7 F7 N7
    have z1 : (mk, mkO dmk) ∈ [(l, W.listOf #[.ref sd] 0), (nm, nmO dn), (dn, nmD w s1 s2 l ak), (mk, mkO dmk), (dmk, mkD w t1 t2 t3 t4 t5 t6 (.ref nm) v2 v3 v4 v5 v6), (cl, W.listOf ws.toArray c)] := by k_mem
    iterate 11 walk1
    k_here
    k_dflt refine' tree_ct w [(l, W.listOf #[.ref sd] 0), (nm, nmO dn), (dn, nmD w s1 s2 l ak), (mk, mkO dmk), (dmk, mkD w t1 t2 t3 t4 t5 t6 (.ref nm) v2 v3 v4 v5 v6), (cl, W.listOf ws.toArray c)] fd cl mk dmk nm dn sd l ak o7 od oa n7 ws.toArray _ c t1 t2 t3 t4 t5 t6 v2 v3 v4 v5 v6 s1 s2 hits hsz hf7 (by k_mem) hcf ⟨h07, by omega⟩ hd1 hd2 lo1 z1 (by k_mem) (by k_mem) (by k_mem) (by k_mem) ?g1 ?g2 ?g3 ?g4 ?g5 ?g6 _ _ _ _ _ _ _ _ _ _ _ _ _ _ _ _ _ _ _ _ ?k1 ?k2 ?k3 ?k9 ?k4 ?k5 ?k0 ?k6 ?k7 ?k8 ?_
    (case k1 => k_asm)
    (case k2 => k_asm)
    (case k3 => k_asm)
    (case k9 => with_reducible assumption)
    (case k4 => k_asm)
    (case k5 => k_asm)
    (case k0 => with_reducible assumption)
    (case k6 => exact rfl)
    (case k7 => ktr_room)
    (case k8 => ktr_units)
    (case g1 => (simp only [List.forall_mem_cons]; refine ⟨?_, ?_, ?_, ?_, ?_, ?_, fun _ h => nomatch h⟩ <;> (show (_ : Nat) ≠ fd; omega)))
    (case g2 => (simp only [List.forall_mem_cons]; refine ⟨?_, ?_, ?_, ?_, ?_, ?_, fun _ h => nomatch h⟩ <;> (show (_ : Nat) ≠ sd; omega)))
    (case g3 => (simp only [List.forall_mem_cons]; refine ⟨?_, ?_, ?_, ?_, ?_, ?_, fun _ h => nomatch h⟩ <;> (show (_ : Nat) ≠ ak; omega)))
    (case g4 => (show (_ : Nat) ≠ _; omega))
    (case g5 => (show (_ : Nat) ≠ _; omega))
    (case g6 => (show (_ : Nat) ≠ _; omega))
    intro h9 tk9 F9
    k_steps
end
end
end Mine
set_option maxRecDepth 100000 in
set_option maxHeartbeats 8000000 in
theorem PySem.Challenge.cw_pq0384_02_holds : PySem.Challenge.rw_pq0384_02.Holds := by
  exact Mine.law_holds
