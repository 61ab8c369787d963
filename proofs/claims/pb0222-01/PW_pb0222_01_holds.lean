import PyProof.Rows.All
import Wide.All
import OpenK.AllK
import Wide.FinOn
import PySem.Challenge.RW_pb0222_01
set_option Elab.async false

section
open PySem PySem.W PyProof.Rows
set_option Elab.async false
set_option maxRecDepth 100000
set_option maxHeartbeats 8000000
namespace Mine
open_top hd for PySem.Challenge.rw_pb0222_01
theorem top_off : True := by w_top off; trivial
end Mine
end

section
open PySem PySem.W PyProof.Rows PySem.Spec PySem.Calls
set_option Elab.async false
set_option maxRecDepth 100000
set_option maxHeartbeats 8000000
set_option linter.all false
set_option compiler.extract_closed false
namespace Mine
noncomputable abbrev excObj (dx t : Addr) : Obj := { cls := .ref 60, dict := some dx, data := .fields #[.ref t, .none, .none, .none, .bool false, .none] }
noncomputable abbrev excDict (u1 u2 : Int) (msg : Str) (tm : Tok) (D : Addr) (k1 k2 : Tok) (n : Nat) : Obj :=
  dictOf [⟨u1, .str (Str.ofString "what") k1, .str msg tm⟩, ⟨u2, .str (Str.ofString "at") k2, .ref D⟩] n
end Mine
end

section
open PySem PySem.W PyProof.Rows PySem.Spec PySem.Calls
set_option Elab.async false
set_option linter.all false
set_option compiler.extract_closed false
namespace Mine
/-- a tree whose steps leave every object's dict where it is -/
noncomputable def KD {α : Type} : Sem α → Prop
  | .pure _ => True
  | .raise _ => True
  | .unsupported _ => True
  | .finish _ => True
  | .rule _ k => KD (k ())
  | .at _ k => KD (k ())
  | .point _ k => KD (k ())
  | .load _ _ k => ∀ o, KD (k o)
  | .loadIfAlive _ k => ∀ o, KD (k o)
  | .update _ _ f k => (∀ o, (f o).dict = o.dict) ∧ KD (k ())
  | .alloc _ k => ∀ a, KD (k a)
  | .fresh k => ∀ t, KD (k t)
  | .ask k => ∀ t, KD (k t)
  | .handled _ k => ∀ t, KD (k t)
  | .stack k => ∀ t, KD (k t)
  | .thread k => ∀ t, KD (k t)
  | _ => False
noncomputable def DK (h h' : Heap) : Prop := ∀ (a : Nat) o, h.objs[a]? = some o → ∃ o', h'.objs[a]? = some o' ∧ o'.dict = o.dict
theorem DK.refl (h : Heap) : DK h h := fun _ o e => ⟨o, e, rfl⟩
theorem DK.trans {h₁ h₂ h₃ : Heap} (x : DK h₁ h₂) (y : DK h₂ h₃) : DK h₁ h₃ := fun a o e => by
  obtain ⟨o', e', d'⟩ := x a o e
  obtain ⟨o'', e'', d''⟩ := y a o' e'
  exact ⟨o'', e'', d''.trans d'⟩
theorem DK.push (h : Heap) (o : Obj) : DK h (h.push o) := fun a o' e => by
  obtain ⟨objs, l⟩ := h
  refine ⟨o', ?_, rfl⟩
  show (objs.push o)[a]? = some o'
  have e : objs[a]? = some o' := e
  have hl := (Array.getElem?_eq_some_iff.mp e).1
  rw [Array.getElem?_push_lt hl]
  exact (Array.getElem?_eq_getElem hl).symm.trans e
theorem DK.update (h : Heap) (b : Addr) (f : Obj → Obj) (hf : ∀ o, (f o).dict = o.dict) : DK h (h.update b f) := fun a o e => by
  obtain ⟨objs, l⟩ := h
  show ∃ o', (objs.modify b f)[a]? = some o' ∧ _
  have e : objs[a]? = some o := e
  rw [Array.getElem?_modify]
  split
  · exact ⟨f o, by rw [e]; rfl, hf o⟩
  · exact ⟨o, e, rfl⟩
theorem kd_wp {α : Type} {M : Model} {Γ : PySem.Ctx} : ∀ (t : Sem α), KD t → ∀ {Q : α → Pos → Shared → Prop} {E : Value → Pos → Shared → Prop} {p : Pos} {s : Shared}, Sem.wp M Γ t Q E p s →
    Sem.wp M Γ t (fun a p' s' => Q a p' s' ∧ DK s.heap s'.heap) (fun e p' s' => E e p' s' ∧ DK s.heap s'.heap) p s := by
  intro t
  induction t with
  | pure a => intro _ Q E p s h; simp only [Sem.wp] at h ⊢; exact ⟨h, DK.refl _⟩
  | raise a => intro _ Q E p s h; simp only [Sem.wp] at h ⊢; exact ⟨h, DK.refl _⟩
  | unsupported a => intro _ Q E p s h; simp only [Sem.wp] at h
  | finish a => intro _ Q E p s h; simp only [Sem.wp] at h
  | rule a k ih => intro hk Q E p s h; simp only [Sem.wp] at h ⊢; exact ih () hk h
  | «at» a k ih => intro hk Q E p s h; simp only [Sem.wp] at h ⊢; exact ih () hk h
  | point a k ih => intro hk Q E p s h; simp only [Sem.wp] at h ⊢; exact ih () hk h
  | load a q k ih => intro hk Q E p s h; simp only [Sem.wp] at h ⊢; obtain ⟨o, ho, h⟩ := h; exact ⟨o, ho, ih o (hk o) h⟩
  | loadIfAlive a k ih => intro hk Q E p s h; simp only [Sem.wp] at h ⊢; exact ih _ (hk _) h
  | update a q f k ih =>
    intro hk Q E p s h
    simp only [Sem.wp] at h ⊢
    obtain ⟨h0, h⟩ := h
    refine ⟨h0, Sem.wp_mono M Γ _ (fun a p s' h => ⟨h.1, (DK.update _ _ _ hk.1).trans h.2⟩) (fun e p s' h => ⟨h.1, (DK.update _ _ _ hk.1).trans h.2⟩) _ _ (ih () hk.2 h)⟩
  | alloc o k ih =>
    intro hk Q E p s h
    simp only [Sem.wp] at h ⊢
    exact Sem.wp_mono M Γ _ (fun a p s' h => ⟨h.1, (DK.push _ _).trans h.2⟩) (fun e p s' h => ⟨h.1, (DK.push _ _).trans h.2⟩) _ _ (ih _ (hk _) h)
  | fresh k ih => intro hk Q E p s h; simp only [Sem.wp] at h ⊢; exact ih _ (hk _) h
  | ask k ih => intro hk Q E p s h; simp only [Sem.wp] at h ⊢; exact ih _ (hk _) h
  | handled a k ih => intro hk Q E p s h; simp only [Sem.wp] at h ⊢; exact ih _ (hk _) h
  | stack k ih => intro hk Q E p s h; simp only [Sem.wp] at h ⊢; exact ih _ (hk _) h
  | thread k ih => intro hk Q E p s h; simp only [Sem.wp] at h ⊢; exact ih _ (hk _) h
  | register => intro hk; exact hk.elim
  | choose => intro hk; exact hk.elim
  | os => intro hk; exact hk.elim
  | call => intro hk; exact hk.elim
  | newGen => intro hk; exact hk.elim
  | genState => intro hk; exact hk.elim
  | resume => intro hk; exact hk.elim
  | yield => intro hk; exact hk.elim
  | fork => intro hk; exact hk.elim
  | await => intro hk; exact hk.elim
theorem kd_any {α : Type} {M : Model} {A : Around} {t : Sem α} {Q : α → Shared → Prop} {E : Value → Shared → Prop} {s : Shared} (k : KD t) (h : wpAny M A t Q E s) :
    wpAny M A t (fun a s' => Q a s' ∧ DK s.heap s'.heap) (fun e s' => E e s' ∧ DK s.heap s'.heap) s := fun Γ p hΓ => kd_wp t k (h Γ p hΓ)
theorem kd_bind {α β : Type} {m : Sem α} {f : α → Sem β} (hm : KD m) (hf : ∀ a, KD (f a)) : KD (m >>= f) := by
  show KD (m.bind f)
  induction m with
  | pure a => exact hf a
  | raise a => trivial
  | unsupported a => trivial
  | finish a => trivial
  | rule a k ih => exact ih () hm
  | «at» a k ih => exact ih () hm
  | point a k ih => exact ih () hm
  | load a q k ih => exact fun o => ih o (hm o)
  | loadIfAlive a k ih => exact fun o => ih o (hm o)
  | update a q f k ih => exact ⟨hm.1, ih () hm.2⟩
  | alloc o k ih => exact fun a => ih a (hm a)
  | fresh k ih => exact fun a => ih a (hm a)
  | ask k ih => exact fun a => ih a (hm a)
  | handled a k ih => exact fun a => ih a (hm a)
  | stack k ih => exact fun a => ih a (hm a)
  | thread k ih => exact fun a => ih a (hm a)
  | register => exact hm.elim
  | choose => exact hm.elim
  | os => exact hm.elim
  | call => exact hm.elim
  | newGen => exact hm.elim
  | genState => exact hm.elim
  | resume => exact hm.elim
  | yield => exact hm.elim
  | fork => exact hm.elim
  | await => exact hm.elim
theorem kd_pure {α : Type} (a : α) : KD (pure a : Sem α) := trivial
theorem kd_ite {α : Type} {c : Prop} [Decidable c] {a b : Sem α} (x : KD a) (y : KD b) : KD (if c then a else b) := by split <;> assumption
theorem kd_fieldsOf (v : Value) : KD (fieldsOf v) := by
  unfold fieldsOf
  split
  · refine kd_bind (fun _ => trivial) fun o => ?_
    split <;> trivial
  · trivial
theorem kd_field (v : Value) (i : Nat) : KD (field v i) := by
  unfold field
  refine kd_bind (kd_fieldsOf v) fun o => ?_
  split <;> trivial
theorem dict_mapFields (f : Array Value → Array Value) (o : Obj) : (Obj.mapFields f o).dict = o.dict := by
  obtain ⟨c, d, dt, sl⟩ := o
  cases dt <;> rfl
theorem kd_setField (v : Value) (i : Nat) (x : Value) : KD (setField v i x) := by
  unfold setField
  split
  · unfold updateField
    refine kd_bind (fun _ => trivial) fun o => ?_
    split
    · exact kd_ite ⟨dict_mapFields _, trivial⟩ trivial
    · trivial
  · trivial
theorem kd_setFlight (v : Value) (f : Option Addr) : KD (setFlight v f) := by
  unfold setFlight
  exact kd_bind (kd_field _ _) fun _ => kd_ite (kd_setField _ _ _) trivial
theorem kd_readyFrames : ∀ l, KD (readyFrames l)
  | [] => trivial
  | env :: outer => by
    unfold readyFrames
    split
    · refine kd_bind (fun _ => trivial) fun o => kd_ite trivial ?_
      refine kd_bind ?_ fun i => kd_bind ?_ fun b => kd_bind ⟨fun _ => rfl, trivial⟩ fun _ => kd_readyFrames outer
      · unfold behindIsImport
        refine kd_ite trivial (kd_ite trivial (kd_bind (kd_field _ _) fun _ => trivial))
      · unfold keptBack
        split
        · refine kd_ite trivial (kd_bind ?_ fun _ => trivial)
          unfold underTheClaimsCaller
          exact kd_bind (fun _ => trivial) fun _ => trivial
        · trivial
    · trivial
theorem kd_frameOf (env : Env) : KD (PySem.frameOf env) := by
  unfold PySem.frameOf
  refine kd_bind (kd_bind (fun _ => trivial) fun _ => trivial) fun es => kd_bind ?_ fun o => ?_
  · unfold frameObject
    split
    · trivial
    · exact kd_bind (kd_readyFrames _) fun _ => trivial
  · split <;> trivial
theorem kd_entryPlaceOf (f : Addr) (b : Bool) : KD (entryPlaceOf f b) := by
  unfold entryPlaceOf
  refine kd_bind (fun _ => trivial) fun o => ?_
  split <;> trivial
theorem kd_newEntry (a b c d e : Value) (l : List Value) : KD (EntryCells.newEntry a b c d e l) := by
  unfold EntryCells.newEntry newFields newObj
  dsimp only
  refine kd_ite trivial ?_
  unfold newObjAsIs
  exact kd_bind (fun _ => trivial) fun _ => trivial
theorem kd_noteFrame (e : Value) (env : Env) : KD (noteFrame e env) := by
  unfold noteFrame
  split
  · refine kd_bind (kd_field _ _) fun hd => ?_
    have fin : KD (do setField e 1 (← EntryCells.newEntry hd (← PySem.frameOf env) .none (rawInt ‹Addr›) .none (← entryPlaceOf ‹Addr› (hd != .none)))) :=
      kd_bind (kd_frameOf _) fun _ => kd_bind (kd_entryPlaceOf _ _) fun _ => kd_bind (kd_newEntry _ _ _ _ _ _) fun _ => kd_setField _ _ _
    refine kd_ite ?_ fin
    exact kd_bind (kd_field _ _) fun _ => kd_ite trivial (kd_bind (kd_setField _ _ _) fun _ => fin)
  · trivial
theorem kd_leaving (env : Env) (e : Value) : KD (leaving env e) := kd_bind (kd_noteFrame e env) fun _ => kd_setFlight _ _
/-- e stands and its dict is dx -/
noncomputable def DictIs (h : Heap) (e dx : Addr) : Prop := ∃ o, h.objs[e]? = some o ∧ o.dict = some dx
theorem DictIs.keeps {h h' : Heap} {e dx : Addr} (x : DictIs h e dx) (k : DK h h') : DictIs h' e dx := by
  obtain ⟨o, ho, hd⟩ := x
  obtain ⟨o', ho', hd'⟩ := k _ _ ho
  exact ⟨o', ho', hd'.trans hd⟩
theorem get_objs {h : Heap} {a : Addr} {o : Obj} (e : h.get? a = some o) : h.objs[a]? = some o := by
  unfold Heap.get? at e
  split at e
  · cases e
  · exact e
theorem DictIs.of {h : Heap} {e dx : Addr} {o : Obj} (ho : h.get? e = some o) (hd : o.dict = some dx) : DictIs h e dx := ⟨o, get_objs ho, hd⟩
theorem DictIs.at {h : Heap} {e dx : Addr} {o : Obj} (x : DictIs h e dx) (ho : h.get? e = some o) : o.dict = some dx := by
  obtain ⟨o', ho', hd⟩ := x
  rw [get_objs ho] at ho'
  cases ho'
  exact hd
theorem DictIs.stays {h h' : Heap} {e dx : Addr} {o : Obj} (x : DictIs h e dx) (ho : h.get? e = some o) (ho' : h'.get? e = some o) : DictIs h' e dx := .of ho' (x.at ho)
end Mine
end

section
open PySem PySem.W PyProof.Rows PySem.Spec PySem.Calls
set_option Elab.async false
set_option maxRecDepth 100000
set_option linter.all false
set_option compiler.extract_closed false
namespace Mine
noncomputable abbrev tupO (vs : List Value) : Obj := { cls := .type "tuple", data := .seq vs.toArray }
/-- the fault in flight, as the frames l still to leave see it: its place is (0, idx) -/
noncomputable def RaisedF (base G : Heap) (l : List Env) (e : Addr) (idx : Int) (news : List (Addr × Obj)) (h : Heap) : Prop :=
  ∃ t msg dx D u1 u2 mv tm k1 k2 n ta tb, RaisedS base G l e (.ref 60) t [msg] ((dx, excDict u1 u2 mv tm D k1 k2 n) :: (D, tupO [.int 0 ta, .int idx tb]) :: news) h ∧ DictIs h e dx

section
variable {M : Model} {A : Around} {E : Value → Shared → Prop} {s' : Shared} {base g g₂ h : Heap} {outer : List Env} {L a e t : Addr} {m : Str → Option Value} {name : Str} {scope : Scope} {cd : Value} {Q : Unit → Shared → Prop} {news : List (Addr × Obj)}

theorem leave_fault {h₁ : Heap} {dx D : Addr} {u1 u2 : Int} {mv : Str} {tm k1 k2 ta tb : Tok} {n : Nat} {idx : Int} (K : Below A base outer g) (F : Fr g L h m) (N : News g L h ((D, tupO [.int 0 ta, .int idx tb]) :: news))
    (hs : s'.heap = h₁) (hk : ∀ b o, h.get? b = some o → h₁.get? b = some o) (he0 : h.get? e = none) (hdx0 : h.get? dx = none) (ht0 : h.get? t = none)
    (he : h₁.get? e = some (excObj dx t)) (hdx : h₁.get? dx = some (excDict u1 u2 mv tm D k1 k2 n)) (ht : h₁.get? t = some { cls := .type "tuple", data := .seq [Value.str mv tm].toArray })
    (hQ : ∀ h', RaisedF base g outer e idx news h' → g.UpToSlots h' → Q () { s' with heap := h' }) (hkf : scope.kind = .function := by rfl) :
    wpAny M (A.deeper (envOf name scope L a cd)) (leaving (envOf name scope L a cd) (.ref e)) Q E s' := by
  subst hs
  have K' := K.push (name := name) (a := a) (cd := cd) F hkf
  have hde : dx ≠ e := fun q => by rw [q, he] at hdx; cases hdx
  have hdt : dx ≠ t := fun q => by
    rw [q, ht] at hdx
    have z : (Value.type "tuple") = .type "dict" := congrArg Obj.cls (Option.some.inj hdx)
    exact absurd z (by decide)
  have frs : s'.heap.FunFrames base (envOf name scope L a cd :: outer) := K'.frames.of_keeps fun b o q _ => ⟨o, hk b o q, rfl⟩
  have hinF : ∀ b, b ∈ (envOf name scope L a cd :: outer).filterMap (·.frame) → ∃ o, h.get? b = some o := fun b hb => by
    obtain ⟨_, o, ho, _⟩ := K'.frames.mem hb
    exact ⟨o, ho⟩
  generalize hl : (envOf name scope L a cd :: outer).filterMap (·.frame) = fl at hinF
  have hin : ∀ env ∈ (envOf name scope L a cd :: outer), ∀ b, env.frame = some b → b ∈ (e :: t :: fl) := fun env hv b hb => by
    rw [← hl]; exact .tail _ (.tail _ (List.mem_filterMap.mpr ⟨env, hv, hb⟩))
  have notin : ∀ b o, h.get? b = some o → b ∉ fl → b ∉ (e :: t :: fl) := fun b o ho hn hm => by
    rcases List.mem_cons.mp hm with q | hm
    · rw [q, he0] at ho; cases ho
    · rcases List.mem_cons.mp hm with q | hm
      · rw [q, ht0] at ho; cases ho
      · exact hn hm
  have get : ∀ b o, s'.heap.get? b = some o → b ∉ (e :: t :: fl) → (hideAll s'.heap (e :: t :: fl)).get? b = some o := fun b o ho hn => hideAll_get _ ho hn
  have st : base.StaysIn (hideAll s'.heap (e :: t :: fl)) := fun b o q => by
    have hq := K'.stays b o q
    refine get b o (hk b o hq) (notin b o hq fun hm => ?_)
    rw [← hl] at hm
    rw [(K'.frames.mem hm).1] at q; cases q
  have sg : ∀ b o, g.get? b = some o → b ∉ outer.filterMap (·.frame) → (hideAll s'.heap (e :: t :: fl)).get? b = some o := fun b o q nm => by
    have hq := F.keep b o q
    refine get b o (hk b o hq) (notin b o hq fun hm => ?_)
    rw [← hl] at hm
    rcases kts_mem hm with z | z
    · rw [z, kts_self F] at q; cases q
    · exact nm z
  have gfresh : ∀ b, h.get? b = none → g.get? b = none := fun b hb => kts_none F.keep hb
  have hnews : ∀ q ∈ ((dx, excDict u1 u2 mv tm D k1 k2 n) :: (D, tupO [.int 0 ta, .int idx tb]) :: news), (hideAll s'.heap (e :: t :: fl)).get? q.1 = some q.2 ∧ g.get? q.1 = none ∧ base.get? q.1 = none := fun q hq => by
    rcases List.mem_cons.mp hq with rfl | hq
    · have gd := gfresh _ hdx0
      refine ⟨get _ _ hdx fun hm => ?_, gd, fresh_of_stays K.stays gd⟩
      rcases List.mem_cons.mp hm with z | hm
      · exact hde z
      · rcases List.mem_cons.mp hm with z | hm
        · exact hdt z
        · obtain ⟨o, ho⟩ := hinF _ hm
          rw [hdx0] at ho; cases ho
    · have hh := (N q hq).1
      refine ⟨get _ _ (hk _ _ hh) (notin _ _ hh fun hm => ?_), (N q hq).2.2, fresh_of_stays K.stays (N q hq).2.2⟩
      rw [← hl] at hm
      rcases kts_mem hm with z | z
      · exact (N q hq).2.1 z
      · obtain ⟨o, ho, _⟩ := (K.frames.mem z).2
        rw [(N q hq).2.2] at ho; cases ho
  have hBe : (hideAll s'.heap (e :: t :: fl)).get? e = none := hideAll_none _ (.head _)
  have hBt : (hideAll s'.heap (e :: t :: fl)).get? t = none := hideAll_none _ (.tail _ (.head _))
  refine wpAny_mono (kd_any (kd_leaving _ _) (wpAny_leaving_firstW (a0 := .ref t) (oe := excObj dx t) (E := fun _ _ => False) (Q := fun _ s'' => ∃ h', s'' = { s' with heap := h' } ∧ Heap.LeftW (hideAll s'.heap (e :: t :: fl)) (envOf name scope L a cd :: outer) e (.ref 60) (.ref t) s'.heap h')
    K'.stack (funFrames_hide frs hin) rfl he (fun b o q => of_hideAll _ q) hBe rfl rfl rfl fun h' x => ⟨h', rfl, x⟩)) ?_ fun _ _ x => x.1.elim
  rintro _ s'' ⟨⟨h', rfl, x1, ⟨x2a, x2b, x2⟩, x3, x4⟩, dk⟩
  have hup : s'.heap.UpToSlots h' := x4
  refine hQ h' ⟨t, .str mv tm, dx, D, u1, u2, mv, tm, k1, k2, n, ta, tb, ⟨⟨_, st, sg, hnews, ⟨x1, hBe, x2, x3⟩, hBt⟩, ?_⟩, ?_⟩ ?_
  · exact Heap.TupAt.of_slots ⟨_, _, ht, rfl, rfl⟩ hup
  · exact (DictIs.of he rfl).keeps dk
  · exact ((Heap.UpToSlots.of_keeps F.keep).trans (Heap.UpToSlots.of_keeps hk)).trans hup

theorem leave_fault_on {idx : Int} (K : Below A base outer g) (F : Fr g L g₂ m) (R : RaisedF base g₂ (envOf name scope L a cd :: outer) e idx news s'.heap) (hsm : g₂.UpToSlots s'.heap)
    (hQ : ∀ h', RaisedF base g outer e idx news h' → g.UpToSlots h' → Q () { s' with heap := h' }) :
    wpAny M (A.deeper (envOf name scope L a cd)) (leaving (envOf name scope L a cd) (.ref e)) Q E s' := by
  obtain ⟨t, msg, dx, D, u1, u2, mv, tm, k1, k2, n, ta, tb, R, hd⟩ := R
  refine wpAny_mono (kd_any (kd_leaving _ _) (leave_onS (E := fun _ _ => False) (Q := fun _ s'' => ∃ h', s'' = { s' with heap := h' } ∧ RaisedS base g outer e (.ref 60) t [msg] ((dx, excDict u1 u2 mv tm D k1 k2 n) :: (D, tupO [.int 0 ta, .int idx tb]) :: news) h' ∧ g.UpToSlots h') K F R hsm
    fun h' r _ u => ⟨h', rfl, r, u⟩)) ?_ fun _ _ x => x.1.elim
  rintro _ s'' ⟨⟨h', rfl, r, u⟩, dk⟩
  exact hQ h' ⟨t, msg, dx, D, u1, u2, mv, tm, k1, k2, n, ta, tb, r, hd.keeps dk⟩ u
end

/-- a fault raised: the statement -/
theorem raise_fault {w : World} {A : Around} {E : Value → Shared → Prop} {s : Shared} {env : Env} {x : PySem.Expr} {pos : Pos} {Q : Flow → Shared → Prop} (hh : A.handled = none)
    (h : wpAny (model Challenge.rw_pb0222_01.row.prog w) A (eval x env) (fun v s₁ => ∃ e dx t, v = .ref e ∧ (hd.heap_39 w.params).In s₁.heap ∧ s₁.heap.get? e = some (excObj dx t) ∧ E (.ref e) s₁) E s) :
    wpAny (model Challenge.rw_pb0222_01.row.prog w) A (exec (.Raise (some x) none pos) env) Q E s := by
  show wpAny _ A (do standAt pos; raiseStmt env (some (do let v ← eval x env; standAt pos; pure v)) none) Q E s
  refine wpAny_bind (wpAny_standAt ?_)
  unfold raiseStmt
  refine wpAny_bind (wpAny_bind (wpAny_mono h (fun v s₁ h₁ => wpAny_bind (wpAny_standAt (wpAny_pure ?_))) fun _ _ x => x))
  obtain ⟨e, dx, t, rfl, X, he, hE⟩ := h₁
  obtain ⟨hp, g, d, tk, os⟩ := s₁
  have t1 : Looks (model Challenge.rw_pb0222_01.row.prog w) hp (typeOf (.ref e)) (.ref 60) := (Looks.ld he).andThen .now
  have t2 : Looks (model Challenge.rw_pb0222_01.row.prog w) hp (typeOf (.ref 60)) (.type "type") := looks_typeIn X (by kernel_rfl)
  have s1 : Looks (model Challenge.rw_pb0222_01.row.prog w) hp (isSubtype (.ref 60) (.type "BaseException")) true := looks_mroIn X (by kernel_rfl)
  have f1 : Looks (model Challenge.rw_pb0222_01.row.prog w) hp (field (.ref e) 1) .none := looks_field he 1 rfl
  have i1 : Looks (model Challenge.rw_pb0222_01.row.prog w) hp (isType (.ref e)) false := (Looks.ld he).andThen .now
  unfold excFromValue isExcClass isInstance raisedInstance setFlight
  repeat (first | lk | wp_step)
  refine wpAny_handled ?_
  rw [hh]
  exact wpAny_throw hE
end Mine
end

section
open PySem PySem.W PyProof.Rows PySem.Spec PySem.Calls
set_option Elab.async false
set_option maxRecDepth 100000
set_option linter.all false
set_option compiler.extract_closed false
namespace Mine
section
variable {dp un : Nat} {gd : Option (List Code)} {cn : Str} {cs : Scope} {ca : Addr} {ccd : Value} {cl : List (Str × Addr)} {outer : List Env} {L : Addr}
theorem kt_depth : (ktrTop dp un gd cn cs L ca ccd cl outer).depth = dp := rfl
theorem kt_units : (ktrTop dp un gd cn cs L ca ccd cl outer).units = un := rfl
end
noncomputable abbrev LO : List Str := looseW hd.view_39 [Str.ofString "LedgerError"]
/-- what a call of a def of the text's finds where it is made -/
structure At (w : World) (mean : ExcName → Option Value) (mg mb : Str → Option Value) (dp un : Nat) (cs : Scope) (outer : List Env) (A₀ : Around) (base h₀ : Heap) (L : Addr) (m : Str → Option Value) (news : List (Addr × Obj)) (s : Shared) : Prop where
  B : Below A₀ base outer h₀
  F : Fr h₀ L s.heap m
  X : (hd.heap_39 w.params).In h₀
  N : News h₀ L s.heap news
  T : Top hd.view_39 LO mean mg mb h₀
  hk : cs.kind = .function
  dp1 : dp + 1 < recursionLimit
  un1 : un + 8 < cLine
  dp2 : dp ≤ 310
  un2 : un ≤ 3000
theorem RaisedF.sub {base G : Heap} {l : List Env} {e : Addr} {idx : Int} {news news' : List (Addr × Obj)} {h : Heap} (R : RaisedF base G l e idx news' h) (hs : ∀ p ∈ news, p ∈ news') : RaisedF base G l e idx news h := by
  obtain ⟨t, msg, dx, D, u1, u2, mv, tm, k1, k2, n, ta, tb, ⟨⟨B, a1, a2, a3, a4⟩, a5⟩, hd⟩ := R
  refine ⟨t, msg, dx, D, u1, u2, mv, tm, k1, k2, n, ta, tb, ⟨⟨B, a1, a2, fun q hq => a3 q ?_, a4⟩, a5⟩, hd⟩
  rcases List.mem_cons.mp hq with rfl | hq
  · exact .head _
  · rcases List.mem_cons.mp hq with rfl | hq
    · exact .tail _ (.head _)
    · exact .tail _ (.tail _ (hs q hq))
/-- what the raising end hands on -/
noncomputable def Faults (base h₀ : Heap) (l : List Env) (L : Addr) (m : Str → Option Value) (news : List (Addr × Obj)) (s : Shared) (idx : Int) (E : Value → Shared → Prop) : Prop :=
  ∀ (e : Addr) (h' g' : Heap) (tk' : Nat), Fr h₀ L g' m → RaisedF base g' l e idx news h' → g'.UpToSlots h' → E (.ref e) { s with heap := h', toks := tk' }
end Mine
end

section
open PySem PySem.W PySem.Spec PySem.Calls
set_option Elab.async false
set_option maxRecDepth 100000
set_option maxHeartbeats 8000000
set_option linter.all false
set_option compiler.extract_closed false
namespace Mine
open Builtin
/-- an exception of an own class, newly made: what its class's __new__ gives -/
noncomputable abbrev excNew (C t : Addr) : Obj := { cls := .ref C, data := .fields #[.ref t, .none, .none, .none, .bool false, .none] }
noncomputable abbrev tupNew (vs : List Value) : Obj := { cls := .type "tuple", data := .seq vs.toArray }
section
variable {prog : Program} {w : World} {A : Around} {K : Frag} {R : Result → Shared → Prop} {h : Heap} {g : Array GenState} {d : Drawn} {t : Nat} {os : OsState}
variable {nm q : PySem.Str} {C N : Addr} {bs bm : List Value} {hdct : Bool} {sn : List PySem.Str} {sub : List Value} {ab : Bool} {col : Option Bool} {dd : Option Addr} {k0 k1 k2 k3 k5 : Option Value}
theorem exc_check_new {M : Model} {E : Value → Shared → Prop} {Q : Unit → Shared → Prop} {rest : List Value} (hC : h.get? C = some (excClassObj nm q C N bs bm hdct sn sub ab col dd k0 k1 k2 k3 k5 "Exception.__new__")) (hcont : (Value.ref C :: bm).contains (.type "Exception") = true)
    (hq : Q () ⟨h, g, d, t, os⟩) : wpAny M A (checkBuiltinCall "Exception.__new__" ⟨.ref C :: rest, []⟩) Q E ⟨h, g, d, t, os⟩ := by
  have F := PySem.F.excBase_Exception
  have hstar := F.noStar
  simp only [checkBuiltinCall, F.newKind, F.newSplit, F.newRow]
  repeat (first | refine wpAny_loadPart_at hC ?_ | (refine wpAny_isSubtype_exc hC ?_; rw [hcont]) | refine wpAny_staticBase_exc hC ?_ | refine wpAny_madeBy_exc hC ?_ | simp only [bne_self_eq_false, Bool.false_eq_true, if_false] | wp_step)
  exact hq
theorem exc_new {rest : List Value} (hC : h.get? C = some (excClassObj nm q C N bs bm hdct sn sub ab col dd k0 k1 k2 k3 k5 "Exception.__new__")) (hcB : (Value.ref C :: bm).contains (.type "Exception") = true)
    (hcA : (Value.ref C :: bm).contains (.type "AttributeError") = false) (hcN : (Value.ref C :: bm).contains (.type "NameError") = false) (hrest : rest.length ≤ sizeLine)
    (hq : R (.ok (.ret (.ref (h.objs.size + 1)))) ⟨(h.push (tupNew rest)).push (excNew C h.objs.size), g, d, t, os⟩) :
    codeAny (model prog w) A (.builtin "Exception.__new__" ⟨.ref C :: rest, []⟩) R ⟨h, g, d, t, os⟩ := by
  have F := PySem.F.excBase_Exception
  have hends := F.ends
  refine codeAny_builtinAt F.entry ?_
  unfold Builtin.«BaseException.__new__»
  refine wpAt_bind ?_
  show wpAt _ _ _ (stack >>= _) _ _ _
  refine wpAt_bind (wpAt_stack fun p below => wpAt_of_wpAny ?_)
  wp_walk
  refine wpAt_of_wpAny ?_
  rw [F.owner]
  repeat (first | with_reducible refine wpAny_madeHere_exc F.canon hC ?_ | with_reducible refine wpAny_loadPart_at hC ?_ | (with_reducible refine wpAny_isSubtype_exc hC ?_; first | rw [hcB] | rw [hcA] | rw [hcN]) | wp_step)
  show R _ _
  rw [Heap.size_push]
  exact hq
theorem exc_core {rest : List Value} {init : Value} (hC : h.get? C = some (excClassObj nm q C N bs bm hdct sn sub ab col dd k0 k1 k2 k3 k5 "Exception.__new__")) (hcB : (Value.ref C :: bm).contains (.type "Exception") = true)
    (hcA : (Value.ref C :: bm).contains (.type "AttributeError") = false) (hcN : (Value.ref C :: bm).contains (.type "NameError") = false) (hrest : rest.length ≤ sizeLine)
    (call : Looks (model prog w) h (specialOf (.ref C) "__call__") (some (.builtin "type.__call__"))) (typ : Looks (model prog w) h (isInstance (.ref C) (.type "type")) true)
    (hi : Looks (model prog w) h (typeLookup (.ref C) "__init__") (some init)) (hb : ∀ self, Looks (model prog w) h (bindSpecial init self) (init, [self]))
    (hq : codeAny (model prog w) (A.under (.builtin "type.__call__" ⟨.ref C :: rest, []⟩)) (.call init ⟨.ref (h.objs.size + 1) :: rest, []⟩) (InitBack (h.objs.size + 1) R) ⟨(h.push (tupNew rest)).push (excNew C h.objs.size), g, d, t, os⟩) :
    codeAny (model prog w) A (.call (.ref C) ⟨rest, []⟩) R ⟨h, g, d, t, os⟩ := by
  refine codeAny_of_tree ?_
  show wpAny _ _ (callAny (.ref C) _) _ _ _
  refine nd_load hC ?_
  show wpAny _ _ (callAny.viaDunder (.ref C) _) _ _ _
  unfold callAny.viaDunder
  refine wpAny_bind (call.at ?_)
  dsimp only
  rw [tc_bind]
  refine wpAny_bind (wpAny_pure (wpAny_bind (wpAny_pure ?_)))
  refine wpAny_pure (a := Fin.again (.call (.builtin "type.__call__") ⟨.ref C :: rest, []⟩)) (And.intro rfl ?_)
  refine codeAny_call_builtin_at (Code.quiet_builtin _ (by decide +kernel)) entry_typeCall (check_slot tc_kind tc_split typ (tc_args _ _ _) ?_)
  repeat (first | with_reducible refine wpAny_loadPart_at hC ?_ | with_reducible refine wpAny_madeBy_exc hC ?_ | wp_step)
  have F := PySem.F.excBase_Exception
  refine codeAny_call_builtin_code (Code.quiet_builtin _ F.quiet) (exc_check_new hC hcB ?_)
  refine exc_new hC hcB hcA hcN hrest ?_
  show wpAny _ _ _ _ _ _
  have k : ∀ b o, h.get? b = some o → ((h.push (tupNew rest)).push (excNew C h.objs.size)).get? b = some o := fun b o e => Heap.get?_push_of_some _ (Heap.get?_push_of_some _ e)
  have hC₁ := k _ _ hC
  have hget : ((h.push (tupNew rest)).push (excNew C h.objs.size)).get? (h.objs.size + 1) = some (excNew C h.objs.size) := by heap_get
  have hcC : (Value.ref C :: bm).contains (.ref C) = true := by simp
  have t1 : Looks (model prog w) ((h.push (tupNew rest)).push (excNew C h.objs.size)) (typeOf (.ref (h.objs.size + 1))) (.ref C) := (Looks.ld hget).andThen .now
  have i1 := hi.keeps k
  have b1 := (hb (.ref (h.objs.size + 1))).keeps k
  unfold isInstance
  repeat (first | with_reducible refine wpAny_loadPart_at hget ?_ | (with_reducible refine wpAny_isSubtype_exc hC₁ ?_; rw [hcC]) | wp_step)
  show wpAny _ _ (typeLookup (.ref C) _) _ _ _
  refine i1.at ?_
  dsimp only
  refine wpAny_holding (wpAny_bind (b1.at ?_))
  dsimp only
  refine wpAny_bind (wpAny_call ?_)
  refine codeAny_mono hq fun r s' z => ?_
  rcases r with e | (v | _ | _ | _) <;> first | exact z | exact z.elim | skip
  obtain ⟨rfl, z⟩ := z
  exact wpAny_pure (wpAny_pure z)
theorem exc_check_init {M : Model} {E : Value → Shared → Prop} {Q : Unit → Shared → Prop} {e : Addr} {oe : Obj} {rest : List Value} (hC : h.get? C = some (excClassObj nm q C N bs bm hdct sn sub ab col dd k0 k1 k2 k3 k5 "Exception.__new__")) (hcB : (Value.ref C :: bm).contains (.type "Exception") = true)
    (he : h.get? e = some oe) (hcls : oe.cls = .ref C) (hq : Q () ⟨h, g, d, t, os⟩) : wpAny M A (checkBuiltinCall "Exception.__init__" ⟨.ref e :: rest, []⟩) Q E ⟨h, g, d, t, os⟩ := by
  have F := PySem.F.excBase_Exception
  have hshort := F.noStar
  simp only [checkBuiltinCall, F.initKind, F.initSplit, F.initRow]
  repeat (first | (with_reducible refine wpAny_loadPart_at he ?_; rw [hcls]) | with_reducible refine wpAny_loadPart_at hC ?_ | (with_reducible refine wpAny_isSubtype_exc hC ?_; rw [hcB]) | wp_step)
  refine wpAny_onRaise ?_
  rw [show ∀ (a b : String) (n : Nat), Bind.check ⟨.positional, "*", "Exception", .self, [⟨"args", .varPos, false⟩]⟩ a b n (List.map (fun x => x.fst) ({ pos := Value.ref e :: rest } : Args).kw) = pure () from
    fun a b n => check_star_args _ _ _ _ _ _]
  exact wpAny_pure hq
theorem exc_init_at {x t0 : Addr} {rest : List Value} {Q : Value → Shared → Prop} {E : Value → Shared → Prop} (hC : h.get? C = some (excClassObj nm q C N bs bm hdct sn sub ab col dd k0 k1 k2 k3 k5 "Exception.__new__")) (hcB : (Value.ref C :: bm).contains (.type "Exception") = true)
    (hx : h.get? x = some (excNew C t0)) (hrest : rest.length ≤ sizeLine)
    (hq : ∀ h', Heap.SameBut x (h.push (tupNew rest)) h' → h'.get? x = some (excNew C h.objs.size) → Q .none ⟨h', g, d, t, os⟩) :
    wpAny (model prog w) A (PySem.call (.builtin "Exception.__init__") (.ref x :: rest)) Q E ⟨h, g, d, t, os⟩ := by
  have F := PySem.F.excBase_Exception
  refine wpAny_call (codeAny_call_builtin F.init.plain F.initEntry (exc_check_init hC hcB hx rfl ?_))
  wp_walk
  exact hq _ (Heap.SameBut.update _ _ _) (by rw [Heap.get?_update_self _ (Heap.get?_push_of_some _ hx) rfl]; rfl)
end
end Mine
end

section
open PySem PySem.W PyProof.Rows PySem.Spec PySem.Calls
set_option Elab.async false
set_option maxRecDepth 100000
set_option maxHeartbeats 8000000
set_option linter.all false
set_option compiler.extract_closed false
open PySem.Builtin PySem.Builtin.ObjectAttr
namespace Mine
section
variable {prog : Program} {w : World} {A : Around} {E : Value → Shared → Prop} {s : Shared} {K : Frag} {C L : Addr} {h₀ : Heap} {m : Str → Option Value} {news : List (Addr × Obj)} {Q : Value → Shared → Prop}
variable {nm q : Str} {N' : Addr} {bs bm : List Value} {hdct : Bool} {sn : List Str} {sub : List Value} {ab : Bool} {col : Option Bool} {dd : Option Addr} {k0 k1 k2 k3 k5 : Option Value}
theorem call_exc {pos : List Value} {fI : Addr} (F : Fr h₀ L s.heap m) (X₀ : K.In h₀) (N : News h₀ L s.heap news) (ho : K.lookup C = some (excClassObj nm q C N' bs bm hdct sn sub ab col dd k0 k1 k2 k3 k5 "Exception.__new__"))
    (hcB : (Value.ref C :: bm).contains (.type "Exception") = true) (hcA : (Value.ref C :: bm).contains (.type "AttributeError") = false) (hcN : (Value.ref C :: bm).contains (.type "NameError") = false)
    (c1 : specialIn K (.ref C) "__call__" = some (some (.builtin "type.__call__"))) (c2 : instIn K (.ref C) (.type "type") = some true) (hi : findIn K (.ref C) "__init__" = some (some (.ref fI))) (hf : isFn K (.ref fI) = true) (hrest : pos.length ≤ sizeLine)
    (h : ∀ x t h', Fr h₀ L h' m → News h₀ L h' ((x, excNew C t) :: (t, tupNew pos) :: news) → (∀ p ∈ news, p.1 < t) → t < x →
      codeAny (model prog w) (A.under (.builtin "type.__call__" ⟨.ref C :: pos, []⟩)) (.call (.ref fI) ⟨.ref x :: pos, []⟩) (InitBack x fun r s' => match r with | .ok (.ret v) => Q v s' | .ok _ => False | .error e => E e s') { s with heap := h' }) :
    wpAny (model prog w) A (call (.ref C) pos) Q E s := by
  obtain ⟨hh, g, d, t, os⟩ := s
  have X := X₀.keeps F.keep
  refine wpAny_call (exc_core (X _ _ ho) hcB hcA hcN hrest (looks_specialIn X c1) (looks_instIn X c2) (looks_findIn X hi) (fun self => bind_fn X self (beq_iff_eq.mp hf)) ?_)
  refine h _ hh.objs.size _ ((F.push _).push _) ?_ (fun p hp => Heap.lt_size (N p hp).1) (Nat.lt_succ_self _)
  have := (N.push F (tupNew pos)).push (F.push _) (excNew C hh.objs.size)
  rwa [Heap.size_push] at this
theorem exc_osa {R : Result → Shared → Prop} {x : Addr} {ox : Obj} {od : Option Obj} {name : Str} {tk : Tok} {v : Value} {cd : ClassData} (X : K.In s.heap) (I : PySem.W.InstAt s.heap x ox C od) (hc : clsIn K C = some cd) (hne : cd.mro.isEmpty = false) (hob : cd.mro.contains (.type "object") = true)
    (hr : ∀ self, refuseLoop self "__setattr__" cd.mro = pure ()) (ht : takerIn K C name = some none)
    (h : ∀ b, wpAny (model prog w) A.in1 (storeInOwnDict (.ref x) (.ref C) (.str name tk) name v b)
      (fun fin s' => match fin with | .done f => R (.ok f) s' | .again c' => c'.quiet = true ∧ codeAny (model prog w) A c' R s') (fun e s' => R (.error e) s') s) :
    codeAny (model prog w) A (.call (.builtin "object.__setattr__") ⟨[.ref x, .str name tk, v], []⟩) R s := by
  have SF := PySem.F.store_object
  have sub : Looks (model prog w) s.heap (isInstance (.ref x) (.type "object")) true := I.type.andThen (looks_mroIn X (by unfold mroIn; rw [hc, Option.bind_some, if_neg (by rw [hne]; decide), hob]))
  refine codeAny_call_builtin SF.slot.plain SF.entry (@check_slot (model prog w) _ _ s "object.__setattr__" "object" "__setattr__" (.ref x) [.str name tk, v] [] _ SF.kind SF.split sub (SF.args (.ref x) (.str name tk) v) ?_)
  obtain ⟨attr, ha, hr2⟩ := Option.bind_eq_some_iff.mp ht
  have hm : Looks (model prog w) s.heap (mroOf (.ref C)) cd.mro := (looks_clsIn X hc).andThen .now
  have L3 : Looks (model prog w) s.heap (storeTaker? attr) none := by
    cases attr with
    | none => cases hr2; exact .now
    | some a =>
      obtain ⟨b, hb, hb2⟩ := Option.map_eq_some_iff.mp hr2
      refine (looks_takesIn X hb).andThen ?_
      cases b
      · exact .now
      · cases hb2
  rw [osa_eq, refuse_eq]
  refine wpAny_bind (wpAny_bind (I.type.here (wpAny_bind (hm.here ?_))))
  rw [hr]
  refine wpAny_pure (wpAny_bind (I.type.here (wpAny_bind ((looks_findIn X ha).here (wpAny_bind (L3.here ?_))))))
  exact h _
theorem exc_body {A' : Around} {R : Result → Shared → Prop} {x dx : Addr} {ox od od' : Obj} {name : Str} {tk : Tok} {v : Value} {cd : ClassData} {b : Bool} {pre post : List (Addr × Obj)} {es : List DictEntry} {n : Nat} (F : Fr h₀ L s.heap m) (N : News h₀ L s.heap (pre ++ (dx, od) :: post)) (X : K.In s.heap)
    (I : PySem.W.InstAt s.heap x ox C (some od)) (hd : ox.dict = some dx) (hc : clsIn K C = some cd) (hd' : cd.hasDict = true)
    (hl : (lookIn name od).isSome = true) (h1 : ∀ p ∈ pre, p.1 ≠ dx) (h2 : ∀ p ∈ post, p.1 ≠ dx)
    (e : Obj.putName name (PyData.keyHash w.params name) (.str name s.toks) v od = od') (e' : od'.data = .dict es.toArray n) (hz : es.length ≤ 1000)
    (h : ∀ h', Fr h₀ L h' m → News h₀ L h' (pre ++ (dx, od') :: post) → R (.ok (.ret .none)) { s with heap := h', toks := s.toks + 1 }) :
    wpAny (model prog w) A (storeInOwnDict (.ref x) (.ref C) (.str name tk) name v b)
      (fun fin s' => match fin with | .done f => R (.ok f) s' | .again c' => c'.quiet = true ∧ codeAny (model prog w) A' c' R s') (fun e s' => R (.error e) s') s := by
  obtain ⟨U1, U2⟩ := news_upd (f := Obj.putName name (PyData.keyHash w.params name) (.str name s.toks) v) F N h1 h2 e (by obtain ⟨_, _, dd, _⟩ := od'; cases e'; rfl)
  have D := (N (dx, od) (by simp)).1
  have D' := (U2 (dx, od') (by simp)).1
  obtain ⟨hx, hcl, hn, -⟩ := I
  obtain ⟨oc, odi, oda, osl⟩ := ox
  dsimp only at hcl hd
  subst hcl hd
  refine wpAny_bind (wpAny_pure (wpAny_bind (wpAny_bind (wpAny_loadPart hx (wpAny_bind ((looks_clsIn X hc).here ?_))))))
  rw [hd']
  refine wpAny_pure (a := some dx) (wpAny_bind (wpAny_pure (wpAny_bind ?_)))
  unfold nsSet
  refine wpAny_bind (wpAny_bind (wpAny_askSetting (wpAny_pure (wpAny_bind (wpAny_mkText (wpAny_bind (wpAny_loadPart D ?_)))))))
  unfold lookIn at hl
  split at hl
  · rename_i es₀ n₀ q
    rw [q]
    dsimp only
    have c : (!es₀.any (·.key.isStr name) && es₀.any (·.refKey)) = false := by
      rw [← Array.any_toList, ← Array.any_toList]
      split at hl
      · rename_i en he
        rw [List.any_eq_true.mpr ⟨en, List.mem_of_find?_eq_some he, List.find?_some he⟩]; rfl
      · split at hl
        · cases hl
        · rename_i z; rw [Bool.not_eq_true] at z; rw [z, Bool.and_false]
    rw [aRefKeyMayBeTheName_at, c]
    refine wpAny_updatePart D ?_
    refine wpAny_bind (wpAny_lookBehind D' (by rw [e']; exact pastItsLine_dict (by rw [List.size_toArray, sizeLine_eq]; omega)) ?_)
    exact wpAny_pure (h _ U1 U2)
  · cases hl
/-- the first attribute of a new exception: its dict is made -/
theorem exc_body0 {A' : Around} {R : Result → Shared → Prop} {x t1 : Addr} {od' : Obj} {name : Str} {tk : Tok} {v : Value} {cd : ClassData} {b : Bool} {r : List (Addr × Obj)} {es : List DictEntry} {n : Nat} (F : Fr h₀ L s.heap m) (N : News h₀ L s.heap ((x, excNew C t1) :: r)) (X : K.In s.heap)
    (hc : clsIn K C = some cd) (hd' : cd.hasDict = true) (h2 : ∀ p ∈ r, p.1 ≠ x)
    (e : Obj.putName name (PyData.keyHash w.params name) (.str name s.toks) v (dictOf [] 0) = od') (e' : od'.data = .dict es.toArray n) (hz : es.length ≤ 1000)
    (h : ∀ dx h', Fr h₀ L h' m → News h₀ L h' ((dx, od') :: (x, { excNew C t1 with dict := some dx }) :: r) → (∀ p ∈ (x, excNew C t1) :: r, p.1 < dx) → R (.ok (.ret .none)) { s with heap := h', toks := s.toks + 1 }) :
    wpAny (model prog w) A (storeInOwnDict (.ref x) (.ref C) (.str name tk) name v b)
      (fun fin s' => match fin with | .done f => R (.ok f) s' | .again c' => c'.quiet = true ∧ codeAny (model prog w) A' c' R s') (fun e s' => R (.error e) s') s := by
  have hx := (N _ (.head _)).1
  have lt : ∀ p ∈ (x, excNew C t1) :: r, p.1 < s.heap.objs.size := fun p hp => Heap.lt_size (N p hp).1
  have F1 := F.push emptyDict
  have N1 := N.push F emptyDict
  obtain ⟨F2, N2⟩ := news_upd (pre := [(s.heap.objs.size, emptyDict)]) (f := fun o => { o with dict := some s.heap.objs.size }) F1 N1 (fun p hp => by rw [List.mem_singleton.mp hp]; exact (Nat.ne_of_lt (lt _ (.head _))).symm) h2 rfl rfl
  obtain ⟨U1, U2⟩ := news_upd (pre := []) (f := Obj.putName name (PyData.keyHash w.params name) (.str name s.toks) v) F2 N2 (fun _ hp => nomatch hp) (fun p hp => by
    rcases List.mem_cons.mp hp with rfl | hp
    · exact Nat.ne_of_lt (lt (x, excNew C t1) (.head _))
    · exact Nat.ne_of_lt (lt _ (.tail _ hp))) e (by obtain ⟨_, _, dd, _⟩ := od'; cases e'; rfl)
  have D := (N2 _ (.head _)).1
  have D' := (U2 _ (.head _)).1
  have hx1 : (s.heap.push emptyDict).get? x = some (excNew C t1) := Heap.get?_push_of_some _ hx
  refine wpAny_bind (wpAny_pure (wpAny_bind (wpAny_bind (wpAny_loadPart hx (wpAny_bind ((looks_clsIn X hc).here ?_))))))
  rw [hd']
  refine wpAny_bind (wpAny_alloc ?_)
  refine wpAny_bind (wpAny_update hx1 ?_)
  refine wpAny_pure (a := some s.heap.objs.size) (wpAny_bind (wpAny_pure (wpAny_bind ?_)))
  unfold nsSet
  refine wpAny_bind (wpAny_bind (wpAny_askSetting (wpAny_pure (wpAny_bind (wpAny_mkText (wpAny_bind (wpAny_loadPart D ?_)))))))
  dsimp only
  have c : (!(#[] : Array DictEntry).any (·.key.isStr name) && (#[] : Array DictEntry).any (·.refKey)) = false := by simp
  rw [aRefKeyMayBeTheName_at, c]
  refine wpAny_updatePart D ?_
  refine wpAny_bind (wpAny_lookBehind D' (by rw [e']; exact pastItsLine_dict (by rw [List.size_toArray, sizeLine_eq]; omega)) ?_)
  exact wpAny_pure (h _ _ U1 U2 lt)
theorem exc_initK {x t0 : Addr} {rest : List Value} {r : List (Addr × Obj)} (F : Fr h₀ L s.heap m) (X₀ : K.In h₀) (N : News h₀ L s.heap ((x, excNew C t0) :: r)) (ho : K.lookup C = some (excClassObj nm q C N' bs bm hdct sn sub ab col dd k0 k1 k2 k3 k5 "Exception.__new__"))
    (hcB : (Value.ref C :: bm).contains (.type "Exception") = true) (hrest : rest.length ≤ sizeLine) (hr : ∀ p ∈ r, p.1 ≠ x)
    (h : ∀ t1 h', Fr h₀ L h' m → News h₀ L h' ((x, excNew C t1) :: (t1, tupNew rest) :: r) → (∀ p ∈ (x, excNew C t0) :: r, p.1 < t1) → Q .none { s with heap := h' }) :
    wpAny (model prog w) A (call (.builtin "Exception.__init__") (.ref x :: rest)) Q E s := by
  obtain ⟨hh, g, d, t, os⟩ := s
  have lt : ∀ p ∈ (x, excNew C t0) :: r, p.1 < hh.objs.size := fun p hp => Heap.lt_size (N p hp).1
  refine exc_init_at ((X₀.keeps F.keep) _ _ ho) hcB (N _ (.head _)).1 hrest fun h' hs ho' => ?_
  have N1 := N.push F (tupNew rest)
  have z := N1 (x, excNew C t0) (.tail _ (.head _))
  have N2 := news_set (pre := [(hh.objs.size, tupNew rest)]) (post := r) N1 (fun p hp => by rw [List.mem_singleton.mp hp]; exact (Nat.ne_of_lt (lt (x, excNew C t0) (.head _))).symm) hr hs ho'
  refine h _ h' ((F.push _).change hs z.2.1 z.2.2) (fun p hp => N2 p ?_) lt
  simp only [List.mem_cons, List.mem_append, List.not_mem_nil, or_false] at hp ⊢
  rcases hp with h | h | h
  · exact .inr (.inl h)
  · exact .inl h
  · exact .inr (.inr h)
theorem exc_set0 {U : Unit → Shared → Prop} {x t1 : Addr} {name : Str} {v : Value} {cd : ClassData} {r : List (Addr × Obj)} {es : List DictEntry} {n : Nat} (F : Fr h₀ L s.heap m) (X₀ : K.In h₀) (N : News h₀ L s.heap ((x, excNew C t1) :: r))
    (hs : findIn K (.ref C) "__setattr__" = some (some (.builtin "object.__setattr__"))) (ht : takerIn K C name = some none) (hc : clsIn K C = some cd) (hne : cd.mro.isEmpty = false) (hob : cd.mro.contains (.type "object") = true) (hr : ∀ self, refuseLoop self "__setattr__" cd.mro = pure ()) (hd' : cd.hasDict = true) (h2 : ∀ p ∈ r, p.1 ≠ x)
    (e : (putL name (PyData.keyHash w.params name) (.str name (s.toks + 1)) v [], putN name [] 0) = (es, n)) (hz : es.length ≤ 1000)
    (h : ∀ dx h', Fr h₀ L h' m → News h₀ L h' ((dx, dictOf es n) :: (x, { excNew C t1 with dict := some dx }) :: r) → (∀ p ∈ (x, excNew C t1) :: r, p.1 < dx) → U () { s with heap := h', toks := s.toks + 2 }) :
    wpAny (model prog w) A (setAttr (.ref x) name v) U E s := by
  have X := X₀.keeps F.keep
  have I : PySem.W.InstAt s.heap x (excNew C t1) C none := ⟨(N _ (.head _)).1, rfl, rfl, trivial⟩
  obtain ⟨e1, e2⟩ := Prod.mk.inj e
  exact set_plain X I hs (exc_osa (s := { s with toks := s.toks + 1 }) X I hc hne hob hr ht fun b => exc_body0 (R := fun r s' => match r with | .ok (.ret _) => U () s' | .ok _ => False | .error e => E e s') (s := { s with toks := s.toks + 1 }) F N X hc hd' h2 (by rw [putName_dict, e1, e2]) rfl hz h)
theorem exc_set1 {U : Unit → Shared → Prop} {x dx : Addr} {ox : Obj} {name : Str} {v : Value} {cd : ClassData} {r : List (Addr × Obj)} {es es' : List DictEntry} {n n' : Nat} (F : Fr h₀ L s.heap m) (X₀ : K.In h₀) (N : News h₀ L s.heap ((dx, dictOf es n) :: (x, ox) :: r)) (hox : ox.cls = .ref C) (hod : ox.dict = some dx) (hno : notCls ox = true)
    (hs : findIn K (.ref C) "__setattr__" = some (some (.builtin "object.__setattr__"))) (ht : takerIn K C name = some none) (hc : clsIn K C = some cd) (hne : cd.mro.isEmpty = false) (hob : cd.mro.contains (.type "object") = true) (hr : ∀ self, refuseLoop self "__setattr__" cd.mro = pure ()) (hd' : cd.hasDict = true) (h2 : ∀ p ∈ (x, ox) :: r, p.1 ≠ dx)
    (hl : (getL name es).isSome = true) (e : (putL name (PyData.keyHash w.params name) (.str name (s.toks + 1)) v es, putN name es n) = (es', n')) (hz : es'.length ≤ 1000)
    (h : ∀ h', Fr h₀ L h' m → News h₀ L h' ((dx, dictOf es' n') :: (x, ox) :: r) → U () { s with heap := h', toks := s.toks + 2 }) :
    wpAny (model prog w) A (setAttr (.ref x) name v) U E s := by
  have X := X₀.keeps F.keep
  have I : PySem.W.InstAt s.heap x ox C (some (dictOf es n)) := ⟨(N _ (.tail _ (.head _))).1, hox, hno, by rw [hod]; exact (N _ (.head _)).1⟩
  obtain ⟨e1, e2⟩ := Prod.mk.inj e
  exact set_plain X I hs (exc_osa (s := { s with toks := s.toks + 1 }) X I hc hne hob hr ht fun b => exc_body (R := fun r s' => match r with | .ok (.ret _) => U () s' | .ok _ => False | .error e => E e s') (s := { s with toks := s.toks + 1 }) (pre := []) F N X I hod hc hd' hl (fun _ hp => nomatch hp) h2 (by rw [putName_dict, e1, e2]) rfl hz h)
end
end Mine
end

section
open PySem PySem.W PyProof.Rows PySem.Spec PySem.Calls
set_option Elab.async false
set_option maxRecDepth 100000
set_option maxHeartbeats 8000000
set_option linter.all false
set_option compiler.extract_closed false
namespace Mine
theorem hide_fr {h₀ h : Heap} {L : Addr} {m : Str → Option Value} {l : List Addr} (F : Fr h₀ L h m) (hl : ∀ a ∈ l, a ≠ L ∧ h₀.get? a = none) : Fr h₀ L (hideAll h l) m := by
  obtain ⟨oL, es, ep, hL, r⟩ := F.ns
  exact ⟨⟨oL, es, ep, hideAll_get _ hL fun hm => (hl _ hm).1 rfl, r⟩, fun b o q => hideAll_get _ (F.keep b o q) (fun hm => by
    rw [(hl _ hm).2] at q
    cases q), F.above⟩
theorem hide_news {h₀ h : Heap} {L : Addr} {news : List (Addr × Obj)} {l : List Addr} (N : News h₀ L h news) (hl : ∀ p ∈ news, p.1 ∉ l) : News h₀ L (hideAll h l) news :=
  fun p hp => ⟨hideAll_get _ (N p hp).1 (hl p hp), (N p hp).2⟩
theorem meta_exc : typeOf (.type "Exception") = pure (.type "type") := by kernel_rfl
local macro_rules | `(tactic| walk_at "getMethod type:Exception") => `(tactic| (k_here; refine' method_type ?F ?X ?m (by decide +kernel) ?e ?h ?_; (case F => k_asm); (case X => k_asm); (case m => exact meta_exc); (case e => k_dflt k_is); (case h => k_handed)))
theorem refuse_exc (self : Value) : refuseLoop self "__setattr__" [.ref 60, .ref 47, .type "Exception", .type "BaseException", .type "object"] = pure () := by
  rw [refuseLoop_ref, refuseLoop_ref]
  exact PySem.F.store_Exception.passes self
theorem refuse_of {cd : ClassData} {self : Value} (h : cd.mro = [.ref 60, .ref 47, .type "Exception", .type "BaseException", .type "object"]) : refuseLoop self "__setattr__" cd.mro = pure () := by rw [h]; exact refuse_exc self
theorem mk_c {w : World} {mean : ExcName → Option Value} {mg mb : Str → Option Value} {msg : Str} {tm : Tok} {D : Addr} {news : List (Addr × Obj)}
  {dp un : Nat} {gd : Option (List Code)} {cn : Str} {cs : Scope} {ca : Addr} {ccd : Value} {cl : List (Str × Addr)} {outer : List Env} {A₀ : Around} {base h₀ : Heap} {L : Addr} {m : Str → Option Value} {s : Shared} {Q E : Value → Shared → Prop}
  (B : Below A₀ base outer h₀) (F : Fr h₀ L s.heap m) (X : (hd.heap_39 w.params).In h₀) (N : News h₀ L s.heap news) (Tp : Top hd.view_39 LO mean mg mb h₀) (hk : cs.kind = .function) (hdp : dp + 1 < recursionLimit)
  (k : ∀ (e dx t : Addr) (hh h' : Heap) (tk k1 k2 n : Nat) (u1 u2 : Int), Fr h₀ L hh m → News h₀ L hh news → (∀ b o, hh.get? b = some o → h'.get? b = some o) → hh.get? e = none → hh.get? dx = none → hh.get? t = none →
    h'.get? e = some (excObj dx t) → h'.get? dx = some (excDict u1 u2 msg tm D k1 k2 n) → h'.get? t = some { cls := .type "tuple", data := .seq [Value.str msg tm].toArray } → Q (.ref e) { s with heap := h', toks := tk }) :
  wpAny (model Challenge.rw_pb0222_01.row.prog w) (ktrTop dp un gd cn cs L ca ccd cl outer) (call (.ref 60) [.str msg tm, .ref D]) Q E s := by
  revert X
  k_fill
  intro X
  refine' call_exc ?k1 ?k2 ?k3 ?k4 ?k5 ?k6 ?k7 ?k8 ?k9 ?k10 ?k11 ?k12 ?_
  case k1 => k_asm
  case k2 => k_asm
  case k3 => k_asm
  case k4 => k_is
  case k5 => decide +kernel
  case k6 => decide +kernel
  case k7 => decide +kernel
  case k8 => k_is
  case k9 => k_is
  case k10 => k_is
  case k11 => k_is
  case k12 => (rw [sizeLine_eq]; simp)
  intro x' t' h' F' N' l1 l2
  have hx9 : ∀ p ∈ (t', tupNew [Value.str msg tm, Value.ref D]) :: news, p.1 ≠ x' := List.forall_mem_cons.mpr ⟨Nat.ne_of_lt l2, fun p hp => Nat.ne_of_lt (Nat.lt_trans (l1 p hp) l2)⟩
  k_dflt (refine' code_def (binds := [(Str.ofString "self", .ref x'), (Str.ofString "what", .str msg tm), (Str.ofString "at", .ref D)]) ?k1 ?k2 ?k3 ?k4 ?k5 ?kA ?kF ?kK ?k6 ?k7 ?k8 ?k9 ?kB ?_ ?c2 ?c3 ?c4 ?c5; (case kA => exact rfl); (case kF => exact rfl); (case kK => assumption); (case k1 => k_asm); (case k2 => k_asm); (case k3 => k_asm); (case k4 => k_asm); (case k5 => k_asm); (case k6 => k_is); (case k7 => k_is); (case k8 => ktr_room); (case k9 => exact binds_K (by k_in) rfl (by k_is) rfl rfl (by with_unfolding_all rfl)); (case c5 => decide); (case kB => exact locs rfl); (case c2 => exact rfl); (case c3 => exact rfl); (case c4 => exact rfl); k_whole; intro g' L' h' FG' F' N' B' X' T'; (try dsimp only); (try k_lift B'); (try k_fold))
  k_steps
  k_dflt (refine' exc_initK ?k1 ?k2 ?k3 ?k4 ?k5 ?k6 ?k7 ?_)
  case k1 => k_asm
  case k2 => k_asm
  case k3 => k_asm
  case k4 => k_is
  case k5 => decide +kernel
  case k6 => (rw [sizeLine_eq]; simp)
  case k7 => exact hx9
  intro t1' h' F' N' l3
  have hx8 : ∀ p ∈ (t1', tupNew [Value.str msg tm]) :: (t', tupNew [Value.str msg tm, Value.ref D]) :: news, p.1 ≠ x' := List.forall_mem_cons.mpr ⟨(Nat.ne_of_lt (l3 _ (.head _))).symm, hx9⟩
  k_steps
  k_dflt (refine' exc_set0 ?k1 ?k2 ?k3 ?k4 ?k5 ?k6 ?k7 ?k8 ?k9 ?k10 ?k11 ?k12 ?k13 ?_)
  case k1 => k_asm
  case k2 => k_asm
  case k3 => k_asm
  case k4 => k_is
  case k5 => k_is
  case k6 => k_is
  case k7 => rfl
  case k8 => decide +kernel
  case k9 => exact fun _ => refuse_of rfl
  case k10 => rfl
  case k11 => exact hx8
  case k12 => k_put
  case k13 => exact Nat.le_of_ble_eq_true rfl
  intro dx' h' F' N' l4
  have hx7 : ∀ p ∈ (x', { excNew 60 t1' with dict := some dx' }) :: (t1', tupNew [Value.str msg tm]) :: (t', tupNew [Value.str msg tm, Value.ref D]) :: news, p.1 ≠ dx' := List.forall_mem_cons.mpr ⟨Nat.ne_of_lt (l4 (x', excNew 60 t1') (.head _)), fun p hp => Nat.ne_of_lt (l4 p (.tail _ hp))⟩
  k_steps
  k_dflt (refine' exc_set1 ?k1 ?k2 ?k3 ?x1 ?x2 ?x3 ?k4 ?k5 ?k6 ?k7 ?k8 ?k9 ?k10 ?k11 ?x4 ?k12 ?k13 ?_)
  case k1 => k_asm
  case k2 => k_asm
  case k3 => k_asm
  case x1 => rfl
  case x2 => rfl
  case x3 => rfl
  case k4 => k_is
  case k5 => k_is
  case k6 => k_is
  case k7 => rfl
  case k8 => decide +kernel
  case k9 => exact fun _ => refuse_of rfl
  case k10 => rfl
  case k11 => exact hx7
  case x4 => k_get
  case k12 => k_put
  case k13 => exact Nat.le_of_ble_eq_true rfl
  intro h' F' N'
  k_steps
  rename Fr h₀ L _ m => kF
  rename News h₀ L _ _ => kN
  have g1 := kN _ (.head _)
  have g2 := kN _ (.tail _ (.head _))
  have g3 := kN _ (.tail _ (.tail _ (.head _)))
  have hl : ∀ a ∈ [x', dx', t1'], a ≠ L ∧ h₀.get? a = none := by
    intro a ha
    simp only [List.mem_cons, List.not_mem_nil, or_false] at ha
    rcases ha with rfl | rfl | rfl
    · exact g2.2
    · exact g1.2
    · exact g3.2
  refine k x' dx' t1' (hideAll h' [x', dx', t1']) h' _ _ _ _ _ _ (hide_fr kF hl) (hide_news (cb_drop kN fun p hp => .tail _ (.tail _ (.tail _ (.tail _ hp)))) fun p hp hm => ?_) (fun b o q => of_hideAll _ q) (hideAll_none _ (.head _)) (hideAll_none _ (.tail _ (.head _))) (hideAll_none _ (.tail _ (.tail _ (.head _)))) g2.1 g1.1 g3.1
  simp only [List.mem_cons, List.not_mem_nil, or_false] at hm
  rcases hm with z | z | z
  · exact hx9 p (.tail _ hp) z
  · exact hx7 p (.tail _ (.tail _ (.tail _ hp))) z
  · exact Nat.ne_of_lt (l3 p (.tail _ (.tail _ hp))) z
end Mine
end

section
open PySem PySem.W PyProof.Rows PySem.Spec PySem.Calls
set_option Elab.async false
set_option maxRecDepth 100000
set_option maxHeartbeats 8000000
set_option linter.all false
set_option compiler.extract_closed false
namespace Mine
local macro_rules | `(tactic| walk_at "exec Raise some none") => `(tactic| (k_here; refine raise_fault rfl ?_))
local macro_rules | `(tactic| walk_at "call ref") => `(tactic| (k_here; (with_reducible show wpAny _ _ (call (Value.ref 60) [Value.str _ _, Value.ref _]) _ _ _); k_dflt (refine' mk_c ?aB ?aF ?aX ?aN ?aT rfl ?a1 ?_; (case aF => k_asm); (case aN => k_asm); (case aB => k_asm); (case aX => k_asm); (case aT => k_asm); (case a1 => (simp only [recursionLimit, kt_depth, depth_deeper]; omega))); intro e' dx' t' hh' h' tk' k1' k2' n' u1' u2' F' N' hk' he0' hdx0' ht0' he' hdx' ht'; refine ⟨e', dx', t', rfl, Frag.In.keeps (by k_in) hk', he', ?_⟩))
local macro_rules | `(tactic| walk_at "leaving ref") => `(tactic| (k_here; (refine' leave_fault ?lfK ?lfF ?lfN rfl ?lfk ?lfe0 ?lfd0 ?lft0 ?lfe ?lfd ?lft ?_; (case lfK => assumption); (case lfN => k_asm); (case lfF => k_asm); (case lfk => assumption); (case lfe0 => assumption); (case lfe => assumption); (case lfd0 => assumption); (case lft0 => assumption); (case lfd => assumption); (case lft => assumption)); intro h' R' U'))
theorem sign_at_c {w : World} {mean : ExcName → Option Value} {mg mb : Str → Option Value} {T : Str} {tT : Tok} {a : Int} {ta : Tok} {news : List (Addr × Obj)}
  {dp un : Nat} {gd : Option (List Code)} {cn : Str} {cs : Scope} {ca : Addr} {ccd : Value} {cl : List (Str × Addr)} {outer : List Env} {A₀ : Around} {base h₀ : Heap} {L : Addr} {m : Str → Option Value} {s : Shared} {Q E : Value → Shared → Prop}
  (C : At w mean mg mb dp un cs outer A₀ base h₀ L m news s) (h0 : 0 ≤ a) (h1 : a < (T.length : Int)) (hT : T.length ≤ 1000000)
  (q1 : ([Str.ofString "CR", Str.ofString "DB"].any fun x => x == Txt.slice T (some a) (some (a + 2))) = true →
    ∀ t h' tk', Fr h₀ L h' m → News h₀ L h' news → Q (.str (Txt.slice T (some a) (some (a + 2))) t) { s with heap := h', toks := tk' })
  (q2 : ([Str.ofString "CR", Str.ofString "DB"].any fun x => x == Txt.slice T (some a) (some (a + 2))) = false →
    (Builtin.Str.occurrences (Str.ofString "ABPSVXZ90/,.+-*$") (Txt.item T a) 0 (Str.ofString "ABPSVXZ90/,.+-*$").length 1).isEmpty = false →
    ∀ t h' tk', Fr h₀ L h' m → News h₀ L h' news → Q (.str (Txt.item T a) t) { s with heap := h', toks := tk' })
  (q3 : ([Str.ofString "CR", Str.ofString "DB"].any fun x => x == Txt.slice T (some a) (some (a + 2))) = false →
    (Builtin.Str.occurrences (Str.ofString "ABPSVXZ90/,.+-*$") (Txt.item T a) 0 (Str.ofString "ABPSVXZ90/,.+-*$").length 1).isEmpty = true →
    Faults base h₀ (envX cn cs L ca ccd cl :: outer) L m news s a E) :
  wpAny (model Challenge.rw_pb0222_01.row.prog w) (ktrTop dp un gd cn cs L ca ccd cl outer) (call (.ref 97) [.str T tT, .int a ta]) Q E s := by
  obtain ⟨B, F, X, N, Tp, hk, hdp, hun, hdp2, hun2⟩ := C
  revert X
  k_fill
  intro X
  refine wpAny_call ?_
  k_dflt cell_enter
  k_steps
  · exact q1 (by assumption) _ _ _ (by k_asm) (cb_drop (by k_asm) fun p hp => .tail _ hp)
  · exact q3 (by assumption) (by assumption) _ _ _ _ (by assumption) (RaisedF.sub (by assumption) fun p hp => .tail _ hp) (by assumption)
  · exact q2 (by assumption) (by assumption) _ _ _ (by k_asm) (cb_drop (by k_asm) fun p hp => .tail _ hp)
open PyProof.Rows.LCg PyProof.Rows.LCt
noncomputable def StrSrc (prog : Program) (w : World) (A : Around) (h₀ : Heap) (L : Addr) (m : Str → Option Value) (env : Env) (ct elt : PySem.Expr) (x : Str) (scope : Scope) (cl : List (Str × Addr)) (Q : Value → Shared → Prop) (xv : Value) (s₁ : Shared) : Prop :=
  ∃ tx t news, xv = .str tx t ∧ A.handled = none ∧ Fr h₀ L s₁.heap m ∧ News h₀ L s₁.heap news ∧ tx.cps.size ≤ sizeLine ∧
      ∀ s₂ : Shared, (∃ h, s₂ = { s₁ with heap := h }) → CompRestT prog w A h₀ L m env ct elt x scope cl s₂ (fun _ => True) (SignAt tx) (FinE h₀ L m s₂ Q) tx.cps.size 0 [] news
theorem StrSrc.intro {prog : Program} {w : World} {A : Around} {h₀ : Heap} {L : Addr} {m : Str → Option Value} {env : Env} {ct elt : PySem.Expr} {x : Str} {scope : Scope} {cl : List (Str × Addr)} {Q : Value → Shared → Prop} {tx : Str} {t : Tok} {s₁ : Shared} {news : List (Addr × Obj)}
  (hh : A.handled = none) (F : Fr h₀ L s₁.heap m) (N : News h₀ L s₁.heap news) (hsz : tx.length ≤ sizeLine)
  (R : ∀ g, CompRestT prog w A h₀ L m env ct elt x scope cl { s₁ with heap := g } (fun _ => True) (SignAt tx) (FinE h₀ L m { s₁ with heap := g } Q) tx.cps.size 0 [] news) : StrSrc prog w A h₀ L m env ct elt x scope cl Q (.str tx t) s₁ :=
  ⟨tx, t, news, rfl, hh, F, N, hsz, fun _ ⟨g, e⟩ => e ▸ R g⟩
section
variable {prog : Program} {w : World} {A : Around} {E : Value → Shared → Prop} {s : Shared} {h₀ : Heap} {L : Addr} {m : Str → Option Value} {env : Env}
theorem lc_str {ct elt iter : PySem.Expr} {x : Str} {px : Pos} {scope : Scope} {cl : List (Str × Addr)} {pos : Pos} {Q : Value → Shared → Prop} (F₀ : Fr h₀ L s.heap m)
    (hclos : closureFor scope env = pure cl) (hcell : ∀ y ∈ scope.names, y.2 ≠ .cell) (hkind : scope.kind = .function)
    (hnames : ∀ y ∈ scope.names, y.2 = .local → scope.names.lookup y.1 = some .local) (hx : scope.names.lookup x = some .local)
    (h : wpAny (model prog w) A (eval iter env) (StrSrc prog w A h₀ L m env ct elt x scope cl Q) E s)
    (hs : ∀ x, foldedSetIterable iter env x = pure x := by intro _; rfl) :
    wpAny (model prog w) A (eval (.ListComp elt [⟨.Name x px, iter, [ct], 0⟩] scope pos) env) Q E s := by
  rw [eval_ListComp]
  refine wpAny_comprehension_free (use := none) rfl hs hclos hkind hnames (wpAny_mono h (fun xv s₁ h₁ => ?_) fun _ _ e => e)
  obtain ⟨tx, t, news, rfl, hh, F, N, hsz, R⟩ := h₁
  cases ha : tx.cps.all (· < 128)
  · refine wpAny_pyIter_wide ha ?_
    refine block_T (Walks.strWide hh _ tx t) hsz (fun i h st => by obtain ⟨o, e, _⟩ := st; exact ⟨o, e⟩) (S := fun _ => True) (news := news) (fun i h h' o nw st e e' _ _ _ => by obtain ⟨o', e1, r⟩ := st; rw [e] at e1; cases e1; exact ⟨o, e', r⟩) hcell hkind hx ⟨_, Heap.get?_push_size _ rfl, rfl, rfl⟩ (fun b hb => ?_)
      (F.push _) (N.grown fun _ _ e => Heap.get?_push_of_some _ e) (Nat.ne_of_lt F.ns.lt) (next_is_new F) (fun p hp => Nat.ne_of_lt (Heap.lt_size (N p hp).1)) trivial (R _ ⟨_, rfl⟩) ?_
    · rw [List.mem_singleton.mp hb]
      show s₁.heap.objs.size < (s₁.heap.push _).objs.size
      rw [Heap.size_push]; exact Nat.lt_succ_self _
    · intro D C h tk m' ys news' F' N' o1 hn hC₀ hD₀ hCL hDL hCD offC fin
      refine ⟨m', hn, fun h'' hs'' => fin D h'' tk (F'.change hs'' hCL hC₀) (fun p hp => ?_) o1⟩
      refine ⟨hs''.extBut _ _ ?_ (N' p hp).1, (N' p hp).2⟩
      rcases List.mem_cons.mp hp with rfl | hp
      · exact Ne.symm hCD
      · exact offC p hp
  · refine wpAny_pyIter_ascii ha ?_
    refine block_T (Walks.strAscii hh _ tx t) hsz (fun i h st => by obtain ⟨o, e, _⟩ := st; exact ⟨o, e⟩) (S := fun _ => True) (news := news) (fun i h h' o nw st e e' _ _ _ => by obtain ⟨o', e1, r⟩ := st; rw [e] at e1; cases e1; exact ⟨o, e', r⟩) hcell hkind hx ⟨_, Heap.get?_push_size _ rfl, rfl, rfl⟩ (fun b hb => ?_)
      (F.push _) (N.grown fun _ _ e => Heap.get?_push_of_some _ e) (Nat.ne_of_lt F.ns.lt) (next_is_new F) (fun p hp => Nat.ne_of_lt (Heap.lt_size (N p hp).1)) trivial (R _ ⟨_, rfl⟩) ?_
    · rw [List.mem_singleton.mp hb]
      show s₁.heap.objs.size < (s₁.heap.push _).objs.size
      rw [Heap.size_push]; exact Nat.lt_succ_self _
    · intro D C h tk m' ys news' F' N' o1 hn hC₀ hD₀ hCL hDL hCD offC fin
      refine ⟨m', hn, fun h'' hs'' => fin D h'' tk (F'.change hs'' hCL hC₀) (fun p hp => ?_) o1⟩
      refine ⟨hs''.extBut _ _ ?_ (N' p hp).1, (N' p hp).2⟩
      rcases List.mem_cons.mp hp with rfl | hp
      · exact Ne.symm hCD
      · exact offC p hp
end
section
variable {prog : Program} {w : World} {A : Around} {h₀ : Heap} {L : Addr} {m : Str → Option Value} {env : Env} {ct elt : PySem.Expr} {x : Str} {scope : Scope} {cl : List (Str × Addr)} {s : Shared} {S : List (Addr × Obj) → Prop} {P : Nat → Value → Prop} {Fin : List Value → List (Addr × Obj) → Prop}
/-- a comprehension with a test, by what holds of what it has made: R, over the number of turns, the items and the ledger -/
theorem crt_ind {n : Nat} (R : Nat → List Value → List (Addr × Obj) → Prop) 
    (step : ∀ i ys news v I oI C oC D m₂ h tk (E' : Value → Shared → Prop), i < n → R i ys news → P i v → NsObj oC m₂ → m₂ x = some v → Fr h₀ L h m → News h₀ L h ((I, oI) :: (C, oC) :: (D, lst ys) :: news) → Off3 I C D news → ((@Ne Nat I C) ∧ (@Ne Nat I D) ∧ (@Ne Nat C D)) →
      wpAny (model prog w) A (isTrue ct (compEnvC scope cl C env) (eval ct (compEnvC scope cl C env))) (fun ok s' => if ok = true then
        wpAny (model prog w) A (eval elt (compEnvC scope cl C env)) (CompEnd h₀ L m { s with heap := h, toks := tk } I oI C oC D (lst ys) S (fun y news' => R (i + 1) (ys ++ [y]) news')) E' s'
        else CompEnd h₀ L m { s with heap := h, toks := tk } I oI C oC D (lst ys) S (fun _ news' => R (i + 1) ys news') Value.none s') E' { s with heap := h, toks := tk })
    (fin : ∀ ys news, R n ys news → Fin ys news) {news : List (Addr × Obj)} (h0 : R 0 [] news) : CompRestT prog w A h₀ L m env ct elt x scope cl s S P Fin n 0 [] news := by
  have key : ∀ (j i : Nat) (ys : List Value) (news : List (Addr × Obj)), i + j = n → R i ys news → CompRestT prog w A h₀ L m env ct elt x scope cl s S P Fin j i ys news := by
    intro j
    induction j with
    | zero =>
      intro i ys news hi hy
      have e : i = n := by omega
      subst e
      exact CompRestT.zero (fin ys news hy)
    | succ j ih =>
      intro i ys news hi hy
      refine CompRestT.succ ?_
      intro v I oI C oC D m₂ h tk E' hv hC hx F N off ne
      refine wpAny_mono (step i ys news v I oI C oC D m₂ h tk E' (by omega) hy hv hC hx F N off ne) (fun b s₂ hq => ?_) fun _ _ e => e
      cases b with
      | true =>
        simp only [if_true] at hq ⊢
        refine wpAny_mono hq (fun y s₃ hr => ?_) fun _ _ e => e
        obtain ⟨h', tk', nw, e, F', N', off', hS, hr'⟩ := hr
        exact ⟨h', tk', nw, e, F', N', off', hS, ih (i + 1) _ _ (by omega) hr'⟩
      | false =>
        simp only [Bool.false_eq_true, if_false] at hq ⊢
        obtain ⟨h', tk', nw, e, F', N', off', hS, hr'⟩ := hq
        exact ⟨h', tk', nw, e, F', N', off', hS, ih (i + 1) _ _ (by omega) hr'⟩
  exact key n 0 [] news (by omega) h0
theorem cr_ind {n : Nat} (R : Nat → List Value → List (Addr × Obj) → Prop) 
    (step : ∀ i ys news v I oI C oC D m₂ h tk (E' : Value → Shared → Prop), i < n → R i ys news → P i v → NsObj oC m₂ → m₂ x = some v → Fr h₀ L h m → News h₀ L h ((I, oI) :: (C, oC) :: (D, lst ys) :: news) → Off3 I C D news → ((@Ne Nat I C) ∧ (@Ne Nat I D) ∧ (@Ne Nat C D)) →
      wpAny (model prog w) A (eval elt (compEnvC scope cl C env)) (CompEnd h₀ L m { s with heap := h, toks := tk } I oI C oC D (lst ys) S (fun y news' => R (i + 1) (ys ++ [y]) news')) E' { s with heap := h, toks := tk })
    (fin : ∀ ys news, R n ys news → Fin ys news) {news : List (Addr × Obj)} (h0 : R 0 [] news) : CompRest prog w A h₀ L m env elt x scope cl s S P Fin n 0 [] news := by
  have key : ∀ (j i : Nat) (ys : List Value) (news : List (Addr × Obj)), i + j = n → R i ys news → CompRest prog w A h₀ L m env elt x scope cl s S P Fin j i ys news := by
    intro j
    induction j with
    | zero =>
      intro i ys news hi hy
      have e : i = n := by omega
      subst e
      exact CompRest.zero (fin ys news hy)
    | succ j ih =>
      intro i ys news hi hy
      refine CompRest.succ ?_
      intro v I oI C oC D m₂ h tk E' hv hC hx F N off ne
      refine wpAny_mono (step i ys news v I oI C oC D m₂ h tk E' (by omega) hy hv hC hx F N off ne) (fun y s₃ hr => ?_) fun _ _ e => e
      obtain ⟨h', tk', nw, e, F', N', off', hS, hr'⟩ := hr
      exact ⟨h', tk', nw, e, F', N', off', hS, ih (i + 1) _ _ (by omega) hr'⟩
  exact key n 0 [] news (by omega) h0
end
open PyProof.Rows.LCg PyProof.Rows.LCt PySem.NumText
theorem allLt_back {d : Addr} : ∀ {l : List (Addr × Obj)}, AllLt d l → ∀ p ∈ l, p.1 < d
  | [], _, _, h => nomatch h
  | _ :: _, x, p, h => by
    rcases List.mem_cons.mp h with rfl | h
    · exact x.1
    · exact allLt_back x.2 p h
/-- the signs of a text that are no figures -/
noncomputable def oddOf (l : List Nat) : List Str := (l.filter fun c => (Builtin.Str.occurrences (Str.ofString "0123456789") ⟨#[c]⟩ 0 (Str.ofString "0123456789").length 1).isEmpty).map fun c => ⟨#[c]⟩
theorem oddOf_snoc (l : List Nat) (c : Nat) : oddOf (l ++ [c]) = oddOf l ++ (if (Builtin.Str.occurrences (Str.ofString "0123456789") ⟨#[c]⟩ 0 (Str.ofString "0123456789").length 1).isEmpty = true then [⟨#[c]⟩] else []) := by
  unfold oddOf
  rw [List.filter_append, List.map_append]
  congr 1
  rw [List.filter_cons]
  split <;> rfl
noncomputable def OddEl (news : List (Addr × Obj)) (c : Nat) (y : Value) (news' : List (Addr × Obj)) : Prop :=
  news' = news ∧ (∃ u, y = .str ⟨#[c]⟩ u) ∧ (Builtin.Str.occurrences (Str.ofString "0123456789") ⟨#[c]⟩ 0 (Str.ofString "0123456789").length 1).isEmpty = true
noncomputable def OddNo (news : List (Addr × Obj)) (c : Nat) (news' : List (Addr × Obj)) : Prop :=
  news' = news ∧ (Builtin.Str.occurrences (Str.ofString "0123456789") ⟨#[c]⟩ 0 (Str.ofString "0123456789").length 1).isEmpty = false
theorem figs_ind {prog : Program} {w : World} {A : Around} {h₀ : Heap} {L : Addr} {m : Str → Option Value} {env : Env} {ct elt : PySem.Expr} {x : Str} {scope : Scope} {cl : List (Str × Addr)} {s : Shared} {Fin : List Value → List (Addr × Obj) → Prop} {tx : Str} {news : List (Addr × Obj)}
    (step : ∀ c u ys I oI C oC D m₂ h tk (E' : Value → Shared → Prop), NsObj oC m₂ → m₂ x = some (.str ⟨#[c]⟩ u) → Fr h₀ L h m → News h₀ L h ((I, oI) :: (C, oC) :: (D, lst ys) :: news) → Off3 I C D news → ((@Ne Nat I C) ∧ (@Ne Nat I D) ∧ (@Ne Nat C D)) →
      wpAny (model prog w) A (isTrue ct (compEnvC scope cl C env) (eval ct (compEnvC scope cl C env))) (fun ok s' => if ok = true then
        wpAny (model prog w) A (eval elt (compEnvC scope cl C env)) (CompEnd h₀ L m { s with heap := h, toks := tk } I oI C oC D (lst ys) (fun _ => True) (OddEl news c)) E' s'
        else CompEnd h₀ L m { s with heap := h, toks := tk } I oI C oC D (lst ys) (fun _ => True) (fun _ => OddNo news c) Value.none s') E' { s with heap := h, toks := tk })
    (fin : ∀ ys, StrsAre ys (oddOf tx.cps.toList) → Fin ys news) : CompRestT prog w A h₀ L m env ct elt x scope cl s (fun _ => True) (SignAt tx) Fin tx.cps.size 0 [] news := by
  refine crt_ind (R := fun i ys nw => nw = news ∧ StrsAre ys (oddOf (tx.cps.toList.take i))) ?_ ?_ ⟨rfl, .nil⟩
  · rintro i ys nw v I oI C oC D m₂ h tk E' hi ⟨rfl, hy⟩ ⟨c, u, hc, rfl⟩ hC hx F N off ne
    have ht : tx.cps.toList.take (i + 1) = tx.cps.toList.take i ++ [c] := by
      rw [List.take_add_one]
      simp [hc]
    refine wpAny_mono (step c u ys I oI C oC D m₂ h tk E' hC hx F N off ne) (fun b s₂ hq => ?_) fun _ _ e => e
    cases b with
    | true =>
      simp only [if_true] at hq ⊢
      refine wpAny_mono hq (fun y s₃ hr => ?_) fun _ _ e => e
      obtain ⟨h', tk', nw', e, F', N', off', hS, rfl, ⟨u', rfl⟩, ho⟩ := hr
      refine ⟨h', tk', nw', e, F', N', off', hS, rfl, ?_⟩
      rw [ht, oddOf_snoc, if_pos ho]
      exact hy.append' (.cons _ _ .nil)
    | false =>
      simp only [Bool.false_eq_true, if_false] at hq ⊢
      obtain ⟨h', tk', nw', e, F', N', off', hS, rfl, ho⟩ := hq
      refine ⟨h', tk', nw', e, F', N', off', hS, rfl, ?_⟩
      rw [ht, oddOf_snoc, if_neg (by rw [ho]; exact Bool.false_ne_true), List.append_nil]
      exact hy
  · rintro ys nw ⟨rfl, hy⟩
    rw [List.take_of_length_le (by simp)] at hy
    exact fin ys hy
theorem strs_dat : ∀ {ys : List Value} {l : List Str}, StrsAre ys l → DatAll [] ys (l.map Dat.str)
  | _, _, .nil => .nil
  | _, _, .cons _ _ r => .cons (.str _ _) (strs_dat r)
/-- every sign of the text is a code point -/
noncomputable def Small (T : Str) : Prop := ∀ c ∈ T.cps.toList, c < 0x110000
theorem slice_mem {T : Str} {i j : Option Int} {c : Nat} (h : c ∈ (Txt.slice T i j).cps.toList) : c ∈ T.cps.toList := by
  unfold Txt.slice at h
  split at h
  · exact h
  · obtain ⟨k, _, hk⟩ := List.mem_filterMap.mp h
    exact Array.mem_toList_iff.mpr (Array.mem_of_getElem? hk)
theorem kqdStr {x : Str} (h : x.cps.all (· < 0x110000) = true) : kqdOk 8 (Dat.str x) = true := by
  unfold kqdOk
  exact h
theorem odd_ok {T : Str} {i j : Option Int} (h : Small T) : ∀ d ∈ (oddOf (Txt.slice T i j).cps.toList).map Dat.str, kqdOk 8 d = true := fun d hd => by
  obtain ⟨x, hx, rfl⟩ := List.mem_map.mp hd
  unfold oddOf at hx
  obtain ⟨c, hc, rfl⟩ := List.mem_map.mp hx
  have := h c (slice_mem (List.mem_filter.mp hc).1)
  refine kqdStr ?_
  simp [this]
theorem oddOf_nil {l : List Nat} (h : oddOf l = []) : AllDigits l := by
  intro c hc
  have h1 : (l.filter fun c => (Builtin.Str.occurrences (Str.ofString "0123456789") ⟨#[c]⟩ 0 (Str.ofString "0123456789").length 1).isEmpty) = [] := List.map_eq_nil_iff.mp h
  have h2 := List.filter_eq_nil_iff.mp h1 c hc
  have h3 := StrLaws.found_one (Str.ofString "0123456789") c
  rw [Bool.eq_false_iff.mpr h2] at h3
  have h4 : c ∈ (Str.ofString "0123456789").cps.toList := of_decide_eq_true h3.symm
  have h5 : (Str.ofString "0123456789").cps.toList = [48, 49, 50, 51, 52, 53, 54, 55, 56, 57] := by decide +kernel
  rw [h5] at h4
  simp only [List.mem_cons, List.not_mem_nil, or_false] at h4
  omega
theorem figs_int {x : Str} {inst : Decidable ((oddOf x.cps.toList).map Dat.str = [])} (h : @decide ((oddOf x.cps.toList).map Dat.str = []) inst = true) (h1 : (1 : Int) ≤ (x.length : Int)) (h2 : x.length ≤ 4300) : PySem.intText? x = some ((digitsVal x.cps.toList : Nat) : Int) := by
  have h' : (oddOf x.cps.toList).map Dat.str = [] := @of_decide_eq_true _ inst h
  refine intText_digits (oddOf_nil (List.map_eq_nil_iff.mp h')) (fun e => ?_) h2
  have : x.length = 0 := by
    show x.cps.size = 0
    rw [← Array.length_toList, e]; rfl
  omega
local macro_rules | `(tactic| walk_at "call type:int") => `(tactic| (k_here; (with_reducible show wpAny _ _ (call (Value.type "int") [Value.str _ _]) _ _ _); refine' KIN.call_text (figs_int ?fiA ?fiB ?fiC) ?fiD ?_; (case fiA => assumption); (case fiB => assumption); (case fiC => omega); (case fiD => omega)))
local macro_rules | `(tactic| walk_at "CompEnd") => `(tactic| (refine' CompEnd.intro ?ceF ?ceN _ (fun _ hp => hp) ?ceO trivial ?_; (case ceF => k_asm); (case ceN => k_asm); (case ceO => assumption)))
local macro_rules | `(tactic| walk_at "compareOp NotEq ref ref") => `(tactic| (k_here; (with_reducible show wpAny _ _ (compareOp CmpOp.NotEq (Value.ref _) (Value.ref _)) _ _ _); k_dflt (refine' kqd_ne ?qN ?qa ?qb ?qc ?qd (List.forall_mem_nil _) ?qf ?qg ?qi ?qj (fun _ h => h) ?ql ?qm ?qn ?_; (case qN => k_asm); (case qa => k_mem); (case qb => rfl); (case qc => rfl); (case qd => with_reducible assumption); (case qf => k_mem); (case qg => rfl); (case qi => rfl); (case qj => kqd_all); (case ql => exact odd_ok (by assumption)); (case qm => kqd_ok); (case qn => (simp only [units_deeper, units_in1, cLine]; omega)); k_whole)))
local macro_rules | `(tactic| walk_at "StrSrc") => `(tactic| (k_here; (refine' StrSrc.intro rfl ?ssF ?ssN ?ssz ?_; (case ssF => k_asm); (case ssN => k_asm); (case ssz => first | assumption | (rw [sizeLine_eq]; omega))); intro g'))
local macro_rules | `(tactic| walk_at "CompRestT") => `(tactic| (refine' figs_ind ?fgA ?fgB; (case' fgA => intro c' u' ys' I' oI' C' oC' D' m' h' tk' E' hC' hx' F' N' off' ne'); (case' fgB => intro ys' hy'; unfold FinE; intro D' h' tk' F' N' off'; have hdat' := strs_dat hy')))
local macro_rules | `(tactic| walk_at "OddEl") => `(tactic| exact ⟨rfl, ⟨_, rfl⟩, by assumption⟩)
local macro_rules | `(tactic| walk_at "OddNo") => `(tactic| exact ⟨rfl, by assumption⟩)
local macro_rules | `(tactic| walk_at "eval ListComp") => `(tactic| (k_here; k_dflt (refine lc_str (F₀ := by k_asm) (by with_unfolding_all rfl) (by decide) (by rfl) (by decide) (by rfl) ?_)))
noncomputable abbrev figsOf (T : Str) (a : Int) : Str := Txt.slice T (some (a + 1)) (some (if a > Txt.find3 T (Str.ofString ")") a then a else Txt.find3 T (Str.ofString ")") a))
structure CountOk (x : Str) : Prop where
  lo : 1 ≤ x.length
  hi : x.length ≤ 4
  all : oddOf x.cps.toList = []
  pos : digitsVal x.cps.toList ≠ 0
theorem odd_dat {x : Str} {inst : Decidable ((oddOf x.cps.toList).map Dat.str = [])} (h : @decide ((oddOf x.cps.toList).map Dat.str = []) inst = true) : oddOf x.cps.toList = [] := List.map_eq_nil_iff.mp (@of_decide_eq_true _ inst h)
theorem odd_not {x : Str} {inst : Decidable ((oddOf x.cps.toList).map Dat.str = [])} (h : @decide ((oddOf x.cps.toList).map Dat.str = []) inst = false) : ¬ CountOk x := fun c => by
  have := @of_decide_eq_false _ inst h
  rw [c.all] at this
  exact this rfl
theorem count_at_c {w : World} {mean : ExcName → Option Value} {mg mb : Str → Option Value} {T : Str} {tT : Tok} {a : Int} {ta : Tok} {news : List (Addr × Obj)}
  {dp un : Nat} {gd : Option (List Code)} {cn : Str} {cs : Scope} {ca : Addr} {ccd : Value} {cl : List (Str × Addr)} {outer : List Env} {A₀ : Around} {base h₀ : Heap} {L : Addr} {m : Str → Option Value} {s : Shared} {Q E : Value → Shared → Prop}
  (C : At w mean mg mb dp un cs outer A₀ base h₀ L m news s) (h0 : 0 ≤ a) (h1 : a ≤ (T.length : Int)) (hT : T.length ≤ 1000000) (hok : Small T)
  (q1 : (Txt.slice T (some a) (some (a + 1)) != Str.ofString "(") = true → ∀ D t1 t2 h' tk', Fr h₀ L h' m → News h₀ L h' ((D, tupO [.int 1 t1, .int a t2]) :: news) → (∀ p ∈ news, p.1 < D) → Q (.ref D) { s with heap := h', toks := tk' })
  (q2 : (Txt.slice T (some a) (some (a + 1)) != Str.ofString "(") = false → CountOk (figsOf T a) → ∀ D t1 t2 h' tk', Fr h₀ L h' m → News h₀ L h' ((D, tupO [.int (digitsVal (figsOf T a).cps.toList : Nat) t1, .int (Txt.find3 T (Str.ofString ")") a + 1) t2]) :: news) → (∀ p ∈ news, p.1 < D) → Q (.ref D) { s with heap := h', toks := tk' })
  (q3 : (Txt.slice T (some a) (some (a + 1)) != Str.ofString "(") = false → ¬ CountOk (figsOf T a) → Faults base h₀ (envX cn cs L ca ccd cl :: outer) L m news s a E) :
  wpAny (model Challenge.rw_pb0222_01.row.prog w) (ktrTop dp un gd cn cs L ca ccd cl outer) (call (.ref 102) [.str T tT, .int a ta]) Q E s := by
  obtain ⟨B, F, X, N, Tp, hk, hdp, hun, hdp2, hun2⟩ := C
  revert X
  k_fill
  intro X
  refine wpAny_call ?_
  k_dflt cell_enter
  k_steps
  · exact q1 (by assumption) _ _ _ _ _ (by k_asm) (by k_asm) (by assumption)
  · exact q3 (by assumption) (fun c => c.pos (by dsimp only [figsOf]; omega)) _ _ _ _ (by assumption) (RaisedF.sub (by assumption) fun p hp => .tail _ (.tail _ hp)) (by assumption)
  · refine q2 (by assumption) ⟨by dsimp only [figsOf]; omega, by dsimp only [figsOf]; omega, odd_dat (by assumption), by dsimp only [figsOf]; omega⟩ _ _ _ _ _ (by k_asm) (cb_drop (by k_asm) (by
      intro p hp
      rcases List.mem_cons.mp hp with rfl | hp
      · exact .head _
      · exact .tail _ (.tail _ (.tail _ hp)))) ?_
    exact allLt_back (And.right (And.right (by assumption)))
  · exact q3 (by assumption) (odd_not (by assumption)) _ _ _ _ (by assumption) (RaisedF.sub (by assumption) fun p hp => .tail _ (.tail _ hp)) (by assumption)
  · exact q3 (by assumption) (fun c => by have := c.hi; dsimp only [figsOf] at this; omega) _ _ _ _ (by assumption) (by assumption) (by assumption)
  · exact q3 (by assumption) (fun c => by have := c.lo; dsimp only [figsOf] at this; omega) _ _ _ _ (by assumption) (by assumption) (by assumption)
section
variable {prog : Program} {w : World} {A : Around} {E : Value → Shared → Prop} {s : Shared} {env : Env} {test : PySem.Expr} {body orelse : List Stmt} {Q : Flow → Shared → Prop}
/-- a while, at its test -/
noncomputable def Loop (prog : Program) (w : World) (A : Around) (E : Value → Shared → Prop) (env : Env) (test : PySem.Expr) (body orelse : List Stmt) (Q : Flow → Shared → Prop) (s : Shared) : Prop := WhlRest prog w A E env test body orelse Q 0 s
theorem loop_start {pos : Pos} (h : Loop prog w A E env test body orelse Q s) : wpAny (model prog w) A (exec (.While test body orelse pos) env) Q E s := whl_start 0 h
/-- what a turn's end owes -/
noncomputable def TurnPost {ι : Type} (μ : ι → Nat) (Inv : ι → Shared → Prop) (i : ι) (Q : Flow → Shared → Prop) (f : Flow) (s : Shared) : Prop := match f with
  | .ret v => Q (.ret v) s
  | .brk => Q .next s
  | _ => ∃ j, μ j < μ i ∧ Inv j s
theorem loop_ind {ι : Type} (μ : ι → Nat) (Inv : ι → Shared → Prop) (hE : PassesOwn (model prog w) A env E)
    (step : ∀ i s, Inv i s → wpAny (model prog w) A (isTrue test env (eval test env)) (fun b s₂ => WhlIf b (wpAny (model prog w) A (execs body env) (TurnPost μ Inv i Q) E s₂) (wpAny (model prog w) A (execs orelse env) Q E s₂)) E s)
    (i : ι) (h : Inv i s) : Loop prog w A E env test body orelse Q s := by
  have key : ∀ (n : Nat) (i : ι) (s : Shared), μ i < n → Inv i s → WhlRest prog w A E env test body orelse Q 0 s := by
    intro n
    induction n with
    | zero => intro i s h; omega
    | succ n ih =>
      intro i s hn hI
      have t : WhlRest prog w A E env test body orelse Q (0 + 1) s := by
        refine whl_turn hE (wpAny_mono (step i s hI) (fun b s₂ hb => ?_) fun _ _ x => x)
        cases b with
        | false => exact hb
        | true =>
          refine WhlIf.yes rfl (wpAny_mono hb (fun f s₃ hf => ?_) fun _ _ x => x)
          cases f with
          | ret v => exact hf
          | brk => exact hf
          | next => obtain ⟨j, hj, hI'⟩ := hf; exact ih j s₃ (by omega) hI'
          | cont => obtain ⟨j, hj, hI'⟩ := hf; exact ih j s₃ (by omega) hI'
      exact t
  exact key _ i s (Nat.lt_succ_self _) h
end

/-- the sign that begins at a place -/
inductive SignIs (T : Str) (a : Int) : Str → Prop
  | pair : ([Str.ofString "CR", Str.ofString "DB"].any fun x => x == Txt.slice T (some a) (some (a + 2))) = true → SignIs T a (Txt.slice T (some a) (some (a + 2)))
  | one : ([Str.ofString "CR", Str.ofString "DB"].any fun x => x == Txt.slice T (some a) (some (a + 2))) = false →
    (Builtin.Str.occurrences (Str.ofString "ABPSVXZ90/,.+-*$") (Txt.item T a) 0 (Str.ofString "ABPSVXZ90/,.+-*$").length 1).isEmpty = false → SignIs T a (Txt.item T a)
noncomputable def SignBad (T : Str) (a : Int) : Prop := ([Str.ofString "CR", Str.ofString "DB"].any fun x => x == Txt.slice T (some a) (some (a + 2))) = false ∧
    (Builtin.Str.occurrences (Str.ofString "ABPSVXZ90/,.+-*$") (Txt.item T a) 0 (Str.ofString "ABPSVXZ90/,.+-*$").length 1).isEmpty = true
/-- the count at a place, and the place behind it -/
inductive CountIs (T : Str) (p : Int) : Int → Int → Prop
  | no : (Txt.slice T (some p) (some (p + 1)) != Str.ofString "(") = true → CountIs T p 1 p
  | yes : (Txt.slice T (some p) (some (p + 1)) != Str.ofString "(") = false → CountOk (figsOf T p) → CountIs T p (NumText.digitsVal (figsOf T p).cps.toList : Nat) (Txt.find3 T (Str.ofString ")") p + 1)
noncomputable def CountBad (T : Str) (p : Int) : Prop := (Txt.slice T (some p) (some (p + 1)) != Str.ofString "(") = false ∧ ¬ CountOk (figsOf T p)
/-- a sign that may have no brackets -/
noncomputable def isAlone (sg : Str) : Bool := ([Str.ofString "S", Str.ofString "V", Str.ofString ".", Str.ofString "CR", Str.ofString "DB"].any fun x => x == sg)
/-- a turn that goes well -/
structure Turn (T : Str) (a : Int) (sg : Str) (n e : Int) : Prop where
  lo : 0 ≤ a
  lt : a < (T.length : Int)
  sn : SignIs T a sg
  ln : a + (sg.length : Int) ≤ (T.length : Int)
  sl : sg.length ≤ 2
  ct : CountIs T (a + sg.length) n e
  al : e > a + (sg.length : Int) → isAlone sg = false
  up : a < e
  hi : e ≤ (T.length : Int)
/-- a turn that raises, and the place it tells -/
inductive BadAt (T : Str) (a : Int) : Int → Prop
  | sign : SignBad T a → BadAt T a a
  | count {sg : Str} : SignIs T a sg → sg.length ≤ 2 → a + (sg.length : Int) ≤ (T.length : Int) → CountBad T (a + sg.length) → BadAt T a (a + sg.length)
  | alone {sg : Str} {n e : Int} : SignIs T a sg → sg.length ≤ 2 → a + (sg.length : Int) ≤ (T.length : Int) → CountIs T (a + sg.length) n e → e > a + (sg.length : Int) → isAlone sg = true → BadAt T a (a + sg.length)
inductive Parse (T : Str) : Int → List (Str × Int × Int) → Int → Prop
  | nil (a : Int) : Parse T a [] a
  | cons {a n e b : Int} {sg : Str} {r : List (Str × Int × Int)} : Turn T a sg n e → Parse T e r b → Parse T a ((sg, n, a) :: r) b
noncomputable abbrev signDict (u1 u2 u3 : Int) (k1 k2 k3 : Tok) (sg : Str) (n a : Int) (t1 t2 t3 : Tok) (e : Nat) : Obj :=
  dictOf [⟨u1, .str (Str.ofString "sign") k1, .str sg t1⟩, ⟨u2, .str (Str.ofString "count") k2, .int n t2⟩, ⟨u3, .str (Str.ofString "at") k3, .int a t3⟩] e
/-- the Signs that a ledger holds -/
inductive SignsIn (news : List (Addr × Obj)) : List Value → List (Str × Int × Int) → Prop
  | nil : SignsIn news [] []
  | snoc {vs : List Value} {ds : List (Str × Int × Int)} {x dx : Addr} {u1 u2 u3 : Int} {k1 k2 k3 : Tok} {sg : Str} {n a : Int} {t1 t2 t3 : Tok} {e : Nat} : SignsIn news vs ds → (x, instObj 86 dx) ∈ news → (dx, signDict u1 u2 u3 k1 k2 k3 sg n a t1 t2 t3 e) ∈ news →
    SignsIn news (vs ++ [.ref x]) (ds ++ [(sg, n, a)])
theorem SignsIn.mono {news news' : List (Addr × Obj)} (hs : ∀ p ∈ news, p ∈ news') {vs : List Value} {ds : List (Str × Int × Int)} (h : SignsIn news vs ds) : SignsIn news' vs ds := by
  induction h with
  | nil => exact .nil
  | snoc _ h1 h2 ih => exact .snoc ih (hs _ h1) (hs _ h2)
theorem SignsIn.length {news : List (Addr × Obj)} {vs : List Value} {ds : List (Str × Int × Int)} (h : SignsIn news vs ds) : vs.length = ds.length := by
  induction h with
  | nil => rfl
  | snoc _ _ _ ih => simp [ih]

section
variable {w : World} {mean : ExcName → Option Value} {mg mb : Str → Option Value} {T : Str} {tT : Tok} {a : Int} {ta : Tok} {news : List (Addr × Obj)}
  {dp un : Nat} {gd : Option (List Code)} {cn : Str} {cs : Scope} {ca : Addr} {ccd : Value} {cl : List (Str × Addr)} {outer : List Env} {A₀ : Around} {base h₀ : Heap} {L : Addr} {m : Str → Option Value} {s : Shared} {Q E : Value → Shared → Prop}
theorem sign_ok (C : At w mean mg mb dp un cs outer A₀ base h₀ L m news s) (h0 : 0 ≤ a) (h1 : a < (T.length : Int)) (hT : T.length ≤ 1000000) {sg : Str} (hs : SignIs T a sg)
  (q : ∀ t h' tk', Fr h₀ L h' m → News h₀ L h' news → Q (.str sg t) { s with heap := h', toks := tk' }) :
  wpAny (model Challenge.rw_pb0222_01.row.prog w) (ktrTop dp un gd cn cs L ca ccd cl outer) (call (.ref 97) [.str T tT, .int a ta]) Q E s := by
  refine sign_at_c C h0 h1 hT (fun p => ?_) (fun p o => ?_) fun p o => ?_
  · cases hs with
    | pair _ => exact q
    | one p' => rw [p] at p'; cases p'
  · cases hs with
    | pair p' => rw [p] at p'; cases p'
    | one _ => exact q
  · cases hs with
    | pair p' => rw [p] at p'; cases p'
    | one _ o' => rw [o] at o'; cases o'
theorem sign_bad (C : At w mean mg mb dp un cs outer A₀ base h₀ L m news s) (h0 : 0 ≤ a) (h1 : a < (T.length : Int)) (hT : T.length ≤ 1000000) (hs : SignBad T a)
  (q : Faults base h₀ (envX cn cs L ca ccd cl :: outer) L m news s a E) :
  wpAny (model Challenge.rw_pb0222_01.row.prog w) (ktrTop dp un gd cn cs L ca ccd cl outer) (call (.ref 97) [.str T tT, .int a ta]) Q E s := by
  refine sign_at_c C h0 h1 hT (fun p => ?_) (fun p o => ?_) fun p o => q
  · rw [hs.1] at p; cases p
  · rw [hs.2] at o; cases o
theorem count_ok (C : At w mean mg mb dp un cs outer A₀ base h₀ L m news s) (h0 : 0 ≤ a) (h1 : a ≤ (T.length : Int)) (hT : T.length ≤ 1000000) (hok : Small T) {n e : Int} (hc : CountIs T a n e)
  (q : ∀ D t1 t2 h' tk', Fr h₀ L h' m → News h₀ L h' ((D, tupO [.int n t1, .int e t2]) :: news) → (∀ p ∈ news, p.1 < D) → Q (.ref D) { s with heap := h', toks := tk' }) :
  wpAny (model Challenge.rw_pb0222_01.row.prog w) (ktrTop dp un gd cn cs L ca ccd cl outer) (call (.ref 102) [.str T tT, .int a ta]) Q E s := by
  refine count_at_c C h0 h1 hT hok (fun p => ?_) (fun p o => ?_) fun p o => ?_
  · cases hc with
    | no _ => exact q
    | yes p' => rw [p] at p'; cases p'
  · cases hc with
    | no p' => rw [p] at p'; cases p'
    | yes _ => exact q
  · cases hc with
    | no p' => rw [p] at p'; cases p'
    | yes _ o' => exact absurd o' o
theorem count_bad (C : At w mean mg mb dp un cs outer A₀ base h₀ L m news s) (h0 : 0 ≤ a) (h1 : a ≤ (T.length : Int)) (hT : T.length ≤ 1000000) (hok : Small T) (hc : CountBad T a)
  (q : Faults base h₀ (envX cn cs L ca ccd cl :: outer) L m news s a E) :
  wpAny (model Challenge.rw_pb0222_01.row.prog w) (ktrTop dp un gd cn cs L ca ccd cl outer) (call (.ref 102) [.str T tT, .int a ta]) Q E s := by
  refine count_at_c C h0 h1 hT hok (fun p => ?_) (fun p o => ?_) fun p o => q
  · rw [hc.1] at p; cases p
  · exact absurd o hc.2
end
/-- signs_of, at its while's test -/
noncomputable def SgInv (g : Heap) (L : Addr) (l : Addr) (T : Str) (b : Int) (ds : List (Str × Int × Int)) (news : List (Addr × Obj)) (s₀ : Shared) (rest : List (Str × Int × Int)) (s : Shared) : Prop :=
  ∃ (a : Int) (done : List (Str × Int × Int)) (h : Heap) (tk : Nat) (t tT : Tok) (u : Str → Option Value) (items : List Value) (n : Nat) (tl : List (Addr × Obj)), s = { s₀ with heap := h, toks := tk } ∧ done ++ rest = ds ∧ ((done.length : Int) ≤ a ∧ a ≤ (T.length : Int)) ∧ 0 ≤ a ∧ Parse T a rest b ∧
    Fr g L h (fun y => if y = Str.ofString "found" then some (.ref l) else if y = Str.ofString "at" then some (.int a t) else if y = Str.ofString "text" then some (.str T tT) else u y) ∧
    News g L h ((l, listOf items.toArray n) :: (tl ++ news)) ∧ (∀ p ∈ tl ++ news, p.1 ≠ l) ∧ SignsIn tl items done
theorem fr_as {g h : Heap} {L l : Addr} {m : Str → Option Value} {a : Int} {t tT : Tok} {T : Str} (F : Fr g L h m) (h1 : m (Str.ofString "found") = some (.ref l)) (h2 : m (Str.ofString "at") = some (.int a t)) (h3 : m (Str.ofString "text") = some (.str T tT)) :
  Fr g L h (fun y => if y = Str.ofString "found" then some (.ref l) else if y = Str.ofString "at" then some (.int a t) else if y = Str.ofString "text" then some (.str T tT) else m y) := by
  have e : (fun y => if y = Str.ofString "found" then some (.ref l) else if y = Str.ofString "at" then some (.int a t) else if y = Str.ofString "text" then some (.str T tT) else m y) = m := by
    funext y
    split
    · rename_i q; rw [q, h1]
    · split
      · rename_i q; rw [q, h2]
      · split
        · rename_i q; rw [q, h3]
        · rfl
  rw [e]; exact F
local macro_rules | `(tactic| walk_at "leaving ref") => `(tactic| (k_here; (refine' leave_fault_on ?loK ?loF ?loR ?loU ?_; (case loR => assumption); (case loK => assumption); (case loF => assumption); (case loU => assumption)); intro h' R' U'))
local macro_rules | `(tactic| walk_at "exec While Compare") => `(tactic| (k_here; k_dflt (refine loop_start ?_)))
local macro_rules | `(tactic| walk_at "call ref") => `(tactic| (k_here; (with_reducible show wpAny _ _ (call (Value.ref 97) [Value.str _ _, Value.int _ _]) _ _ _); k_dflt (refine' sign_ok (At.mk ?aB ?aF ?aX ?aN ?aT rfl ?a1 ?a2 ?a3 ?a4) ?so0 ?so1 ?soT ?soS ?_; (case aF => k_asm); (case aN => k_asm); (case aB => k_asm); (case aX => k_asm); (case aT => k_asm); (case a1 => (simp only [recursionLimit, kt_depth, depth_deeper]; omega)); (case a2 => (simp only [cLine, kt_units, units_deeper]; omega)); (case a3 => (simp only [kt_depth, depth_deeper]; omega)); (case a4 => (simp only [kt_units, units_deeper]; omega)); (case so0 => omega); (case so1 => omega); (case soT => assumption); (case soS => first | exact Turn.sn (by assumption) | assumption)); intro t' h' tk' F' N'))
local macro_rules | `(tactic| walk_at "call ref") => `(tactic| (k_here; (with_reducible show wpAny _ _ (call (Value.ref 97) [Value.str _ _, Value.int _ _]) _ _ _); k_dflt (refine' sign_bad (At.mk ?aB ?aF ?aX ?aN ?aT rfl ?a1 ?a2 ?a3 ?a4) ?so0 ?so1 ?soT ?soS ?_; (case soS => assumption); (case aF => k_asm); (case aN => k_asm); (case aB => k_asm); (case aX => k_asm); (case aT => k_asm); (case a1 => (simp only [recursionLimit, kt_depth, depth_deeper]; omega)); (case a2 => (simp only [cLine, kt_units, units_deeper]; omega)); (case a3 => (simp only [kt_depth, depth_deeper]; omega)); (case a4 => (simp only [kt_units, units_deeper]; omega)); (case so0 => omega); (case so1 => omega); (case soT => assumption)); unfold Faults; intro e' h' g' tk' F' R' U'))
local macro_rules | `(tactic| walk_at "call ref") => `(tactic| (k_here; (with_reducible show wpAny _ _ (call (Value.ref 102) [Value.str _ _, Value.int _ _]) _ _ _); k_dflt (refine' count_ok (At.mk ?aB ?aF ?aX ?aN ?aT rfl ?a1 ?a2 ?a3 ?a4) ?so0 ?so1 ?soT ?soO ?soS ?_; (case soS => first | exact Turn.ct (by assumption) | assumption); (case aF => k_asm); (case aN => k_asm); (case aB => k_asm); (case aX => k_asm); (case aT => k_asm); (case a1 => (simp only [recursionLimit, kt_depth, depth_deeper]; omega)); (case a2 => (simp only [cLine, kt_units, units_deeper]; omega)); (case a3 => (simp only [kt_depth, depth_deeper]; omega)); (case a4 => (simp only [kt_units, units_deeper]; omega)); (case so0 => omega); (case so1 => omega); (case soT => assumption); (case soO => assumption)); intro D' t1' t2' h' tk' F' N' l'; (try k_lt l')))
local macro_rules | `(tactic| walk_at "call ref") => `(tactic| (k_here; (with_reducible show wpAny _ _ (call (Value.ref 102) [Value.str _ _, Value.int _ _]) _ _ _); k_dflt (refine' count_bad (At.mk ?aB ?aF ?aX ?aN ?aT rfl ?a1 ?a2 ?a3 ?a4) ?so0 ?so1 ?soT ?soO ?soS ?_; (case soS => assumption); (case aF => k_asm); (case aN => k_asm); (case aB => k_asm); (case aX => k_asm); (case aT => k_asm); (case a1 => (simp only [recursionLimit, kt_depth, depth_deeper]; omega)); (case a2 => (simp only [cLine, kt_units, units_deeper]; omega)); (case a3 => (simp only [kt_depth, depth_deeper]; omega)); (case a4 => (simp only [kt_units, units_deeper]; omega)); (case so0 => omega); (case so1 => omega); (case soT => assumption); (case soO => assumption)); unfold Faults; intro e' h' g' tk' F' R' U'))
local macro_rules | `(tactic| walk_at "WhlIf") => `(tactic| first | (refine' WhlIf.yes (decide_eq_true ?wi) ?_; (case wi => first | assumption | omega)) | (refine' WhlIf.no (decide_eq_false ?wi) ?_; (case wi => omega)))
theorem neAll_of {d : Addr} {l : List (Addr × Obj)} (h : AllLt d l) : ∀ p ∈ l, p.1 ≠ d := fun p hp => Nat.ne_of_lt (allLt_back h p hp)
theorem alone_no {T : Str} {a n e : Int} {sg : Str} {P : Prop} (ht : Turn T a sg n e) (h : a + (sg.length : Int) < e) (hs : isAlone sg = true) : P := by rw [ht.al h] at hs; cases hs
theorem alone_no' {sg : Str} {P : Prop} (h : isAlone sg = true) (hs : isAlone sg = false) : P := by rw [h] at hs; cases hs
local macro_rules | `(tactic| walk_at "call builtin:list.append") => `(tactic| (k_here; (with_reducible show wpAny _ _ (call (Value.builtin _) [Value.ref _, _]) _ _ _); k_dflt (refine' append_K ?k1 ?k2 ?k3 ?_ ?z; (case k1 => k_asm); (case k2 => k_asm); (case k3 => k_upd); (case z => (simp only [List.size_toArray, sizeLine]; omega)); k_whole); intro h' F' N'; (try k_sweep)))
local macro_rules | `(tactic| k_room) => `(tactic| ((simp only [recursionLimit, kt_depth, depth_under_make, depth_under_kw, depth_in1, depth_deeper]); omega))
local macro_rules | `(tactic| k_all) => `(tactic| first | assumption | exact neAll_of (by assumption) | fail "none")
local macro_rules | `(tactic| walk_at "call ref") => `(tactic| (k_here; (with_reducible show wpAny _ _ (call (Value.ref 86) _ _) _ _ _); exact alone_no' (by assumption) (by assumption)))
theorem sg_start {g h : Heap} {L l D : Addr} {m : Str → Option Value} {T : Str} {t tT : Tok} {o : Obj} {news : List (Addr × Obj)} {b : Int} {ds : List (Str × Int × Int)} {s₀ : Shared} {tk : Nat} (F : Fr g L h m) (N : News g L h ((D, o) :: (l, listOf #[] 0) :: news)) (hne : ∀ p ∈ news, p.1 < l) (hp : Parse T 0 ds b)
  (h1 : m (Str.ofString "found") = some (.ref l)) (h2 : m (Str.ofString "at") = some (.int 0 t)) (h3 : m (Str.ofString "text") = some (.str T tT)) : SgInv g L l T b ds news s₀ ds { s₀ with heap := h, toks := tk } :=
  ⟨0, [], h, tk, t, tT, m, [], 0, [], rfl, rfl, ⟨by simp, by omega⟩, by omega, hp, fr_as F h1 h2 h3, fun p hp => N p (.tail _ hp), fun p hp => Nat.ne_of_lt (hne p hp), .nil⟩
theorem sg_next {g h : Heap} {L l x dx : Addr} {m : Str → Option Value} {T : Str} {t tT : Tok} {news tl all : List (Addr × Obj)} {a b n' e : Int} {sg : Str} {ds done r : List (Str × Int × Int)} {s₀ : Shared} {tk n : Nat} {items : List Value}
  {u1 u2 u3 : Int} {k1 k2 k3 : Tok} {t1 t2 t3 : Tok} {en : Nat}
  (F : Fr g L h m) (N : News g L h all) (h1 : m (Str.ofString "found") = some (.ref l)) (h2 : m (Str.ofString "at") = some (.int e t)) (h3 : m (Str.ofString "text") = some (.str T tT))
  (x1 : (x, instObj 86 dx) ∈ all) (x2 : (dx, signDict u1 u2 u3 k1 k2 k3 sg n' a t1 t2 t3 en) ∈ all) (x3 : (l, listOf (items.toArray.push (.ref x)) n) ∈ all) (x4 : ∀ p ∈ tl ++ news, p ∈ all)
  (y1 : x ≠ l) (y2 : dx ≠ l) (hne : ∀ p ∈ tl ++ news, p.1 ≠ l) (hsg : SignsIn tl items done) (hd : done ++ (sg, n', a) :: r = ds) (hd1 : (done.length : Int) ≤ a) (ht : Turn T a sg n' e) (hr : Parse T e r b) :
  ∃ j : List (Str × Int × Int), j.length < ((sg, n', a) :: r).length ∧ SgInv g L l T b ds news s₀ j { s₀ with heap := h, toks := tk } := by
  refine ⟨r, Nat.lt_succ_self _, e, done ++ [(sg, n', a)], h, tk, t, tT, m, items ++ [.ref x], n, (x, instObj 86 dx) :: (dx, signDict u1 u2 u3 k1 k2 k3 sg n' a t1 t2 t3 en) :: tl, rfl, ?_, ⟨?_, ht.hi⟩, ?_, hr, fr_as F h1 h2 h3, ?_, ?_, ?_⟩
  · rw [← hd]; simp
  · have := ht.up; simp; omega
  · have := ht.up; have := ht.lo; omega
  · intro p hp
    rcases List.mem_cons.mp hp with rfl | hp
    · have z := N _ x3; simpa using z
    · rcases List.mem_cons.mp hp with rfl | hp
      · exact N _ x1
      · rcases List.mem_cons.mp hp with rfl | hp
        · exact N _ x2
        · exact N _ (x4 _ hp)
  · intro p hp
    rcases List.mem_cons.mp hp with rfl | hp
    · exact y1
    · rcases List.mem_cons.mp hp with rfl | hp
      · exact y2
      · exact hne _ hp
  · exact .snoc (hsg.mono fun p hp => .tail _ (.tail _ hp)) (.head _) (.tail _ (.head _))
theorem signs_of_c {w : World} {mean : ExcName → Option Value} {mg mb : Str → Option Value} {T : Str} {tT : Tok} {news : List (Addr × Obj)}
  {dp un : Nat} {gd : Option (List Code)} {cn : Str} {cs : Scope} {ca : Addr} {ccd : Value} {cl : List (Str × Addr)} {outer : List Env} {A₀ : Around} {base h₀ : Heap} {L : Addr} {m : Str → Option Value} {s : Shared} {Q E : Value → Shared → Prop}
  (C : At w mean mg mb dp un cs outer A₀ base h₀ L m news s) (hdp3 : dp ≤ 305) (hun3 : un ≤ 2000) (hT : T.length ≤ 1000000) (hok : Small T) {b : Int} {ds : List (Str × Int × Int)} (hp : Parse T 0 ds b)
  (hb : b = (T.length : Int) ∨ (b < (T.length : Int) ∧ ∃ idx, BadAt T b idx ∧ Faults base h₀ (envX cn cs L ca ccd cl :: outer) L m news s idx E))
  (q : b = (T.length : Int) → ∀ l h' tk' items n tl, Fr h₀ L h' m → News h₀ L h' ((l, listOf items.toArray n) :: (tl ++ news)) → (∀ p ∈ tl ++ news, p.1 ≠ l) → SignsIn tl items ds → Q (.ref l) { s with heap := h', toks := tk' }) :
  wpAny (model Challenge.rw_pb0222_01.row.prog w) (ktrTop dp un gd cn cs L ca ccd cl outer) (call (.ref 109) [.str T tT]) Q E s := by
  obtain ⟨B, F, X, N, Tp, hk, hdp, hun, hdp2, hun2⟩ := C
  revert X
  k_fill
  intro X
  refine wpAny_call ?_
  k_dflt cell_enter
  k_steps
  rename News _ _ _ _ => N9
  rename Fr _ _ _ _ => F9
  refine loop_ind (fun r : List (Str × Int × Int) => r.length) _ (by passes_own) ?_ ds (sg_start (s₀ := s) (T := T) (tT := tT) F9 N9 (by assumption) hp rfl rfl rfl)
  clear F9 N9
  rintro rest s₁ ⟨a, done, h, tk, t, tT', u, items, n, tl, rfl, hd, ⟨hd1, hd2⟩, h0, hpr, F1, N1, hne, hsg⟩
  have hil : items.length ≤ 1000000 := by have z := hsg.length; omega
  cases hpr with
  | nil =>
    rcases hb with rfl | ⟨hlt, idx, hbad, q2⟩
    · k_steps
      exact q rfl _ _ _ _ _ _ (by k_asm) (by k_asm) (by assumption) (by simp only [List.append_nil] at hd; rw [← hd]; assumption)
    · cases hbad
      · k_steps
        exact q2 _ _ _ _ (by assumption) (RaisedF.sub (by assumption) fun p hp => .tail _ (List.mem_append.mpr (.inr hp))) (by assumption)
      · k_steps
        exact q2 _ _ _ _ (by assumption) (RaisedF.sub (by assumption) fun p hp => .tail _ (List.mem_append.mpr (.inr hp))) (by assumption)
      · k_steps
        · exact q2 _ _ _ _ (by assumption) (RaisedF.sub (by assumption) fun p hp => .tail _ (.tail _ (.tail _ (List.mem_append.mpr (.inr hp))))) (by assumption)
        · exact alone_no' (by assumption) (by assumption)
  | cons ht hr =>
    have e1 := ht.lt
    have e2 := ht.ln
    have e3 := ht.sl
    have e4 := ht.hi
    have e5 := ht.up
    k_steps
    · exact alone_no ht (by assumption) (by assumption)
    · exact sg_next (by k_asm) (by k_asm) rfl rfl rfl (by k_mem) (by k_mem) (by k_mem) (fun p hp => .tail _ (.tail _ (.tail _ (.tail _ (.tail _ hp))))) (by k_ne) (by k_ne) hne hsg hd hd1 ht hr
    · exact sg_next (by k_asm) (by k_asm) rfl rfl rfl (by k_mem) (by k_mem) (by k_mem) (fun p hp => .tail _ (.tail _ (.tail _ (.tail _ hp)))) (by k_ne) (by k_ne) hne hsg hd hd1 ht hr
end Mine
end

section
open PySem PySem.W PyProof.Rows PySem.Spec PySem.Calls
set_option Elab.async false
set_option maxRecDepth 100000
set_option maxHeartbeats 8000000
set_option linter.all false
set_option compiler.extract_closed false
namespace Mine
section
variable {prog : Program} {w : World} {A : Around} {E : Value → Shared → Prop} {s : Shared} {env : Env} {h₀ : Heap} {target : PySem.Expr} {body : List Stmt} {Q : Flow → Shared → Prop}
/-- what a turn's end owes, in a for over a list -/
noncomputable def ListPost (h₀ : Heap) (L : Addr) (s₁ : Shared) (p : Addr × Obj) (keep : List (Addr × Obj)) (J : (Str → Option Value) → List (Addr × Obj) → Prop) (Q : Flow → Shared → Prop) (f : Flow) (s₂ : Shared) : Prop :=
  UnrPostW h₀ L s₁ [p] (fun m' n' => SubL keep n' ∧ J m' n') Q f s₂
theorem ListPost.next {L : Addr} {s₁ : Shared} {p : Addr × Obj} {keep : List (Addr × Obj)} {J : (Str → Option Value) → List (Addr × Obj) → Prop} {h' : Heap} {tk : Nat} {m' : Str → Option Value} {news' : List (Addr × Obj)}
    (F : Fr h₀ L h' m') (N : News h₀ L h' (p :: news')) (hne : ∀ q ∈ news', @Ne Nat q.1 p.1) (hk : SubL keep news') (hj : J m' news') : ListPost h₀ L s₁ p keep J Q .next { s₁ with heap := h', toks := tk } :=
  ⟨h', tk, m', news', rfl, F, N, fun q hq r hr => by rw [List.mem_singleton.mp hr]; exact hne q hq, hk, hj⟩
theorem ListPost.cont {L : Addr} {s₁ : Shared} {p : Addr × Obj} {keep : List (Addr × Obj)} {J : (Str → Option Value) → List (Addr × Obj) → Prop} {h' : Heap} {tk : Nat} {m' : Str → Option Value} {news' : List (Addr × Obj)}
    (F : Fr h₀ L h' m') (N : News h₀ L h' (p :: news')) (hne : ∀ q ∈ news', @Ne Nat q.1 p.1) (hk : SubL keep news') (hj : J m' news') : ListPost h₀ L s₁ p keep J Q .cont { s₁ with heap := h', toks := tk } :=
  ⟨h', tk, m', news', rfl, F, N, fun q hq r hr => by rw [List.mem_singleton.mp hr]; exact hne q hq, hk, hj⟩
theorem items_ind {I : Addr} {c : String} {keep : List (Addr × Obj)} (Inv : List Value → (Str → Option Value) → List (Addr × Obj) → Prop)
    (step : ∀ v r m news h tk o, o.cls = .type c → Inv (v :: r) m news → Fr h₀ env.locals h m → News h₀ env.locals h ((I, o) :: news) →
      wpAny (model prog w) A (assign target env v) (fun _ s₂ => wpAny (model prog w) A (execs body env) (ListPost h₀ env.locals { s with heap := h, toks := tk } (I, o) keep (Inv r) Q) E s₂) E { s with heap := h, toks := tk })
    (fin : ∀ m news h tk, Inv [] m news → Fr h₀ env.locals h m → News h₀ env.locals h news → Q .next { s with heap := h, toks := tk }) :
    ∀ (vs : List Value) (m : Str → Option Value) (news : List (Addr × Obj)), Inv vs m news → ItemsRest prog w A E h₀ env target body Q s [(I, c)] keep (vs.map .val) m news := by
  intro vs
  induction vs with
  | nil => intro m news hi h tk F N; exact fin m news h tk hi F N
  | cons v r ih =>
    intro m news hi
    refine ItemsRest.val fun h tk F => AllObj.cons fun o hc => AllObj.nil fun N => ?_
    refine wpAny_mono (step v r m news h tk o hc hi F N) (fun _ s₂ x => wpAny_mono x (fun f s₃ p => ?_) fun _ _ e => e) fun _ _ e => e
    cases f with
    | ret v => exact p
    | brk => exact p
    | next =>
      obtain ⟨h', tk', m', n', e1, F', N', a, k, j⟩ := p
      exact ⟨h', tk', m', n', e1, F', N', a, k, ih m' n' j⟩
    | cont =>
      obtain ⟨h', tk', m', n', e1, F', N', a, k, j⟩ := p
      exact ⟨h', tk', m', n', e1, F', N', a, k, ih m' n' j⟩
end
section
variable {prog : Program} {w : World} {A : Around} {E : Value → Shared → Prop} {s : Shared} {h₀ : Heap} {L l : Addr} {m : Str → Option Value} {news news' : List (Addr × Obj)} {ys : List Value} {v v' : Value} {n : Nat} {u : Tok}
theorem setL_last : ∀ (ys : List Value) (v v' : Value), ki_setL (ys ++ [v]) ys.length v' = some (ys ++ [v'])
  | [], _, _ => rfl
  | y :: ys, v, v' => by
    show (match ki_setL (ys ++ [v]) ys.length v' with | some q => some (y :: q) | none => none) = _
    rw [setL_last ys v v']; rfl
theorem place_last (k : Nat) : seqIndex? (-1) (k + 1) = some k := by
  rw [PySem.seqIndex_neg (by omega) (by omega)]
  congr 1
  omega
theorem last_get {value slice : PySem.Expr} {Q : Value → Shared → Prop} (N : News h₀ L s.heap news) (hm : (l, listOf (ys ++ [v]).toArray n) ∈ news) (h : Q v s)
    (hs : subscripted slice false (.ref l) (.int (-1) u) = operate [.ref l, .int (-1) u] (getItem (.ref l) (.int (-1) u)) := by with_unfolding_all rfl) :
    wpAny (model prog w) A (subscriptTail value slice (.ref l) (.int (-1) u)) Q E s :=
  kde_neg (j := ys.length) (PySem.IsL.isList (n := n) (N _ hm).1) (by omega) (by omega) (by rw [List.length_append]; exact place_last _) (by simp) h hs
theorem last_set {Q : Unit → Shared → Prop} (F : Fr h₀ L s.heap m) (N : News h₀ L s.heap news) (U : Upd l (listOf (ys ++ [v]).toArray n) (listOf (ys ++ [v']).toArray n) news news')
    (h : ∀ h', Fr h₀ L h' m → News h₀ L h' news' → Q () { s with heap := h' }) : wpAny (model prog w) A (setItem (.ref l) (.int (-1) u) v') Q E s :=
  ki_setNeg (j := ys.length) F N (by omega) (by omega) (by rw [List.size_toArray, List.length_append]; exact place_last _) (setL_last ys v v') U h
theorem ne_nil_nil {a b : Addr} {ka kb : Nat} {Q : Value → Shared → Prop} (N : News h₀ L s.heap news) (ma : (a, listOf ([] : List Value).toArray ka) ∈ news) (mb : (b, listOf ([] : List Value).toArray kb) ∈ news) (hu : A.units + 64 < cLine) (h : Q (.bool false) s) :
    wpAny (model prog w) A (compareOp .NotEq (.ref a) (.ref b)) Q E s :=
  kqd_ne N ma rfl rfl (n₁ := []) (.nil) (List.forall_mem_nil _) mb rfl rfl (n₂ := []) (.nil) (List.forall_mem_nil _) (List.forall_mem_nil _) (List.forall_mem_nil _) hu h
theorem ne_nil_snoc {a b : Addr} {ka kb : Nat} {ds : List Dat} {d : Dat} {tl : List (Addr × Obj)} {vs : List Value} {Q : Value → Shared → Prop} (N : News h₀ L s.heap news) (ma : (a, listOf vs.toArray ka) ∈ news) (mb : (b, listOf ([] : List Value).toArray kb) ∈ news) (hu : A.units + 64 < cLine)
    (D : DatAll tl vs (ds ++ [d])) (ht : ∀ p ∈ tl, p ∈ news) (hk : ∀ e ∈ ds ++ [d], kqdOk 8 e = true) (h : Q (.bool true) s) :
    wpAny (model prog w) A (compareOp .NotEq (.ref a) (.ref b)) Q E s :=
  kqd_ne N ma rfl rfl D ht mb rfl rfl (n₂ := []) (.nil) (List.forall_mem_nil _) hk (List.forall_mem_nil _) hu (by rw [decide_eq_false (by simp)]; exact h)
end
/-- the Sign that a value is -/
noncomputable def IsSign (news : List (Addr × Obj)) (v : Value) (d : Str × Int × Int) : Prop := ∃ (x dx : Addr) (u1 u2 u3 : Int) (k1 k2 k3 t1 t2 t3 : Tok) (e : Nat), v = .ref x ∧ (x, instObj 86 dx) ∈ news ∧ (dx, signDict u1 u2 u3 k1 k2 k3 d.1 d.2.1 d.2.2 t1 t2 t3 e) ∈ news
inductive Signs (news : List (Addr × Obj)) : List Value → List (Str × Int × Int) → Prop
  | nil : Signs news [] []
  | cons {v : Value} {d : Str × Int × Int} {vs : List Value} {ds : List (Str × Int × Int)} : IsSign news v d → Signs news vs ds → Signs news (v :: vs) (d :: ds)
theorem Signs.snoc {news : List (Addr × Obj)} {v : Value} {d : Str × Int × Int} (hd : IsSign news v d) : ∀ {vs : List Value} {ds : List (Str × Int × Int)}, Signs news vs ds → Signs news (vs ++ [v]) (ds ++ [d])
  | _, _, .nil => .cons hd .nil
  | _, _, .cons h r => .cons h (Signs.snoc hd r)
theorem SignsIn.all {news : List (Addr × Obj)} {vs : List Value} {ds : List (Str × Int × Int)} (h : SignsIn news vs ds) : Signs news vs ds := by
  induction h with
  | nil => exact .nil
  | snoc _ h1 h2 ih => exact ih.snoc ⟨_, _, _, _, _, _, _, _, _, _, _, _, rfl, h1, h2⟩
theorem IsSign.mono {news news' : List (Addr × Obj)} (hs : ∀ p ∈ news, p ∈ news') {v : Value} {d : Str × Int × Int} : IsSign news v d → IsSign news' v d := by
  rintro ⟨x, dx, u1, u2, u3, k1, k2, k3, t1, t2, t3, e, hv, h1, h2⟩
  exact ⟨x, dx, u1, u2, u3, k1, k2, k3, t1, t2, t3, e, hv, hs _ h1, hs _ h2⟩
theorem Signs.mono {news news' : List (Addr × Obj)} (hs : ∀ p ∈ news, p ∈ news') : ∀ {vs : List Value} {ds : List (Str × Int × Int)}, Signs news vs ds → Signs news' vs ds
  | _, _, .nil => .nil
  | _, _, .cons h r => .cons (h.mono hs) (Signs.mono hs r)
theorem Signs.length {news : List (Addr × Obj)} : ∀ {vs : List Value} {ds : List (Str × Int × Int)}, Signs news vs ds → vs.length = ds.length
  | _, _, .nil => rfl
  | _, _, .cons _ r => by rw [List.length_cons, List.length_cons, Signs.length r]
/-- one symbol more -/
noncomputable def addSym (ss : List (Str × Int)) (p : Str × Int) : List (Str × Int) := match ss.getLast? with
  | none => [p]
  | some q => if q.1 = p.1 then ss.dropLast ++ [(p.1, q.2 + p.2)] else ss ++ [p]
theorem addSym_nil (p : Str × Int) : addSym [] p = [p] := rfl
theorem addSym_same {ss : List (Str × Int)} {q p : Str × Int} (h : q.1 = p.1) : addSym (ss ++ [q]) p = ss ++ [(p.1, q.2 + p.2)] := by simp [addSym, h]
theorem addSym_other {ss : List (Str × Int)} {q p : Str × Int} (h : q.1 ≠ p.1) : addSym (ss ++ [q]) p = (ss ++ [q]) ++ [p] := by simp [addSym, h]
noncomputable def symsOf (l : List (Str × Int)) : List (Str × Int) := l.foldl addSym []
noncomputable def symDat (p : Str × Int) : Dat := .tuple [.str p.1, .int p.2]
theorem addSym_ok {P : Str → Prop} {ss : List (Str × Int)} {p : Str × Int} (h : ∀ q ∈ ss, P q.1) (hp : P p.1) : ∀ q ∈ addSym ss p, P q.1 := by
  intro q hq
  unfold addSym at hq
  split at hq
  · rw [List.mem_singleton.mp hq]; exact hp
  · split at hq
    · rcases List.mem_append.mp hq with hq | hq
      · exact h q (List.dropLast_subset _ hq)
      · rw [List.mem_singleton.mp hq]; exact hp
    · rcases List.mem_append.mp hq with hq | hq
      · exact h q hq
      · rw [List.mem_singleton.mp hq]; exact hp
theorem symDat_ok {ss : List (Str × Int)} (h : ∀ q ∈ ss, PyData.strOk q.1 = true) : ∀ e ∈ ss.map symDat, kqdOk 8 e = true := by
  intro e he
  obtain ⟨q, hq, rfl⟩ := List.mem_map.mp he
  unfold symDat kqdOk
  simp [kqdOk, h q hq]
theorem addSym_len (ss : List (Str × Int)) (p : Str × Int) : (addSym ss p).length ≤ ss.length + 1 := by
  unfold addSym
  split
  · simp
  · split <;> simp
theorem dat_str {src : List (Addr × Obj)} {v : Value} {x : Str} (h : DatIn src v (.str x)) : ∃ t, v = .str x t := by cases h; exact ⟨_, rfl⟩
theorem dat_int {src : List (Addr × Obj)} {v : Value} {x : Int} (h : DatIn src v (.int x)) : ∃ t, v = .int x t := by cases h; exact ⟨_, rfl⟩
theorem dat_cons {src : List (Addr × Obj)} {vs : List Value} {d : Dat} {ds : List Dat} (h : DatAll src vs (d :: ds)) : ∃ v r, vs = v :: r ∧ DatIn src v d ∧ DatAll src r ds := by
  cases h with
  | cons a b => exact ⟨_, _, rfl, a, b⟩
theorem dat_nil {src : List (Addr × Obj)} {vs : List Value} (h : DatAll src vs []) : vs = [] := by cases h; rfl
theorem dat_tup {src : List (Addr × Obj)} {v : Value} {ds : List Dat} (h : DatIn src v (.tuple ds)) : ∃ t vs n, v = .ref t ∧ DatAll src vs ds ∧ (t, ({ cls := .type "tuple", data := .seq vs.toArray n } : Obj)) ∈ src := by
  cases h with
  | tuple hm hv => exact ⟨_, _, _, rfl, hv, hm⟩
theorem dat_two {src : List (Addr × Obj)} {v : Value} {x : Str} {i : Int} (h : DatIn src v (.tuple [.str x, .int i])) : ∃ t n ta tb, v = .ref t ∧ (t, ({ cls := .type "tuple", data := .seq [Value.str x ta, .int i tb].toArray n } : Obj)) ∈ src := by
  obtain ⟨t, vs, n, rfl, hv, hm⟩ := dat_tup h
  obtain ⟨_, r1, rfl, a1, hv1⟩ := dat_cons hv
  obtain ⟨ta, rfl⟩ := dat_str a1
  obtain ⟨_, r2, rfl, a2, hv2⟩ := dat_cons hv1
  obtain ⟨tb, rfl⟩ := dat_int a2
  obtain rfl := dat_nil hv2
  exact ⟨t, n, ta, tb, rfl, hm⟩
end Mine
end

section
open PySem PySem.W PyProof.Rows PySem.Spec PySem.Calls
set_option Elab.async false
set_option maxRecDepth 100000
set_option maxHeartbeats 8000000
set_option linter.all false
set_option compiler.extract_closed false
namespace Mine
local macro_rules | `(tactic| walk_at "tl_mem") => `(tactic| (intro p hp; (repeat (first | exact hp | exact List.mem_append_left _ hp | exact List.mem_append_right _ hp | refine List.Mem.tail _ ?_))))
theorem news_ext2 {h₀ h : Heap} {L : Addr} {a b p q : Addr × Obj} {r : List (Addr × Obj)} (N : News h₀ L h (a :: b :: r)) (hp : p ∈ r) (hq : q ∈ r) : News h₀ L h (a :: b :: p :: q :: r) := by
  intro z hz
  simp only [List.mem_cons] at hz
  rcases hz with rfl | rfl | rfl | rfl | hz
  · exact N _ (.head _)
  · exact N _ (.tail _ (.head _))
  · exact N _ (.tail _ (.tail _ hp))
  · exact N _ (.tail _ (.tail _ hq))
  · exact N _ (.tail _ (.tail _ hz))
theorem news_ext3 {h₀ h : Heap} {L : Addr} {a b p q t : Addr × Obj} {r : List (Addr × Obj)} (N : News h₀ L h (a :: b :: r)) (ht : t ∈ r) (hp : p ∈ r) (hq : q ∈ r) : News h₀ L h (a :: b :: t :: p :: q :: r) := by
  intro z hz
  simp only [List.mem_cons] at hz
  rcases hz with rfl | rfl | rfl | rfl | rfl | hz
  · exact N _ (.head _)
  · exact N _ (.tail _ (.head _))
  · exact N _ (.tail _ (.tail _ ht))
  · exact N _ (.tail _ (.tail _ hp))
  · exact N _ (.tail _ (.tail _ hq))
  · exact N _ (.tail _ (.tail _ hz))
theorem m_as2 {m : Str → Option Value} {a b : Str} {v v' : Value} (h1 : m a = some v) (h2 : m b = some v') : m = (fun y => if y = a then some v else if y = b then some v' else m y) := by
  funext y
  split
  · rename_i q; rw [q, h1]
  · split
    · rename_i q; rw [q, h2]
    · rfl
local macro_rules | `(tactic| k_all) => `(tactic| first | assumption | exact neAll_of (by assumption) | fail "none")
local macro_rules | `(tactic| walk_at "call builtin:list.append") => `(tactic| (k_here; (with_reducible show wpAny _ _ (call (Value.builtin _) [Value.ref _, _]) _ _ _); k_dflt (refine' append_K ?k1 ?k2 ?k3 ?_ ?z; (case k1 => k_asm); (case k2 => k_asm); (case k3 => k_upd); (case z => (simp only [List.size_toArray, sizeLine, List.length_append, List.length_cons, List.length_nil]; omega)); k_whole); intro h' F' N'; (try k_sweep)))
local macro_rules | `(tactic| walk_at "exec For Name Name cons nil") => `(tactic| (k_here; (rename Fr _ _ _ _ => lF'); (with_unfolding_all refine' For_turns lF' ?_; k_whole)))
local macro_rules | `(tactic| walk_at "pyIter ref") => `(tactic| (k_here; (with_reducible show wpAny _ _ (pyIter (Value.ref _)) (fun it s₂ => TurnsAt _ _ _ _ _ _ _ _ _ it s₂) _ _); k_dflt (refine' iter_listTurns ?ih ?iF ?iN ?im ?ic ?id ?_; (case ih => rfl); (case iF => k_asm); (case iN => k_asm); (case im => first | assumption | exact List.mem_cons_of_mem _ (by assumption)); (case ic => rfl); (case id => rfl)); intro I' hI'; (try k_lt hI')))
local macro_rules | `(tactic| walk_at "compareOp NotEq ref ref") => `(tactic| (k_here; (with_reducible show wpAny _ _ (compareOp CmpOp.NotEq (Value.ref _) (Value.ref _)) _ _ _); k_dflt (refine' ne_nil_nil ?qN ?qa ?qf ?qn ?_; (case qN => k_asm); (case qf => exact List.Mem.head _); (case qa => k_mem); (case qn => (simp only [units_deeper, units_in1, kt_units, cLine]; omega)); k_whole)))
local macro_rules | `(tactic| walk_at "compareOp NotEq ref ref") => `(tactic| (k_here; (with_reducible show wpAny _ _ (compareOp CmpOp.NotEq (Value.ref _) (Value.ref _)) _ _ _); k_dflt (refine' ne_nil_snoc ?qN ?qa ?qf ?qn ?qd ?qt ?qk ?_; (case qN => k_asm); (case qd => assumption); (case qf => exact List.Mem.head _); (case qa => k_mem); (case qt => walk_at "tl_mem"); (case qk => assumption); (case qn => (simp only [units_deeper, units_in1, kt_units, cLine]; omega)); k_whole)))
local macro_rules | `(tactic| walk_at "subscriptTail Name UnaryOp ref int") => `(tactic| (k_here; (with_reducible show wpAny _ _ (subscriptTail _ _ (Value.ref _) (Value.int _ _)) _ _ _); k_dflt (refine' last_get ?lN ?lm ?_ ?ls; (case lN => k_asm); (case lm => k_mem); (case ls => with_unfolding_all rfl); k_whole)))
local macro_rules | `(tactic| walk_at "setItem ref int") => `(tactic| (k_here; k_dflt (refine' last_set ?sF ?sN ?sU ?_; (case sF => k_asm); (case sN => k_asm); (case sU => k_upd); k_whole); intro h' F' N'; (try k_sweep)))
/-- symbols_of, at a turn's start -/
noncomputable def SyInv (D I : Addr) (l : Addr) (src : List (Addr × Obj)) (ds : List (Str × Int × Int)) (rest : List Value) (m : Str → Option Value) (news₁ : List (Addr × Obj)) : Prop :=
  ∃ (u : Str → Option Value) (done r : List (Str × Int × Int)) (items : List Value) (n : Nat) (tl : List (Addr × Obj)), done ++ r = ds ∧ Signs src rest r ∧
    m = (fun y => if y = Str.ofString "found" then some (.ref D) else if y = Str.ofString "signs" then some (.ref l) else u y) ∧
    news₁ = (D, listOf items.toArray n) :: (tl ++ src) ∧ (∀ p ∈ tl ++ src, p.1 ≠ D) ∧ (∀ p ∈ tl ++ src, p.1 ≠ I) ∧ D ≠ I ∧ DatAll tl items ((symsOf (done.map fun d => (d.1, d.2.1))).map symDat)
theorem symsOf_snoc (l : List (Str × Int)) (p : Str × Int) : symsOf (l ++ [p]) = addSym (symsOf l) p := by simp [symsOf]
theorem symsOf_ok {P : Str → Prop} (l : List (Str × Int)) (h : ∀ p ∈ l, P p.1) : ∀ q ∈ symsOf l, P q.1 := by
  have key : ∀ (l : List (Str × Int)) (ss : List (Str × Int)), (∀ p ∈ l, P p.1) → (∀ p ∈ ss, P p.1) → ∀ q ∈ l.foldl addSym ss, P q.1 := by
    intro l
    induction l with
    | nil => intro ss _ h; exact h
    | cons p l ih => intro ss h1 h2; exact ih _ (fun q hq => h1 q (.tail _ hq)) (addSym_ok h2 (h1 p (.head _)))
  exact key l [] h (fun _ hq => nomatch hq)
theorem symsOf_len (l : List (Str × Int)) : (symsOf l).length ≤ l.length := by
  have key : ∀ (l : List (Str × Int)) (ss : List (Str × Int)), (l.foldl addSym ss).length ≤ ss.length + l.length := by
    intro l
    induction l with
    | nil => intro ss; simp
    | cons p l ih =>
      intro ss
      have h1 := ih (addSym ss p)
      have h2 := addSym_len ss p
      show (l.foldl addSym (addSym ss p)).length ≤ _
      rw [List.length_cons]
      omega
  have h := key l []
  simp only [List.length_nil, Nat.zero_add] at h
  exact h
theorem sy_last {tl : List (Addr × Obj)} {items : List Value} {pre : List (Str × Int)} {q0 : Str × Int} (h : DatAll tl items (pre.map symDat ++ [q0].map symDat)) :
    ∃ ys t0 n0 ta tb, items = ys ++ [.ref t0] ∧ DatAll tl ys (pre.map symDat) ∧ (t0, ({ cls := .type "tuple", data := .seq [Value.str q0.1 ta, .int q0.2 tb].toArray n0 } : Obj)) ∈ tl := by
  have hlen := h.length
  rcases List.eq_nil_or_concat items with rfl | ⟨ys, v0, rfl⟩
  · simp at hlen
  · rw [List.concat_eq_append] at h ⊢
    obtain ⟨es, d, he, h1, h2⟩ := h.snoc
    obtain ⟨e1, e2⟩ := List.append_inj' he rfl
    subst e1
    cases e2
    obtain ⟨t0, n0, ta, tb, rfl, hm⟩ := dat_two h2
    exact ⟨ys, t0, n0, ta, tb, rfl, h1, hm⟩
theorem sy_next {g h : Heap} {L D I l t : Addr} {src tl all : List (Addr × Obj)} {ds done rr : List (Str × Int × Int)} {r : List Value} {m : Str → Option Value} {sg : Str} {cnt aa c : Int} {arr : Array Value} {items' : List Value} {n' n2 : Nat} {ta tb : Tok} {o lo : Obj} {s₁ : Shared} {tk : Nat} {Q : Flow → Shared → Prop}
  (F : Fr g L h m) (N : News g L h all) (h1 : m (Str.ofString "found") = some (.ref D)) (h2 : m (Str.ofString "signs") = some (.ref l)) (x1 : (I, o) ∈ all) (x2 : (D, listOf arr n') ∈ all) (x3 : (t, ({ cls := .type "tuple", data := .seq [Value.str sg ta, .int c tb].toArray n2 } : Obj)) ∈ all) (x4 : ∀ p ∈ tl ++ src, p ∈ all)
  (y1 : @Ne Nat t D) (y2 : @Ne Nat t I) (hne : ∀ p ∈ tl ++ src, p.1 ≠ D) (hneI : ∀ p ∈ tl ++ src, p.1 ≠ I) (hDI : D ≠ I) (hl : (l, lo) ∈ src) (hd : done ++ (sg, cnt, aa) :: rr = ds) (hr : Signs src r rr)
  (harr : arr = items'.toArray) {ss : List (Str × Int)} (hss : symsOf (done.map fun d => (d.1, d.2.1)) = ss)
  (hdat : DatAll ((t, ({ cls := .type "tuple", data := .seq [Value.str sg ta, .int c tb].toArray n2 } : Obj)) :: tl) items' ((addSym ss (sg, cnt)).map symDat)) :
  ListPost g L s₁ (I, o) [(l, lo)] (SyInv D I l src ds r) Q .next { s₁ with heap := h, toks := tk } := by
  subst harr
  refine ListPost.next F (news' := (D, listOf items'.toArray n') :: (((t, ({ cls := .type "tuple", data := .seq [Value.str sg ta, .int c tb].toArray n2 } : Obj)) :: tl) ++ src)) ?_ ?_ ⟨.tail _ (List.mem_append_right _ hl), trivial⟩ ?_
  · intro p hp
    rcases List.mem_cons.mp hp with rfl | hp
    · exact N _ x1
    · rcases List.mem_cons.mp hp with rfl | hp
      · exact N _ x2
      · rcases List.mem_cons.mp hp with rfl | hp
        · exact N _ x3
        · exact N _ (x4 _ hp)
  · intro p hp
    rcases List.mem_cons.mp hp with rfl | hp
    · exact hDI
    · rcases List.mem_cons.mp hp with rfl | hp
      · exact y2
      · exact hneI _ hp
  · refine ⟨m, done ++ [(sg, cnt, aa)], rr, items', n', _, by rw [← hd]; simp, hr, m_as2 h1 h2, rfl, ?_, ?_, hDI, ?_⟩
    · intro p hp
      rcases List.mem_cons.mp hp with rfl | hp
      · exact y1
      · exact hne _ hp
    · intro p hp
      rcases List.mem_cons.mp hp with rfl | hp
      · exact y2
      · exact hneI _ hp
    · rw [List.map_append]
      show DatAll _ _ ((symsOf (_ ++ [(sg, cnt)])).map symDat)
      rw [symsOf_snoc, hss]
      exact hdat
theorem sy_dat {tl : List (Addr × Obj)} {ys : List Value} {pre : List (Str × Int)} {sg : Str} {c : Int} {t : Addr} {n2 : Nat} {ta tb : Tok} (h : DatAll tl ys (pre.map symDat)) :
  DatAll ((t, ({ cls := .type "tuple", data := .seq [Value.str sg ta, .int c tb].toArray n2 } : Obj)) :: tl) (ys ++ [.ref t]) ((pre ++ [(sg, c)]).map symDat) := by
  rw [List.map_append]
  exact (h.mono fun p hp => .tail _ hp).append (.cons (.tuple (.head _) (.cons (.str _ _) (.cons (.int _ _) .nil))) .nil)
theorem symbols_of_c {w : World} {mean : ExcName → Option Value} {mg mb : Str → Option Value} {l : Addr} {vs : List Value} {nv : Nat} {ds : List (Str × Int × Int)} {news : List (Addr × Obj)}
  {dp un : Nat} {gd : Option (List Code)} {cn : Str} {cs : Scope} {ca : Addr} {ccd : Value} {cl : List (Str × Addr)} {outer : List Env} {A₀ : Around} {base h₀ : Heap} {L : Addr} {m : Str → Option Value} {s : Shared} {Q E : Value → Shared → Prop}
  (C : At w mean mg mb dp un cs outer A₀ base h₀ L m news s) (hdp3 : dp ≤ 305) (hun3 : un ≤ 2000) (hl : (l, listOf vs.toArray nv) ∈ news) (hs : Signs news vs ds) (hok : ∀ d ∈ ds, PyData.strOk d.1 = true) (hlen : ds.length ≤ 1000000)
  (q : ∀ D h' tk' items n tl, Fr h₀ L h' m → News h₀ L h' ((D, listOf items.toArray n) :: (tl ++ news)) → (∀ p ∈ tl ++ news, p.1 ≠ D) → DatAll tl items ((symsOf (ds.map fun d => (d.1, d.2.1))).map symDat) → Q (.ref D) { s with heap := h', toks := tk' }) :
  wpAny (model Challenge.rw_pb0222_01.row.prog w) (ktrTop dp un gd cn cs L ca ccd cl outer) (call (.ref 116) [.ref l]) Q E s := by
  obtain ⟨B, F, X, N, Tp, hk, hdp, hun, hdp2, hun2⟩ := C
  revert X
  k_fill
  intro X
  refine wpAny_call ?_
  k_dflt cell_enter
  k_steps
  rename (_ ∧ AllLt _ _) => hI9
  obtain ⟨hI9, hI8⟩ := hI9
  rename (∀ p ∈ news, p.1 < _) => hD9
  refine items_ind (SyInv _ _ l news ds) ?_ ?_ _ _ _ ⟨_, [], ds, [], 0, [], rfl, hs, m_as2 rfl rfl, rfl, fun p hp => Nat.ne_of_lt (hD9 p hp), fun p hp => neAll_of hI8 p hp, Nat.ne_of_lt hI9, .nil⟩
  · rintro v r m₁ nw h tk o hc ⟨u, done, rr, items, n, tl, hd, hsg, rfl, rfl, hne, hneI, hDI, hdat⟩ F1 N1
    cases hsg with
    | cons hx hr =>
      obtain ⟨x, dx, u1, u2, u3, k1, k2, k3, t1, t2, t3, e, rfl, hx1, hx2⟩ := hx
      rename_i dd rr
      obtain ⟨sg, cnt, aa⟩ := dd
      have nx1 : @Ne Nat x _ := hne _ (List.mem_append_right _ hx1)
      have nx2 : @Ne Nat dx _ := hne _ (List.mem_append_right _ hx2)
      have nx3 : @Ne Nat x _ := hneI _ (List.mem_append_right _ hx1)
      have nx4 : @Ne Nat dx _ := hneI _ (List.mem_append_right _ hx2)
      have hokd : ∀ q ∈ symsOf (done.map fun d => (d.1, d.2.1)), PyData.strOk q.1 = true := symsOf_ok (P := fun x => PyData.strOk x = true) _ (fun p hp => by
        obtain ⟨d, hd', rfl⟩ := List.mem_map.mp hp
        exact hok d (by rw [← hd]; exact List.mem_append_left _ hd'))
      have hsl : (symsOf (done.map fun d => (d.1, d.2.1))).length ≤ 1000000 := by
        have a1 := symsOf_len (done.map fun d => (d.1, d.2.1))
        have a2 : done.length ≤ ds.length := by rw [← hd]; simp
        simp only [List.length_map] at a1
        omega
      generalize hss : symsOf (done.map fun d => (d.1, d.2.1)) = ss at hdat hokd hsl
      rcases List.eq_nil_or_concat ss with rfl | ⟨pre, q0, rfl⟩
      · cases hdat
        have N2 := news_ext2 N1 (List.mem_append_right _ hx1) (List.mem_append_right _ hx2)
        clear N1
        k_steps
        exact sy_next (by k_asm) (by k_asm) rfl rfl (by k_mem) (by k_mem) (by k_mem) (by walk_at "tl_mem") (by k_ne) (by k_ne) hne hneI hDI hl hd hr (items' := [.ref _]) rfl hss (sy_dat (pre := []) .nil)
      · rw [List.concat_eq_append] at hdat hokd hss hsl
        rw [List.map_append] at hdat
        have hok2 := symDat_ok hokd
        rw [List.map_append] at hok2
        obtain ⟨ys, t0, n0, ta, tb, rfl, hys, ht0⟩ := sy_last hdat
        have hyl : ys.length ≤ 1000000 := by
          have a1 := hys.length
          simp only [List.length_append, List.length_map, List.length_cons, List.length_nil] at hsl a1
          omega
        have nx5 : @Ne Nat t0 _ := hne _ (List.mem_append_left _ ht0)
        have nx6 : @Ne Nat t0 _ := hneI _ (List.mem_append_left _ ht0)
        have N2 := news_ext3 N1 (List.mem_append_left _ ht0) (List.mem_append_right _ hx1) (List.mem_append_right _ hx2)
        clear N1
        k_steps
        · exact sy_next (by k_asm) (by k_asm) rfl rfl (by k_mem) (by k_mem) (by k_mem) (by walk_at "tl_mem") (by k_ne) (by k_ne) hne hneI hDI hl hd hr (items' := ys ++ [.ref _]) rfl hss (by rw [addSym_same (of_decide_eq_true (by assumption))]; exact sy_dat hys)
        · exact sy_next (by k_asm) (by k_asm) rfl rfl (by k_mem) (by k_mem) (by k_mem) (by walk_at "tl_mem") (by k_ne) (by k_ne) hne hneI hDI hl hd hr (items' := (ys ++ [.ref t0]) ++ [.ref _]) (List.push_toArray _ _) hss (by rw [addSym_other (of_decide_eq_false (by assumption))]; exact sy_dat (by rw [List.map_append]; exact hdat))
  · rintro m₁ nw h tk ⟨u, done, rr, items, n, tl, hd, hsg, rfl, rfl, hne, hneI, hDI, hdat⟩ F1 N1
    cases hsg
    rw [List.append_nil] at hd
    subst hd
    k_steps
    exact q _ _ _ _ _ _ (by k_asm) (by k_asm) hne hdat
end Mine
end

section
open PySem PySem.W PyProof.Rows PySem.Spec PySem.Calls
set_option Elab.async false
set_option maxRecDepth 100000
set_option maxHeartbeats 8000000
set_option linter.all false
set_option compiler.extract_closed false
namespace Mine
open PyProof.Rows.LCg
section
variable {prog : Program} {w : World} {A : Around} {E : Value → Shared → Prop} {s : Shared} {h₀ : Heap} {L : Addr} {m : Str → Option Value} {env : Env}
/-- a turn over a pair, with a test: what is made is told by R, the ledger stays -/
noncomputable def PairTurn (prog : Program) (w : World) (A : Around) (h₀ : Heap) (L : Addr) (m : Str → Option Value) (env : Env) (c elt : PySem.Expr) (x x₂ : Str) (scope : Scope) (cl : List (Str × Addr)) (s : Shared) (news : List (Addr × Obj)) (R : List Value → Prop) (ys : List Value) (v₁ v₂ : Value) : Prop :=
  ∀ I oI C oC D m₂ h tk (E' : Value → Shared → Prop), NsObj oC m₂ → m₂ x = some v₁ → m₂ x₂ = some v₂ → Fr h₀ L h m → News h₀ L h ((I, oI) :: (C, oC) :: (D, lst ys) :: news) → Off3 I C D news → ((@Ne Nat I C) ∧ (@Ne Nat I D) ∧ (@Ne Nat C D)) →
    wpAny (model prog w) A (isTrue c (compEnvC scope cl C env) (eval c (compEnvC scope cl C env))) (fun ok s' => if ok = true then
      wpAny (model prog w) A (eval elt (compEnvC scope cl C env)) (CompEnd h₀ L m { s with heap := h, toks := tk } I oI C oC D (lst ys) (fun n => n = news) (fun y _ => R (ys ++ [y]))) E' s'
      else CompEnd h₀ L m { s with heap := h, toks := tk } I oI C oC D (lst ys) (fun n => n = news) (fun _ _ => R ys) .none s') E' { s with heap := h, toks := tk }
noncomputable def PairSrc (prog : Program) (w : World) (A : Around) (h₀ : Heap) (L : Addr) (m : Str → Option Value) (env : Env) (c elt : PySem.Expr) (x x₂ : Str) (scope : Scope) (cl : List (Str × Addr)) (Q : Value → Shared → Prop) (xv : Value) (s₁ : Shared) : Prop :=
  ∃ (ax : Addr) (its : Array Value) (k : Nat) (news : List (Addr × Obj)) (R : Nat → List Value → Prop), xv = .ref ax ∧ A.handled = none ∧ Fr h₀ L s₁.heap m ∧ News h₀ L s₁.heap news ∧ (ax, listOf its k) ∈ news ∧ its.size ≤ sizeLine ∧ R 0 [] ∧
    (∀ i ys v, i < its.size → R i ys → its[i]? = some v → ∃ (t : Addr) (v₁ v₂ : Value) (nt : Nat), v = .ref t ∧ (t, ({ cls := .type "tuple", data := .seq #[v₁, v₂] nt } : Obj)) ∈ news ∧ PairTurn prog w A h₀ L m env c elt x x₂ scope cl s₁ news (R (i + 1)) ys v₁ v₂) ∧
    (∀ ys D h tk, R its.size ys → Fr h₀ L h m → News h₀ L h ((D, lst ys) :: news) → Q (.ref D) { s₁ with heap := h, toks := tk })
noncomputable abbrev PairInv (h₀ : Heap) (L : Addr) (m : Str → Option Value) (s₁ : Shared) (sz : Nat) (I ax C D : Addr) (news : List (Addr × Obj)) (R : Nat → List Value → Prop) (j : Nat) (s' : Shared) : Prop :=
  ∃ h' tk i ys m', s' = { s₁ with heap := h', toks := tk } ∧ i ≤ sz ∧ j = sz + 1 - i ∧ ys.length ≤ i ∧ h'.IsListIter I ax i ∧ Fr h₀ L h' m ∧ h'.Ns C m' ∧ News h₀ L h' ((D, lst ys) :: news) ∧ R i ys
theorem lc_pairs {elt iter c : PySem.Expr} {x x₂ : Str} {px px₂ tp : Pos} {kk : Nat} {scope : Scope} {cl : List (Str × Addr)} {pos : Pos} {Q : Value → Shared → Prop} (F₀ : Fr h₀ L s.heap m)
    (hclos : closureFor scope env = pure cl) (hcell : ∀ y ∈ scope.names, y.2 ≠ .cell) (hkind : scope.kind = .function)
    (hnames : ∀ y ∈ scope.names, y.2 = .local → scope.names.lookup y.1 = some .local) (hx : scope.names.lookup x = some .local) (hx₂ : scope.names.lookup x₂ = some .local) (hxx : ¬ x = x₂)
    (h : wpAny (model prog w) A (eval iter env) (PairSrc prog w A h₀ L m env c elt x x₂ scope cl Q) E s)
    (hs : ∀ x, foldedSetIterable iter env x = pure x := by intro _; rfl) :
    wpAny (model prog w) A (eval (.ListComp elt [⟨.Tuple [.Name x px, .Name x₂ px₂] kk tp, iter, [c], 0⟩] scope pos) env) Q E s := by
  rw [eval_ListComp]
  refine wpAny_comprehension_free (use := none) rfl hs hclos hkind hnames (wpAny_mono h (fun xv s₁ h₁ => ?_) fun _ _ e => e)
  obtain ⟨ax, its, k, news, R, rfl, hh, F, N, hm, hsz, R0, step, fin⟩ := h₁
  have hl : s₁.heap.IsList ax its := PySem.IsL.isList (n := k) (N _ hm).1
  have hax : ax < s₁.heap.objs.size := Heap.lt_size (N _ hm).1
  refine wpAny_pyIter_list hl ?_
  have up1 : ∀ b o, s₁.heap.get? b = some o → (s₁.heap.push { cls := .type "list_iterator", data := .fields #[.ref ax, .int 0 0] }).get? b = some o := fun b o e => Heap.get?_push_of_some _ e
  have F1 : Fr h₀ L (s₁.heap.push { cls := .type "list_iterator", data := .fields #[.ref ax, .int 0 0] }) m := F.keeps up1
  have N1 : News h₀ L (s₁.heap.push { cls := .type "list_iterator", data := .fields #[.ref ax, .int 0 0] }) news := N.grown up1
  have hI₀ : h₀.get? s₁.heap.objs.size = none := next_is_new F
  have hIL : L ≠ s₁.heap.objs.size := Nat.ne_of_lt F.ns.lt
  have st0 : (s₁.heap.push { cls := .type "list_iterator", data := .fields #[.ref ax, .int 0 0] }).IsListIter s₁.heap.objs.size ax 0 := ⟨_, Heap.get?_push_size _ rfl, rfl, rfl⟩
  have sz1 : (s₁.heap.push { cls := .type "list_iterator", data := .fields #[.ref ax, .int 0 0] }).objs.size = s₁.heap.objs.size + 1 := Heap.size_push ..
  have W := Walks.list (prog := prog) (w := w) hh s₁.heap.objs.size ax (Nat.ne_of_lt hax) its
  generalize hI : s₁.heap.objs.size = I at *
  generalize s₁.heap.push { cls := .type "list_iterator", data := .fields #[.ref ax, .int 0 0] } = g at *
  refine wpAny_newObj_type (wpAny_newFunctionEnv hcell (by intro y hy; simp at hy) (fun h₁ hns₁ hsb₁ => ?_) hkind)
  dsimp only at hns₁ hsb₁ ⊢
  generalize hg2 : g.push { cls := .type "list", dict := none, data := .seq ([] : List Value).toArray } = g2 at hns₁ hsb₁ ⊢
  have hC : g2.objs.size = g.objs.size + 1 := by rw [← hg2, Heap.size_push]
  generalize hDd : g.objs.size = D at *
  generalize hCd : g2.objs.size = C at *
  have nDC : D ≠ C := by rw [hC]; exact Nat.ne_of_lt (Nat.lt_succ_self _)
  have lt2 : ∀ b o, g.get? b = some o → b ≠ C ∧ b ≠ D := fun b o e => by
    have := Heap.lt_size e
    rw [hDd] at this
    exact ⟨by rw [hC]; exact Nat.ne_of_lt (Nat.lt_succ_of_lt this), Nat.ne_of_lt this⟩
  have old : ∀ b o, g.get? b = some o → h₁.get? b = some o := fun b o e => hsb₁.extBut b o (lt2 b o e).1 (Heap.get?_push_of_some _ (hg2 ▸ Heap.get?_push_of_some _ e))
  have hacc : h₁.get? D = some (lst []) := hsb₁.extBut _ _ nDC (Heap.get?_push_of_some _ (hg2 ▸ hDd ▸ Heap.get?_push_size _ rfl))
  obtain ⟨oI0, eI0, cI0, dI0⟩ := id st0
  have nIC : I ≠ C := (lt2 I _ eI0).1
  have nID : I ≠ D := (lt2 I _ eI0).2
  have hLD : L < D := by have := F1.ns.lt; rw [hDd] at this; exact this
  have nLD : D ≠ L := Ne.symm (Nat.ne_of_lt hLD)
  have nLC : C ≠ L := by rw [hC]; exact Ne.symm (Nat.ne_of_lt (Nat.lt_succ_of_lt hLD))
  have fresh : ∀ b, D ≤ b → h₀.get? b = none := fun b hb => by
    cases e : h₀.get? b with
    | none => rfl
    | some o' =>
      have := Heap.lt_size (F1.keep b o' e)
      rw [hDd] at this
      exact absurd this (Nat.not_lt.mpr hb)
  have hD₀ : h₀.get? D = none := fresh _ (Nat.le_refl _)
  have hC₀ : h₀.get? C = none := fresh _ (by rw [hC]; exact Nat.le_succ _)
  have off : ∀ p ∈ news, p.1 ≠ I ∧ p.1 ≠ C ∧ p.1 ≠ D := fun p hp => ⟨fun q => Nat.lt_irrefl _ (by have := Heap.lt_size (N p hp).1; rw [hI, q] at this; exact this), (lt2 _ _ (N1 p hp).1).1, (lt2 _ _ (N1 p hp).1).2⟩
  have loop : ∀ (RR : Result → Shared → Prop) (s₃ : Shared), (∀ s', (∃ m', s'.heap.Ns C m' ∧ ∀ h'', Heap.SameBut C s'.heap h'' → Q (.ref D) { s' with heap := h'' }) → RR (.ok .next) s') → s₃ = { s₁ with heap := h₁, toks := s₁.toks + ([] : List (Str × Value)).length } →
      codeAny (model prog w) A (.compLoop (.ListComp elt [⟨.Tuple [.Name x px, .Name x₂ px₂] kk tp, iter, [c], 0⟩] scope pos) 0 (.ref I) (.ref D) (compEnvC scope cl C env)) RR s₃ := by
    rintro RR s₃ hRR rfl
    refine kct_loop
      (PairInv h₀ L m s₁ its.size I ax C D news R) ?_ (its.size + 1)
      ⟨h₁, _, 0, [], _, rfl, Nat.zero_le _, rfl, Nat.le_refl _, ⟨oI0, old _ _ eI0, cI0, dI0⟩, F1.keeps old, hns₁, fun p hp => ?_, R0⟩
    · rintro j s' ⟨h', tk, i, ys, m', rfl, hi, rfl, hyl, hit, F', hn', N', R'⟩
      have hlst : h'.IsList ax its := PySem.IsL.isList (n := k) (N' _ (.tail _ hm)).1
      by_cases hlt : i < its.size
      · refine W.item i _ _ _ hlt ⟨hit, hlst⟩ fun v h₂ tk₂ hPv hst₂ hk₂ => ?_
        obtain ⟨t, v₁, v₂, nt, rfl, hmt, turn⟩ := step i ys v hlt R' hPv
        have N₂ : News h₀ L h₂ ((D, lst ys) :: news) := news_but N' hk₂ fun p hp => by
          rcases List.mem_cons.mp hp with rfl | hp
          · exact Ne.symm nID
          · exact (off p hp).1
        have ht : h₂.IsTuple t #[v₁, v₂] := ⟨_, (N₂ _ (.tail _ hmt)).1, rfl, nt, rfl⟩
        refine wpAny_letOwnedTupleGo_listiter hst₂.1 ?_
        refine kcp_assign (env := compEnvC scope cl C env) hh ht (lookup_relabel_local hx) (lookup_relabel_local hx₂) (by simp [compEnvC, relabel, hkind]) (hn'.at' fun o e => hk₂ _ o (by simpa using Ne.symm nIC) e) fun h₄ tk₄ hn₄ hs₄ => ?_
        have F₄ : Fr h₀ L h₄ m := by
          have f2 := fr_but F' hk₂ hIL hI₀
          exact ⟨f2.ns.at' fun o e => hs₄ _ o (Ne.symm nLC) e, fun b o e => hs₄ b o (fun q => by rw [q] at e; exact nomatch hC₀.symm.trans e) (f2.keep b o e), f2.above⟩
        obtain ⟨oI, heI, hcI, hdI⟩ := id hst₂.1
        have heI₄ : h₄.get? I = some oI := hs₄ _ _ nIC heI
        obtain ⟨oC, heC, hoC⟩ := ns_obj hn₄
        have N₄ : News h₀ L h₄ ((I, oI) :: (C, oC) :: (D, lst ys) :: news) := fun p hp => by
          rcases List.mem_cons.mp hp with rfl | hp
          · exact ⟨heI₄, Ne.symm hIL, hI₀⟩
          · rcases List.mem_cons.mp hp with rfl | hp
            · exact ⟨heC, nLC, hC₀⟩
            · refine ⟨hs₄ _ _ ?_ (N₂ p hp).1, (N₂ p hp).2⟩
              rcases List.mem_cons.mp hp with rfl | hp
              · exact nDC
              · exact (off p hp).2.1
        have next : ∀ (ys' : List Value) (h₅ : Heap) (tk₅ : Nat), ys'.length ≤ i + 1 → Fr h₀ L h₅ m → News h₀ L h₅ ((I, oI) :: (C, oC) :: (D, lst ys') :: news) → R (i + 1) ys' →
            ∃ q', q' < its.size + 1 - i ∧ PairInv h₀ L m s₁ its.size I ax C D news R q' { s₁ with heap := h₅, toks := tk₅ } := by
          intro ys' h₅ tk₅ hl5 F₅ N₅ R₅
          exact ⟨its.size + 1 - (i + 1), by omega, h₅, tk₅, i + 1, ys', _, rfl, hlt, rfl, hl5, ⟨oI, (N₅ _ (.head _)).1, hcI, hdI⟩, F₅, hoC.ns (N₅ _ (.tail _ (.head _))).1, fun p hp => N₅ p (.tail _ (.tail _ hp)), R₅⟩
        refine wpAny_mono (turn I oI C oC D _ h₄ _ _ hoC (by simp [hxx]) (by simp) F₄ N₄ (Off3.of off) ⟨nIC, nID, Ne.symm nDC⟩) (fun ok s₅ h₅ => ?_) fun _ _ e => e
        cases ok with
        | false =>
          simp only [Bool.false_eq_true, if_false] at h₅ ⊢
          obtain ⟨h₅, tk₅, news₅, rfl, F₅, N₅, _, rfl, R₅⟩ := h₅
          exact next ys h₅ tk₅ (Nat.le_succ_of_le hyl) F₅ N₅ R₅
        | true =>
          simp only [if_true] at h₅ ⊢
          refine wpAny_mono h₅ (fun y s₆ h₆ => ?_) fun _ _ e => e
          obtain ⟨h₆, tk₆, news₆, rfl, F₆, N₆, _, rfl, R₆⟩ := h₆
          have zD := (N₆ (D, lst ys) (.tail _ (.tail _ (.head _)))).1
          refine append_at (hsz := by show ys.toArray.size ≤ sizeLine; rw [List.size_toArray]; exact Nat.le_trans hyl (Nat.le_trans hi hsz)) zD fun h₇ hs₇ hD₇ => ?_
          refine next (ys ++ [y]) h₇ _ (by rw [List.length_append, List.length_singleton]; omega) (F₆.change hs₇ nLD hD₀) (fun p hp => ?_) R₆
          rcases List.mem_cons.mp hp with rfl | hp
          · exact ⟨hs₇.extBut _ _ nID (N₆ _ (.head _)).1, (N₆ _ (.head _)).2⟩
          · rcases List.mem_cons.mp hp with rfl | hp
            · exact ⟨hs₇.extBut _ _ (Ne.symm nDC) (N₆ _ (.tail _ (.head _))).1, (N₆ _ (.tail _ (.head _))).2⟩
            · rcases List.mem_cons.mp hp with rfl | hp
              · exact ⟨hD₇.trans (congrArg some (lst_snoc ys y)), nLD, hD₀⟩
              · have z := N₆ p (.tail _ (.tail _ (.tail _ hp)))
                exact ⟨hs₇.extBut _ _ (off p hp).2.2 z.1, z.2⟩
      · obtain rfl : i = its.size := Nat.le_antisymm hi (Nat.not_lt.mp hlt)
        refine W.done _ _ _ ⟨hit, hlst⟩ fun h₂ tk₂ hk₂ => ?_
        have N₂ : News h₀ L h₂ ((D, lst ys) :: news) := news_but N' hk₂ fun p hp => by
          rcases List.mem_cons.mp hp with rfl | hp
          · exact Ne.symm nID
          · exact (off p hp).1
        refine hRR _ ⟨m', hn'.at' fun o e => hk₂ _ o (by simpa using Ne.symm nIC) e, fun h'' hs'' => fin ys D h'' tk₂ R' ((fr_but F' hk₂ hIL hI₀).change hs'' nLC hC₀) fun p hp => ⟨hs''.extBut _ _ ?_ (N₂ p hp).1, (N₂ p hp).2⟩⟩
        rcases List.mem_cons.mp hp with rfl | hp
        · exact nDC
        · exact (off p hp).2.1
    · rcases List.mem_cons.mp hp with rfl | hp
      · exact ⟨hacc, nLD, hD₀⟩
      · exact ⟨old _ _ (N1 p hp).1, (N1 p hp).2⟩
  exact codeAny_compStart_list (loop _ _ (fun _ x => x) rfl) (W.self 0 _ _ _ ⟨⟨oI0, old _ _ eI0, cI0, dI0⟩, hl.at fun o e => old _ _ (up1 _ _ e)⟩ (loop _ _ (fun _ x => x) rfl))
end
end Mine
end

section
open PySem PySem.W PyProof.Rows PySem.Spec PySem.Calls
set_option Elab.async false
set_option maxRecDepth 100000
set_option maxHeartbeats 8000000
set_option linter.all false
set_option compiler.extract_closed false
namespace Mine
local macro_rules | `(tactic| walk_at "eval ListComp") => `(tactic| (k_here; k_dflt (refine lc_pairs (F₀ := by k_asm) (by with_unfolding_all rfl) (by decide) (by rfl) (by decide) (by rfl) (by rfl) (by decide) ?_)))
/-- what stands nowhere -/
noncomputable def nowhere (sg : Str) : Bool := ([Str.ofString "P", Str.ofString "S", Str.ofString "V"].any fun x => x == sg)
noncomputable def sizesOf (ss : List (Str × Int)) : List Int := (ss.filter fun p => !nowhere p.1).map fun p => p.2 * (p.1.length : Int)
theorem sizes_no {l : List (Str × Int)} {p : Str × Int} (h : nowhere p.1 = true) : sizesOf (l ++ [p]) = sizesOf l := by simp [sizesOf, List.filter_append, h]
theorem sizes_yes {l : List (Str × Int)} {p : Str × Int} (h : nowhere p.1 = false) : sizesOf (l ++ [p]) = sizesOf l ++ [p.2 * (p.1.length : Int)] := by simp [sizesOf, List.filter_append, h]
theorem ints_snoc : ∀ {ys : List Value} {ns : List Int} {i : Int} {t : Tok}, IntsAre ys ns → IntsAre (ys ++ [.int i t]) (ns ++ [i])
  | _, _, _, _, .nil => .cons _ _ .nil
  | _, _, _, _, .cons _ _ r => .cons _ _ (ints_snoc r)
open PyProof.Rows.LCg in
theorem size_of_c {w : World} {mean : ExcName → Option Value} {mg mb : Str → Option Value} {l : Addr} {items : List Value} {nv : Nat} {ss : List (Str × Int)} {news : List (Addr × Obj)}
  {dp un : Nat} {gd : Option (List Code)} {cn : Str} {cs : Scope} {ca : Addr} {ccd : Value} {cl : List (Str × Addr)} {outer : List Env} {A₀ : Around} {base h₀ : Heap} {L : Addr} {m : Str → Option Value} {s : Shared} {Q E : Value → Shared → Prop}
  (C : At w mean mg mb dp un cs outer A₀ base h₀ L m news s) (hdp3 : dp ≤ 305) (hun3 : un ≤ 2000) (hl : (l, listOf items.toArray nv) ∈ news) (hd : DatAll news items (ss.map symDat)) (hlen : ss.length ≤ 1000000) (hls : ∀ p ∈ ss, p.1.length ≤ 2)
  (q : ∀ t h' tk', Fr h₀ L h' m → News h₀ L h' news → Q (.int (sizesOf ss).sum t) { s with heap := h', toks := tk' }) :
  wpAny (model Challenge.rw_pb0222_01.row.prog w) (ktrTop dp un gd cn cs L ca ccd cl outer) (call (.ref 121) [.ref l]) Q E s := by
  obtain ⟨B, F, X, N, Tp, hk, hdp, hun, hdp2, hun2⟩ := C
  have hil : items.length ≤ 1000000 := by have := hd.length; simp only [List.length_map] at this; omega
  revert X
  k_fill
  intro X
  refine wpAny_call ?_
  k_dflt cell_enter
  k_steps
  rename Fr _ _ _ _ => F9
  rename News _ _ _ _ => N9
  refine ⟨l, items.toArray, nv, news, fun i ys => IntsAre ys (sizesOf (ss.take i)), rfl, rfl, F9, N9, hl, by rw [List.size_toArray, sizeLine_eq]; omega, IntsAre.nil, ?_, ?_⟩
  · intro i ys v hi hR hv
    have hi' : i < (ss.map symDat).length := by have := hd.length; rw [List.size_toArray] at hi; omega
    obtain ⟨v', hv', hD⟩ := hd.get hi'
    have e1 : v' = v := by rw [List.getElem?_toArray] at hv; rw [hv] at hv'; exact (Option.some.inj hv').symm
    subst e1
    rw [List.getElem_map] at hD
    have e2 : ss.take (i + 1) = ss.take i ++ [ss[i]'(by simpa using hi')] := by rw [List.take_add_one, List.getElem?_eq_getElem] <;> rfl
    have hp2 := hls (ss[i]'(by simpa using hi')) (List.getElem_mem _)
    generalize ss[i]'(by simpa using hi') = p at hD e2 hp2
    dsimp only
    rw [e2]
    cases hD with
    | tuple hm hv =>
      cases hv with
      | cons a b =>
        cases a
        cases b with
        | cons c d =>
          cases c
          cases d
          refine ⟨_, _, _, _, rfl, hm, ?_⟩
          intro I oI C oC D m₂ h tk E' hC' hx' hy' F' N' off' ne'
          k_steps
          · refine CompEnd.intro (by k_asm) (by k_asm) news (fun p hp => .tail _ hp) off' rfl ?_
            rw [sizes_no (by assumption)]
            exact hR
          · skip
            refine CompEnd.intro (by k_asm) (by k_asm) news (fun p hp => .tail _ hp) off' rfl ?_
            rw [sizes_yes (by assumption)]
            exact ints_snoc hR
  · intro ys D h tk hR F' N'
    k_steps
    have e3 : ss.take items.toArray.size = ss := List.take_of_length_le (by have := hd.length; rw [List.size_toArray]; simp only [List.length_map] at this; omega)
    rw [e3]
    exact q _ _ _ (by k_asm) (cb_drop (by k_asm) fun p hp => .tail _ hp)
end Mine
end

section
open PySem PySem.W PyProof.Rows PySem.Spec PySem.Calls
set_option Elab.async false
set_option maxRecDepth 100000
set_option maxHeartbeats 8000000
set_option linter.all false
set_option compiler.extract_closed false
namespace Mine
noncomputable def AllGe (d : Nat) : List (Addr × Obj) → Prop
  | [] => True
  | p :: r => @LE.le Nat _ d p.1 ∧ AllGe d r
theorem leN {a b : Nat} (h : a ≤ b) : @LE.le Nat _ a b := h
theorem allGe_at {d : Nat} {l : List (Addr × Obj)} (h : AllGe d l) : ∀ p ∈ l, @LE.le Nat _ d p.1 := by
  induction l with
  | nil => intro p hp; cases hp
  | cons a r ih =>
    intro p hp
    rcases List.mem_cons.mp hp with rfl | hp
    · exact h.1
    · exact ih h.2 p hp
theorem lt_two {d : Addr} {news l : List (Addr × Obj)} (h0 : ∀ p ∈ news, p.1 < d) (h : AllGe d l) : ∀ p ∈ l, ∀ q ∈ news, @LT.lt Nat _ q.1 p.1 := fun p hp q hq => Nat.lt_of_lt_of_le (h0 q hq) (allGe_at h p hp)
local macro_rules | `(tactic| walk_at "all_ge") => `(tactic| repeat (first | exact True.intro | (refine And.intro (leN ?_) ?_; ((try dsimp only); omega))))
noncomputable abbrev Piece := Str × Str × Int × Int
noncomputable def pieceDat (p : Piece) : Dat := .tuple [.str p.1, .str p.2.1, .int p.2.2.1, .int p.2.2.2]
noncomputable def oddDat (p : Str × Int) : Dat := .tuple [.str p.1, .int p.2]
noncomputable def piecesL : List Piece := [(Str.ofString "9", Str.ofString "9", 1, 1), (Str.ofString "9(3)", Str.ofString "9", 3, 3), (Str.ofString "9(0012)", Str.ofString "9", 12, 12), (Str.ofString "X", Str.ofString "X", 1, 1), (Str.ofString "X(9999)", Str.ofString "X", 9999, 9999), (Str.ofString "A", Str.ofString "A", 1, 1), (Str.ofString "B(2)", Str.ofString "B", 2, 2), (Str.ofString "Z", Str.ofString "Z", 1, 1), (Str.ofString "*(7)", Str.ofString "*", 7, 7), (Str.ofString "S", Str.ofString "S", 1, 0), (Str.ofString "V", Str.ofString "V", 1, 0), (Str.ofString "P(4)", Str.ofString "P", 4, 0), (Str.ofString "CR", Str.ofString "CR", 1, 2), (Str.ofString "DB", Str.ofString "DB", 1, 2), (Str.ofString ".", Str.ofString ".", 1, 1), (Str.ofString ",(1)", Str.ofString ",", 1, 1), (Str.ofString "$(3)", Str.ofString "$", 3, 3), (Str.ofString "/", Str.ofString "/", 1, 1)]
noncomputable def oddL : List (Str × Int) := [(Str.ofString "Q", 0), (Str.ofString "9()", 1), (Str.ofString "9(0)", 1), (Str.ofString "9(12345)", 1), (Str.ofString "9(1", 1), (Str.ofString "9(a)", 1), (Str.ofString "S(1)", 1), (Str.ofString "CR(1)", 2), (Str.ofString "(3)", 0), (Str.ofString "C", 0), (Str.ofString " ", 0), (Str.ofString "9(-1)", 1)]
section
variable {w : World} {mean : ExcName → Option Value} {mg mb : Str → Option Value} {news : List (Addr × Obj)}
  {dp un : Nat} {gd : Option (List Code)} {cn : Str} {cs : Scope} {ca : Addr} {ccd : Value} {cl : List (Str × Addr)} {outer : List Env} {A₀ : Around} {base h₀ : Heap} {L : Addr} {m : Str → Option Value} {s : Shared} {Q E : Value → Shared → Prop}
theorem pieces_c (C : At w mean mg mb dp un cs outer A₀ base h₀ L m news s) (hdp3 : dp ≤ 305) (hun3 : un ≤ 2000)
  (q : ∀ D h' tk' items n tl, Fr h₀ L h' m → News h₀ L h' ((D, listOf items.toArray n) :: (tl ++ news)) → DatAll tl items (piecesL.map pieceDat) → (∀ p ∈ (D, listOf items.toArray n) :: tl, ∀ q ∈ news, @LT.lt Nat _ q.1 p.1) → Q (.ref D) { s with heap := h', toks := tk' }) :
  wpAny (model Challenge.rw_pb0222_01.row.prog w) (ktrTop dp un gd cn cs L ca ccd cl outer) (call (.ref 128) []) Q E s := by
  obtain ⟨B, F, X, N, Tp, hk, hdp, hun, hdp2, hun2⟩ := C
  revert X
  k_fill
  intro X
  refine wpAny_call ?_
  k_dflt cell_enter
  k_steps
  refine q _ _ _ [_, _, _, _, _, _, _, _, _, _, _, _, _, _, _, _, _, _] 0 [_, _, _, _, _, _, _, _, _, _, _, _, _, _, _, _, _, _] (by k_asm) (by k_asm) ?_ (lt_two (by assumption) ?_)
  · unfold piecesL
    repeat (first | exact DatAll.nil | refine DatAll.cons (.tuple (by k_mem) (.cons (.str _ _) (.cons (.str _ _) (.cons (.int _ _) (.cons (.int _ _) .nil))))) ?_)
  · walk_at "all_ge"
theorem odd_c (C : At w mean mg mb dp un cs outer A₀ base h₀ L m news s) (hdp3 : dp ≤ 305) (hun3 : un ≤ 2000)
  (q : ∀ D h' tk' items n tl, Fr h₀ L h' m → News h₀ L h' ((D, listOf items.toArray n) :: (tl ++ news)) → DatAll tl items (oddL.map oddDat) → (∀ p ∈ (D, listOf items.toArray n) :: tl, ∀ q ∈ news, @LT.lt Nat _ q.1 p.1) → Q (.ref D) { s with heap := h', toks := tk' }) :
  wpAny (model Challenge.rw_pb0222_01.row.prog w) (ktrTop dp un gd cn cs L ca ccd cl outer) (call (.ref 135) []) Q E s := by
  obtain ⟨B, F, X, N, Tp, hk, hdp, hun, hdp2, hun2⟩ := C
  revert X
  k_fill
  intro X
  refine wpAny_call ?_
  k_dflt cell_enter
  k_steps
  refine q _ _ _ [_, _, _, _, _, _, _, _, _, _, _, _] 0 [_, _, _, _, _, _, _, _, _, _, _, _] (by k_asm) (by k_asm) ?_ (lt_two (by assumption) ?_)
  · unfold oddL
    repeat (first | exact DatAll.nil | refine DatAll.cons (.tuple (by k_mem) (.cons (.str _ _) (.cons (.int _ _) .nil))) ?_)
  · walk_at "all_ge"
end
end Mine
end

section
open PySem PySem.W PyProof.Rows
namespace Mine
theorem law_a1 : callerA.depth + 1 + 1 < recursionLimit := by first | decide | (simp only [depth_caller]; decide)
theorem law_a2 : callerA.units + 3 + 8 < cLine := by first | decide | (simp only [units_caller]; decide)
theorem law_a3 : callerA.depth + 1 ≤ 310 := by first | decide | (simp only [depth_caller]; decide)
theorem law_a4 : callerA.units + 3 ≤ 3000 := by first | decide | (simp only [units_caller]; decide)
theorem law_a5 : callerA.depth + 1 ≤ 305 := by first | decide | (simp only [depth_caller]; decide)
theorem law_a6 : callerA.units + 3 ≤ 2000 := by first | decide | (simp only [units_caller]; decide)
end Mine
end

section
open PySem PySem.W PyProof.Rows PySem.Spec PySem.Calls
set_option Elab.async false
set_option maxRecDepth 100000
set_option maxHeartbeats 8000000
set_option linter.all false
set_option compiler.extract_closed false
namespace Mine
/-- what the law joins: the text, what is due, the size -/
noncomputable def stOf (l : List Piece) : Str × List (Str × Int × Int) × Int := l.foldl (fun st p => (st.1 ++ p.1, st.2.1 ++ [(p.2.1, p.2.2.1, (st.1.length : Int))], st.2.2 + p.2.2.2)) (Str.ofString "", [], 0)
noncomputable def textOf (l : List Piece) : Str := (stOf l).1
noncomputable def dueOf (l : List Piece) : List (Str × Int × Int) := (stOf l).2.1
noncomputable def octOf (l : List Piece) : Int := (stOf l).2.2
theorem textOf_snoc (l : List Piece) (p : Piece) : textOf (l ++ [p]) = textOf l ++ p.1 := by simp [textOf, stOf]
theorem dueOf_snoc (l : List Piece) (p : Piece) : dueOf (l ++ [p]) = dueOf l ++ [(p.2.1, p.2.2.1, ((textOf l).length : Int))] := by simp [dueOf, textOf, stOf]
theorem octOf_snoc (l : List Piece) (p : Piece) : octOf (l ++ [p]) = octOf l + p.2.2.2 := by simp [octOf, stOf]
noncomputable def sumsOf (l : List Piece) : List (Str × Int) := symsOf (l.map fun p => (p.2.1, p.2.2.1))
theorem sumsOf_snoc (l : List Piece) (p : Piece) : sumsOf (l ++ [p]) = addSym (sumsOf l) (p.2.1, p.2.2.1) := by simp [sumsOf, symsOf]
noncomputable def dueDat (d : Str × Int × Int) : Dat := .tuple [.str d.1, .int d.2.1, .int d.2.2]
theorem strLen (x y : Str) : (x ++ y).length = x.length + y.length := by
  show (x.cps ++ y.cps).size = _
  rw [Array.size_append]; rfl
theorem piece_short : ∀ p ∈ piecesL, p.1.length ≤ 7 ∧ p.2.1.length ≤ 2 ∧ PyData.strOk p.2.1 = true := by decide +kernel
theorem snoc_ind {α : Type} {P : List α → Prop} (h0 : P []) (hs : ∀ l a, P l → P (l ++ [a])) (l : List α) : P l := by
  rw [← List.reverse_reverse l]
  induction l.reverse with
  | nil => exact h0
  | cons a r ih => rw [List.reverse_cons]; exact hs _ _ ih
theorem textOf_len (l : List Piece) (h : ∀ p ∈ l, p ∈ piecesL) : (textOf l).length ≤ 7 * l.length := by
  revert h
  refine snoc_ind (P := fun l => (∀ p ∈ l, p ∈ piecesL) → (textOf l).length ≤ 7 * l.length) (fun _ => by decide) (fun r p ih h => ?_) l
  rw [textOf_snoc, strLen, List.length_append, List.length_singleton]
  have h1 := ih fun q hq => h q (List.mem_append_left _ hq)
  have h2 := (piece_short p (h p (by simp))).1
  omega
theorem dueOf_len (l : List Piece) : (dueOf l).length = l.length := by
  refine snoc_ind (P := fun l => (dueOf l).length = l.length) rfl (fun r p ih => ?_) l
  rw [dueOf_snoc, List.length_append, List.length_append, ih]; rfl
theorem m_as4 {m : Str → Option Value} {a b c d : Str} {va vb vc vd : Value} (h1 : m a = some va) (h2 : m b = some vb) (h3 : m c = some vc) (h4 : m d = some vd) :
  m = (fun y => if y = a then some va else if y = b then some vb else if y = c then some vc else if y = d then some vd else m y) := by
  funext y
  split
  · rename_i q; rw [q, h1]
  · split
    · rename_i q; rw [q, h2]
    · split
      · rename_i q; rw [q, h3]
      · split
        · rename_i q; rw [q, h4]
        · rfl
/-- the law's first loop, at a turn's start -/
noncomputable def LInv (DU SU I : Addr) (src : List (Addr × Obj)) (rows : List Piece) (rest : List Value) (m : Str → Option Value) (news₁ : List (Addr × Obj)) : Prop :=
  ∃ (u : Str → Option Value) (done r : List Piece) (du su : List Value) (nd ns : Nat) (tl : List (Addr × Obj)) (tT tz : Tok), done ++ r = rows ∧ DatAll src rest (r.map pieceDat) ∧
    m = (fun y => if y = Str.ofString "text" then some (.str (textOf done) tT) else if y = Str.ofString "due" then some (.ref DU) else if y = Str.ofString "sums" then some (.ref SU) else if y = Str.ofString "size" then some (.int (octOf done) tz) else u y) ∧
    news₁ = (DU, listOf du.toArray nd) :: (SU, listOf su.toArray ns) :: (tl ++ src) ∧ (∀ p ∈ tl ++ src, p.1 ≠ DU) ∧ (∀ p ∈ tl ++ src, p.1 ≠ SU) ∧ (∀ p ∈ tl ++ src, p.1 ≠ I) ∧ (@Ne Nat DU SU ∧ @Ne Nat DU I ∧ @Ne Nat SU I) ∧
    DatAll tl du ((dueOf done).map dueDat) ∧ DatAll tl su ((sumsOf done).map symDat)
theorem l_next {g h : Heap} {L DU SU I l : Addr} {src all tl' : List (Addr × Obj)} {rows done rr : List Piece} {p : Piece} {r : List Value} {m : Str → Option Value} {arr arr2 : Array Value} {du' su' : List Value} {nd' ns' : Nat} {tT tz : Tok} {T' : Str} {z' : Int} {o lo : Obj} {s₁ : Shared} {tk : Nat} {Q : Flow → Shared → Prop}
  (F : Fr g L h m) (N : News g L h all) (h1 : m (Str.ofString "text") = some (.str T' tT)) (h2 : m (Str.ofString "due") = some (.ref DU)) (h3 : m (Str.ofString "sums") = some (.ref SU)) (h4 : m (Str.ofString "size") = some (.int z' tz))
  (hT : T' = textOf (done ++ [p])) (hz : z' = octOf (done ++ [p]))
  (x1 : (I, o) ∈ all) (x2 : (DU, listOf arr nd') ∈ all) (x3 : (SU, listOf arr2 ns') ∈ all) (x4 : ∀ q ∈ tl' ++ src, q ∈ all)
  (hnD : ∀ q ∈ tl' ++ src, q.1 ≠ DU) (hnS : ∀ q ∈ tl' ++ src, q.1 ≠ SU) (hnI : ∀ q ∈ tl' ++ src, q.1 ≠ I) (hn : @Ne Nat DU SU ∧ @Ne Nat DU I ∧ @Ne Nat SU I) (hl : (l, lo) ∈ src) (hd : done ++ p :: rr = rows) (hr : DatAll src r (rr.map pieceDat))
  (ha : arr = du'.toArray) (hb : arr2 = su'.toArray) (hdu : DatAll tl' du' ((dueOf (done ++ [p])).map dueDat)) (hsu : DatAll tl' su' ((sumsOf (done ++ [p])).map symDat)) :
  ListPost g L s₁ (I, o) [(l, lo)] (LInv DU SU I src rows r) Q .next { s₁ with heap := h, toks := tk } := by
  subst ha hb hT hz
  refine ListPost.next F (news' := (DU, listOf du'.toArray nd') :: (SU, listOf su'.toArray ns') :: (tl' ++ src)) ?_ ?_ ⟨.tail _ (.tail _ (List.mem_append_right _ hl)), trivial⟩ ?_
  · intro q hq
    rcases List.mem_cons.mp hq with rfl | hq
    · exact N _ x1
    · rcases List.mem_cons.mp hq with rfl | hq
      · exact N _ x2
      · rcases List.mem_cons.mp hq with rfl | hq
        · exact N _ x3
        · exact N _ (x4 _ hq)
  · intro q hq
    rcases List.mem_cons.mp hq with rfl | hq
    · exact hn.2.1
    · rcases List.mem_cons.mp hq with rfl | hq
      · exact hn.2.2
      · exact hnI _ hq
  · exact ⟨m, done ++ [p], rr, du', su', nd', ns', tl', tT, tz, by rw [← hd]; simp, hr, m_as4 h1 h2 h3 h4, rfl, hnD, hnS, hnI, hn, hdu, hsu⟩
theorem due_dat {tl : List (Addr × Obj)} {ys : List Value} {done : List Piece} {p : Piece} {t : Addr} {n2 : Nat} {ta tb tc : Tok} (h : DatAll tl ys ((dueOf done).map dueDat)) (X : List (Addr × Obj)) (hX : ∀ q ∈ tl, q ∈ X) (hm : (t, ({ cls := .type "tuple", data := .seq [Value.str p.2.1 ta, .int p.2.2.1 tb, .int ((textOf done).length : Int) tc].toArray n2 } : Obj)) ∈ X) :
  DatAll X (ys ++ [.ref t]) ((dueOf (done ++ [p])).map dueDat) := by
  rw [dueOf_snoc, List.map_append]
  exact (h.mono hX).append (.cons (.tuple hm (.cons (.str _ _) (.cons (.int _ _) (.cons (.int _ _) .nil)))) .nil)
theorem sum_dat {tl : List (Addr × Obj)} {ys : List Value} {pre : List (Str × Int)} {sg : Str} {c : Int} {t : Addr} {n2 : Nat} {ta tb : Tok} (h : DatAll tl ys (pre.map symDat)) (X : List (Addr × Obj)) (hX : ∀ q ∈ tl, q ∈ X) (hm : (t, ({ cls := .type "tuple", data := .seq [Value.str sg ta, .int c tb].toArray n2 } : Obj)) ∈ X) :
  DatAll X (ys ++ [.ref t]) ((pre ++ [(sg, c)]).map symDat) := by
  rw [List.map_append]
  exact (h.mono hX).append (.cons (.tuple hm (.cons (.str _ _) (.cons (.int _ _) .nil))) .nil)
theorem news_law {h₀ h : Heap} {L : Addr} {T S D : Addr × Obj} {R : List (Addr × Obj)} (N : News h₀ L h (T :: S :: D :: R)) : News h₀ L h (D :: S :: R) := cb_drop N fun p hp => by
  rcases List.mem_cons.mp hp with rfl | hp
  · exact .tail _ (.tail _ (.head _))
  · rcases List.mem_cons.mp hp with rfl | hp
    · exact .tail _ (.head _)
    · exact .tail _ (.tail _ (.tail _ hp))
theorem news_e1 {h₀ h : Heap} {L : Addr} {a b c p : Addr × Obj} {r : List (Addr × Obj)} (N : News h₀ L h (a :: b :: c :: r)) (hp : p ∈ r) : News h₀ L h (a :: b :: c :: p :: r) := cb_drop N fun z hz => by
  simp only [List.mem_cons] at hz ⊢
  rcases hz with h | h | h | h | h
  · exact .inl h
  · exact .inr (.inl h)
  · exact .inr (.inr (.inl h))
  · exact .inr (.inr (.inr (h ▸ hp)))
  · exact .inr (.inr (.inr h))
theorem news_e2 {h₀ h : Heap} {L : Addr} {a b c p q : Addr × Obj} {r : List (Addr × Obj)} (N : News h₀ L h (a :: b :: c :: r)) (hp : p ∈ r) (hq : q ∈ r) : News h₀ L h (a :: b :: c :: p :: q :: r) := cb_drop N fun z hz => by
  simp only [List.mem_cons] at hz ⊢
  rcases hz with h | h | h | h | h | h
  · exact .inl h
  · exact .inr (.inl h)
  · exact .inr (.inr (.inl h))
  · exact .inr (.inr (.inr (h ▸ hp)))
  · exact .inr (.inr (.inr (h ▸ hq)))
  · exact .inr (.inr (.inr h))
theorem piece_in {src : List (Addr × Obj)} {v : Value} {p : Piece} (h : DatIn src v (pieceDat p)) : ∃ t n ta tb tc td, v = .ref t ∧ (t, ({ cls := .type "tuple", data := .seq [Value.str p.1 ta, .str p.2.1 tb, .int p.2.2.1 tc, .int p.2.2.2 td].toArray n } : Obj)) ∈ src := by
  obtain ⟨t, vs, n, rfl, hv, hm⟩ := dat_tup h
  obtain ⟨_, r1, rfl, a1, hv1⟩ := dat_cons hv
  obtain ⟨ta, rfl⟩ := dat_str a1
  obtain ⟨_, r2, rfl, a2, hv2⟩ := dat_cons hv1
  obtain ⟨tb, rfl⟩ := dat_str a2
  obtain ⟨_, r3, rfl, a3, hv3⟩ := dat_cons hv2
  obtain ⟨tc, rfl⟩ := dat_int a3
  obtain ⟨_, r4, rfl, a4, hv4⟩ := dat_cons hv3
  obtain ⟨td, rfl⟩ := dat_int a4
  obtain rfl := dat_nil hv4
  exact ⟨t, n, ta, tb, tc, td, rfl, hm⟩
theorem sumsOf_ok (l : List Piece) (h : ∀ p ∈ l, p ∈ piecesL) : ∀ q ∈ sumsOf l, PyData.strOk q.1 = true := symsOf_ok (P := fun x => PyData.strOk x = true) _ fun q hq => by
  obtain ⟨p, hp, rfl⟩ := List.mem_map.mp hq
  exact (piece_short p (h p hp)).2.2
theorem sumsOf_len (l : List Piece) : (sumsOf l).length ≤ l.length := by
  have h := symsOf_len (l.map fun p => (p.2.1, p.2.2.1))
  simp only [List.length_map] at h
  exact h
theorem sum1 {done : List Piece} {p : Piece} {t : Addr} {n2 : Nat} {ta tb : Tok} {X : List (Addr × Obj)} (hss : sumsOf done = []) (hm : (t, ({ cls := .type "tuple", data := .seq [Value.str p.2.1 ta, .int p.2.2.1 tb].toArray n2 } : Obj)) ∈ X) :
  DatAll X [.ref t] ((sumsOf (done ++ [p])).map symDat) := by
  rw [sumsOf_snoc, hss]
  exact sum_dat (tl := []) (pre := []) .nil X (fun _ h => nomatch h) hm
theorem sum2 {done : List Piece} {p : Piece} {pre : List (Str × Int)} {q0 : Str × Int} {ys : List Value} {tl : List (Addr × Obj)} {t : Addr} {n2 : Nat} {ta tb : Tok} {X : List (Addr × Obj)} (hss : sumsOf done = pre ++ [q0]) (e : (q0.1 == p.2.1) = true) (h : DatAll tl ys (pre.map symDat)) (hX : ∀ q ∈ tl, q ∈ X)
  (hm : (t, ({ cls := .type "tuple", data := .seq [Value.str p.2.1 ta, .int (q0.2 + p.2.2.1) tb].toArray n2 } : Obj)) ∈ X) : DatAll X (ys ++ [.ref t]) ((sumsOf (done ++ [p])).map symDat) := by
  rw [sumsOf_snoc, hss, addSym_same (of_decide_eq_true e)]
  exact sum_dat h X hX hm
theorem sum3 {done : List Piece} {p : Piece} {pre : List (Str × Int)} {q0 : Str × Int} {ys : List Value} {tl : List (Addr × Obj)} {t : Addr} {n2 : Nat} {ta tb : Tok} {X : List (Addr × Obj)} (hss : sumsOf done = pre ++ [q0]) (e : (q0.1 == p.2.1) = false) (h : DatAll tl ys (pre.map symDat ++ [q0].map symDat)) (hX : ∀ q ∈ tl, q ∈ X)
  (hm : (t, ({ cls := .type "tuple", data := .seq [Value.str p.2.1 ta, .int p.2.2.1 tb].toArray n2 } : Obj)) ∈ X) : DatAll X (ys ++ [.ref t]) ((sumsOf (done ++ [p])).map symDat) := by
  rw [sumsOf_snoc, hss, addSym_other (of_decide_eq_false e)]
  exact sum_dat (pre := pre ++ [q0]) (by rw [List.map_append]; exact h) X hX hm
end Mine
end

section
open PySem PySem.W PyProof.Rows PySem.Spec PySem.Calls
set_option Elab.async false
set_option maxRecDepth 100000
set_option maxHeartbeats 8000000
set_option linter.all false
set_option compiler.extract_closed false
namespace Mine
open PyProof.Rows.LCg
section
variable {w : World} {mean : ExcName → Option Value} {mg mb : Str → Option Value} {T : Str} {tT : Tok} {news : List (Addr × Obj)}
  {dp un : Nat} {gd : Option (List Code)} {cn : Str} {cs : Scope} {ca : Addr} {ccd : Value} {cl : List (Str × Addr)} {outer : List Env} {A₀ : Around} {base h₀ : Heap} {L : Addr} {m : Str → Option Value} {s : Shared} {Q E : Value → Shared → Prop}
theorem signs_ok (C : At w mean mg mb dp un cs outer A₀ base h₀ L m news s) (hdp3 : dp ≤ 305) (hun3 : un ≤ 2000) (hT : T.length ≤ 1000000) (hok : Small T) {ds : List (Str × Int × Int)} (hp : Parse T 0 ds (T.length : Int))
  (q : ∀ l h' tk' items n tl, Fr h₀ L h' m → News h₀ L h' ((l, listOf items.toArray n) :: (tl ++ news)) → (∀ p ∈ tl ++ news, p.1 ≠ l) → Signs tl items ds → Q (.ref l) { s with heap := h', toks := tk' }) :
  wpAny (model Challenge.rw_pb0222_01.row.prog w) (ktrTop dp un gd cn cs L ca ccd cl outer) (call (.ref 109) [.str T tT]) Q E s :=
  signs_of_c C hdp3 hun3 hT hok hp (.inl rfl) fun _ l h' tk' items n tl F N hne hs => q l h' tk' items n tl F N hne hs.all
theorem signs_bad (C : At w mean mg mb dp un cs outer A₀ base h₀ L m news s) (hdp3 : dp ≤ 305) (hun3 : un ≤ 2000) (hT : T.length ≤ 1000000) (hok : Small T) {ds : List (Str × Int × Int)} {b idx : Int} (hp : Parse T 0 ds b) (hlt : b < (T.length : Int)) (hbad : BadAt T b idx)
  (q : Faults base h₀ (envX cn cs L ca ccd cl :: outer) L m news s idx E) :
  wpAny (model Challenge.rw_pb0222_01.row.prog w) (ktrTop dp un gd cn cs L ca ccd cl outer) (call (.ref 109) [.str T tT]) Q E s :=
  signs_of_c C hdp3 hun3 hT hok hp (.inr ⟨hlt, idx, hbad, q⟩) fun e => by omega
end
theorem Signs.get {news : List (Addr × Obj)} : ∀ {vs : List Value} {ds : List (Str × Int × Int)}, Signs news vs ds → ∀ {i : Nat} {v : Value}, vs[i]? = some v → ∃ d, ds[i]? = some d ∧ IsSign news v d
  | _, _, .cons h r, 0, v, e => by cases e; exact ⟨_, rfl, h⟩
  | _, _, .cons h r, i + 1, v, e => Signs.get r (i := i) e
  | _, _, .nil, i, v, e => by cases e
/-- an element of [(one.sign, one.count, one.at) ..] -/
noncomputable def SgEl (d : Str × Int × Int) (ax : Addr) (lo : Obj) (ds : List (Str × Int × Int)) (i : Nat) (base : List (Addr × Obj)) (ys : List Value) (y : Value) (news' : List (Addr × Obj)) : Prop := ∃ tl', news' = tl' ++ base ∧ DatAll tl' (ys ++ [y]) ((ds.take i ++ [d]).map dueDat)
section
variable {prog : Program} {w : World} {A : Around} {h₀ : Heap} {L : Addr} {m : Str → Option Value} {env : Env} {elt : PySem.Expr} {x : Str} {scope : Scope} {cl : List (Str × Addr)} {s : Shared} {Fin : List Value → List (Addr × Obj) → Prop}
theorem signs_ind {base : List (Addr × Obj)} {items : List Value} {ds : List (Str × Int × Int)} {ax : Addr} {k : Nat} (hs : Signs base items ds) 
    (step : ∀ i ys tl d xx dx u1 u2 u3 k1 k2 k3 t1 t2 t3 e I oI C oC D m₂ h tk (E' : Value → Shared → Prop), DatAll tl ys ((ds.take i).map dueDat) → NsObj oC m₂ → m₂ x = some (.ref xx) → Fr h₀ L h m → News h₀ L h ((I, oI) :: (C, oC) :: (D, lst ys) :: (xx, instObj 86 dx) :: (dx, signDict u1 u2 u3 k1 k2 k3 d.1 d.2.1 d.2.2 t1 t2 t3 e) :: (base ++ tl)) → Off3 I C D (tl ++ base) → ((@Ne Nat I C) ∧ (@Ne Nat I D) ∧ (@Ne Nat C D)) →
      wpAny (model prog w) A (eval elt (compEnvC scope cl C env)) (CompEnd h₀ L m { s with heap := h, toks := tk } I oI C oC D (lst ys) (fun _ => True) (fun y news' => SgEl d ax (listOf items.toArray k) ds i base ys y news')) E' { s with heap := h, toks := tk })
    (hb : (ax, listOf items.toArray k) ∈ base)
    (fin : ∀ ys tl, DatAll tl ys (ds.map dueDat) → Fin ys (tl ++ base)) : CompRest prog w A h₀ L m env elt x scope cl s (SrcAt h₀ ax items.toArray) (fun i v => items.toArray[i]? = some v) Fin items.toArray.size 0 [] base := by
  refine cr_ind (fun i ys news => ∃ tl, news = tl ++ base ∧ DatAll tl ys ((ds.take i).map dueDat)) ?_ ?_ ⟨[], rfl, by rw [List.take_zero]; exact .nil⟩
  · rintro i ys news v I oI C oC D m₂ h tk E' hi ⟨tl, rfl, hd⟩ hv hC hx F N off ne
    rw [List.getElem?_toArray] at hv
    obtain ⟨d, hdd, xx, dx, u1, u2, u3, k1, k2, k3, t1, t2, t3, e, rfl, h1, h2⟩ := hs.get hv
    have e1 : ds.take (i + 1) = ds.take i ++ [d] := by rw [List.take_add_one, hdd]; rfl
    refine wpAny_mono (step i ys tl d xx dx u1 u2 u3 k1 k2 k3 t1 t2 t3 e I oI C oC D m₂ h tk E' hd hC hx F (cb_drop N fun p hp => ?_) off ne) (fun y s' hq => ?_) fun _ _ e => e
    · simp only [List.mem_cons, List.mem_append] at hp ⊢
      rcases hp with h | h | h | h | h | h | h
      · exact .inl h
      · exact .inr (.inl h)
      · exact .inr (.inr (.inl h))
      · exact .inr (.inr (.inr (.inr (h ▸ h1))))
      · exact .inr (.inr (.inr (.inr (h ▸ h2))))
      · exact .inr (.inr (.inr (.inr h)))
      · exact .inr (.inr (.inr (.inl h)))
    · obtain ⟨h', tk', nw, rfl, F', N', off', _, tl', rfl, hd'⟩ := hq
      exact ⟨h', tk', _, rfl, F', N', off', .inr ⟨_, List.mem_append_right _ hb, rfl, _, rfl⟩, tl', rfl, by rw [e1]; exact hd'⟩
  · rintro ys news ⟨tl, rfl, hd⟩
    have e2 : ds.take items.toArray.size = ds := List.take_of_length_le (by have := hs.length; rw [List.size_toArray]; omega)
    rw [e2] at hd
    exact fin ys tl hd
theorem sg_end {h : Heap} {tk : Nat} {I C D ax : Addr} {oI oC lo : Obj} {ys : List Value} {ds : List (Str × Int × Int)} {d : Str × Int × Int} {i : Nat} {base tl all : List (Addr × Obj)} {t : Addr} {n2 : Nat} {ta tb tc : Tok}
  (F : Fr h₀ L h m) (N : News h₀ L h all) (x1 : (I, oI) ∈ all) (x2 : (C, oC) ∈ all) (x3 : (D, lst ys) ∈ all) (x4 : (t, ({ cls := .type "tuple", data := .seq [Value.str d.1 ta, .int d.2.1 tb, .int d.2.2 tc].toArray n2 } : Obj)) ∈ all) (x5 : ∀ p ∈ base ++ tl, p ∈ all)
  (y1 : @Ne Nat t I) (y2 : @Ne Nat t C) (y3 : @Ne Nat t D) (off : Off3 I C D (tl ++ base)) (hdt : DatAll tl ys ((ds.take i).map dueDat)) :
  CompEnd h₀ L m s I oI C oC D (lst ys) (fun _ => True) (fun y news' => SgEl d ax lo ds i base ys y news') (.ref t) { s with heap := h, toks := tk } := by
  refine CompEnd.intro F N (((t, ({ cls := .type "tuple", data := .seq [Value.str d.1 ta, .int d.2.1 tb, .int d.2.2 tc].toArray n2 } : Obj)) :: tl) ++ base) ?_ (Off3.of fun p hp => ?_) trivial ⟨_, rfl, ?_⟩
  · intro p hp
    simp only [List.mem_cons, List.mem_append] at hp
    rcases hp with h | h | h | (h | h) | h
    · exact h ▸ x1
    · exact h ▸ x2
    · exact h ▸ x3
    · exact h ▸ x4
    · exact x5 _ (List.mem_append_right _ h)
    · exact x5 _ (List.mem_append_left _ h)
  · rcases List.mem_cons.mp hp with rfl | hp
    · exact ⟨y1, y2, y3⟩
    · exact off.mem p hp
  · rw [List.map_append]
    exact (hdt.mono fun p hp => .tail _ hp).append (.cons (.tuple (.head _) (.cons (.str _ _) (.cons (.int _ _) (.cons (.int _ _) .nil)))) .nil)
end
theorem ne_same {prog : Program} {w : World} {A : Around} {E : Value → Shared → Prop} {s : Shared} {h₀ : Heap} {L a b : Addr} {news n₁ n₂ : List (Addr × Obj)} {ka kb : Nat} {xs ys : List Value} {ds : List Dat} {Q : Value → Shared → Prop} (N : News h₀ L s.heap news) (ma : (a, listOf xs.toArray ka) ∈ news) (mb : (b, listOf ys.toArray kb) ∈ news)
  (Da : DatAll n₁ xs ds) (Db : DatAll n₂ ys ds) (sa : ∀ p ∈ n₁, p ∈ news) (sb : ∀ p ∈ n₂, p ∈ news) (hk : ∀ d ∈ ds, kqdOk 8 d = true) (hu : A.units + 64 < cLine) (h : Q (.bool false) s) : wpAny (model prog w) A (compareOp .NotEq (.ref a) (.ref b)) Q E s :=
  kqd_ne N ma rfl rfl Da sa mb rfl rfl Db sb hk hk hu (by simpa using h)
theorem dueDat_ok {ds : List (Str × Int × Int)} (h : ∀ q ∈ ds, PyData.strOk q.1 = true) : ∀ e ∈ ds.map dueDat, kqdOk 8 e = true := by
  intro e he
  obtain ⟨q, hq, rfl⟩ := List.mem_map.mp he
  unfold dueDat kqdOk
  simp [kqdOk, h q hq]
theorem dueOf_in (l : List Piece) : ∀ d ∈ dueOf l, ∃ p ∈ l, d.1 = p.2.1 := by
  refine snoc_ind (P := fun l => ∀ d ∈ dueOf l, ∃ p ∈ l, d.1 = p.2.1) (fun _ h => nomatch h) (fun r p ih d hd => ?_) l
  rw [dueOf_snoc] at hd
  rcases List.mem_append.mp hd with hd | hd
  · obtain ⟨q, hq, e⟩ := ih d hd
    exact ⟨q, List.mem_append_left _ hq, e⟩
  · rw [List.mem_singleton.mp hd]
    exact ⟨p, by simp, rfl⟩
theorem dueOf_syms (l : List Piece) : (dueOf l).map (fun d => (d.1, d.2.1)) = l.map fun p => (p.2.1, p.2.2.1) := by
  refine snoc_ind (P := fun l => (dueOf l).map (fun d => (d.1, d.2.1)) = l.map fun p => (p.2.1, p.2.2.1)) rfl (fun r p ih => ?_) l
  rw [dueOf_snoc, List.map_append, List.map_append, ih]
  rfl
theorem syms_eq (l : List Piece) : symsOf ((dueOf l).map fun d => (d.1, d.2.1)) = sumsOf l := by rw [dueOf_syms]; rfl
end Mine
end

section
open PySem PySem.W PyProof.Rows PySem.Spec PySem.Calls
set_option Elab.async false
set_option maxRecDepth 100000
set_option maxHeartbeats 8000000
set_option linter.all false
set_option compiler.extract_closed false
namespace Mine
theorem caught_law {w : World} {A : Around} {env : Env} {base G : Heap} {L e : Addr} {idx : Int} {m : Str → Option Value} {news : List (Addr × Obj)} {s' : Shared} {t : PySem.Expr} {n : Str} {b₀ : Stmt} {suite : List Stmt} {pos : Pos} {rest : List ExceptHandler} {Q : Flow → Shared → Prop} {E : Value → Shared → Prop}
  (hfr : A.frames = some [env]) (hf : env.frame = some L) (hloc : env.locals = L) (hkn : env.kindOf n = some .local) (hpl : (env.scope.kind == .class || (env.scope.kind == .module && env.locals != env.globals)) = false)
  (X : (hd.heap_39 w.params).In base) (R : RaisedF base G [env] e idx news s'.heap) (F : Fr base L G m) (hsm : G.UpToSlots s'.heap)
  (hev : ∀ (h : Heap) (tk : Nat) (Qx : Value → Shared → Prop) (Ex : Value → Shared → Prop), Fr base L h m → Qx (.ref 60) { s' with heap := h, toks := tk } → wpAny (model Challenge.rw_pb0222_01.row.prog w) (A.mark (some (.ref e))) (eval t env) Qx Ex { s' with heap := h, toks := tk })
  (k : ∀ h' dx D u1 u2 mv tm k1 k2 nn ta tb oe tk, Fr base L h' (fun y => if y = n then some (.ref e) else m y) → News base L h' ((e, oe) :: (dx, excDict u1 u2 mv tm D k1 k2 nn) :: (D, tupO [.int 0 ta, .int idx tb]) :: news) → oe.cls = .ref 60 → oe.dict = some dx → notCls oe = true →
    wpAny (model Challenge.rw_pb0222_01.row.prog w) (A.mark (some (.ref e))) (execs (b₀ :: suite) env)
      (fun f s₄ => wpAny (model Challenge.rw_pb0222_01.row.prog w) A (do bindName env n .none; unbindBehindTheSuite env n pos) (fun _ s₅ => Q f s₅) E s₄)
      (AsSuiteRaised (model Challenge.rw_pb0222_01.row.prog w) (A.mark (some (.ref e))) env n pos (notedBy (model Challenge.rw_pb0222_01.row.prog w) (A.mark (some (.ref e))) env (cameBackBy (model Challenge.rw_pb0222_01.row.prog w) A env E)))
      { s' with heap := h', toks := tk }) :
  wpAny (model Challenge.rw_pb0222_01.row.prog w) A (noteFrame (.ref e) env) (fun _ s₂ => wpAny (model Challenge.rw_pb0222_01.row.prog w) A (setFlight (.ref e) none) (fun _ s₃ => wpAny (model Challenge.rw_pb0222_01.row.prog w) A (handleBy (.ref e) env (.ExceptHandler (some t) (some n) (b₀ :: suite) pos :: rest)) Q E s₃) E s₂) E s' := by
  obtain ⟨tt, msg, dx, D, u1, u2, mv, tm, k1, k2, nn, ta, tb, ⟨⟨B, hB, hBG, hl, hfl, hnew⟩, htup⟩, hdi⟩ := R
  have hLB : B.get? L = none := by
    obtain ⟨_, ⟨L', _, hf', hn', _⟩, _⟩ := hfl.2.2.1
    rw [hf] at hf'
    obtain rfl : L = L' := Option.some.inj hf'
    exact hn'
  have hL0 : base.get? L = none := fresh_of_stays hB hLB
  refine wpAny_mono (kd_any (kd_noteFrame _ _) (wpAny_looks_onW (E := fun _ _ => False) (Q := fun _ s'' => ∃ h', s'' = { s' with heap := h' } ∧ Heap.HeldW B [env] e (.ref 60) (.ref tt) L h' ∧ s'.heap.UpToSlots h') hfr hf hfl fun h₄ a b => ⟨h₄, rfl, a, b⟩)) ?_ fun _ _ x => x.1.elim
  rintro _ _ ⟨⟨h₄, rfl, hheld₄, hsm₄⟩, dk₄⟩
  refine wpAny_mono (kd_any (kd_setFlight _ _) (wpAny_landsW (E := fun _ _ => False) (Q := fun _ s'' => ∃ h', s'' = { s' with heap := h' } ∧ Heap.FlyingW B [env] e (.ref 60) (.ref tt) h' ∧ h₄.UpToSlots h') hheld₄ fun h₅ a b => ⟨h₅, rfl, a, b⟩)) ?_ fun _ _ x => x.1.elim
  rintro _ _ ⟨⟨h₅, rfl, hfl₅, hsm₅⟩, dk₅⟩
  have F₅ : Fr base L h₅ m := Fr.of_stays F (fun b o q => hfl₅.1 b o (hB b o q)) ((hsm.trans hsm₄).trans hsm₅)
  refine wpAny_handleBy_cons (codeAny_handlers_test (hev h₅ _ _ _ F₅ ?_)) (by intro q; cases q)
  obtain ⟨oe, ws, hoe, hoec, hoed, hoe0⟩ := hfl₅.first
  have X₅ : (hd.heap_39 w.params).In h₅ := X.keeps fun b o q => hfl₅.1 b o (hB b o q)
  have LT : Looks (model Challenge.rw_pb0222_01.row.prog w) h₅ (typeOf (.ref e)) (.ref 60) := hoec ▸ ((Looks.ld hoe).andThen .now)
  have EM : Looks (model Challenge.rw_pb0222_01.row.prog w) h₅ (excMatches (.ref e) (.ref 60)) true := exm_one X₅ LT (by kernel_rfl)
  refine EM.here ?_
  refine codeAny_handlers_suite_as ?_
  refine wpAny_mono (kd_any (kd_setFlight _ _) (lands_againW (E := fun _ _ => False) (Q := fun _ s'' => ∃ h' tk, s'' = { s' with heap := h', toks := tk } ∧ Heap.FlyingW B [env] e (.ref 60) (.ref tt) h' ∧ h₅.UpToSlots h') hfl₅ fun h₆ a b => ⟨h₆, _, rfl, a, b⟩)) ?_ fun _ _ x => x.1.elim
  rintro _ _ ⟨⟨h₆, tk₆, rfl, hfl₆, hsm₆⟩, dk₆⟩
  have F₆ : Fr base L h₆ m := Fr.of_stays F (fun b o q => hfl₆.1 b o (hB b o q)) (((hsm.trans hsm₄).trans hsm₅).trans hsm₆)
  obtain ⟨oe₆, ws₆, hoe₆, hoec₆, hoed₆, hoe0₆⟩ := hfl₆.first
  have hd₆ : oe₆.dict = some dx := (((hdi.keeps dk₄).keeps dk₅).keeps dk₆).at hoe₆
  subst hloc
  refine wpAny_storeName_local hkn F₆.ns (fun h₇ hn₇ hs₇ => ?_) hpl
  have N₆ : News base env.locals h₆ ((e, oe₆) :: (dx, excDict u1 u2 mv tm D k1 k2 nn) :: (D, tupO [.int 0 ta, .int idx tb]) :: news) := fun q hq => by
    rcases List.mem_cons.mp hq with rfl | hq
    · refine ⟨hoe₆, fun z => ?_, fresh_of_stays hB hfl₆.2.1⟩
      obtain ⟨_, es, _, ho', hd', _⟩ := F₆.ns
      have z' : e = env.locals := z
      rw [← z', hoe₆] at ho'
      cases ho'
      rw [hoed₆] at hd'
      cases hd'
    · have h9 := hl q hq
      exact ⟨hfl₆.1 _ _ h9.1, (fun z => by have := h9.1; rw [z, hLB] at this; cases this), h9.2.2⟩
  exact k h₇ dx D u1 u2 mv tm k1 k2 nn ta tb oe₆ _ (F₆.set hn₇ hs₇) (N₆.set hs₇) hoec₆ hd₆ (by unfold notCls; rw [hoed₆])
end Mine
end

section
open PySem PySem.W PyProof.Rows PySem.Spec PySem.Calls
set_option Elab.async false
set_option maxRecDepth 100000
set_option maxHeartbeats 8000000
set_option linter.all false
set_option compiler.extract_closed false
namespace Mine
open Builtin Builtin.Str
theorem str_ext {x y : PySem.Str} (h : x.cps.toList = y.cps.toList) : x = y := by
  obtain ⟨⟨a⟩⟩ := x
  obtain ⟨⟨b⟩⟩ := y
  cases (show a = b from h)
  rfl
theorem app_list (x y : PySem.Str) : (x ++ y).cps.toList = x.cps.toList ++ y.cps.toList := by
  show (x.cps ++ y.cps).toList = _
  rw [Array.toList_append]
theorem len_list (x : PySem.Str) : x.cps.toList.length = x.length := rfl
theorem idx_hi {n a b : Nat} (h : n ≤ b) : strSliceIndices (some (a : Int)) (some (b : Int)) 1 n = strSliceIndices (some (a : Int)) (some (n : Int)) 1 n := by
  have h0 : ¬ (a : Int) < 0 := Int.not_lt.mpr (Int.natCast_nonneg a)
  have h1 : ¬ (b : Int) < 0 := Int.not_lt.mpr (Int.natCast_nonneg b)
  have h3 : ¬ (n : Int) < 0 := Int.not_lt.mpr (Int.natCast_nonneg n)
  have h2 : (1 : Int) > 0 := by decide
  simp only [strSliceIndices, h0, h1, h2, h3, if_false, if_true, Int.min_eq_right (Int.ofNat_le.mpr h), Int.min_self]
theorem idx_lo {n a b : Nat} (h : n ≤ a) : strSliceIndices (some (a : Int)) (some (b : Int)) 1 n = strSliceIndices (some (n : Int)) (some (b : Int)) 1 n := by
  have h0 : ¬ (a : Int) < 0 := Int.not_lt.mpr (Int.natCast_nonneg a)
  have h1 : ¬ (b : Int) < 0 := Int.not_lt.mpr (Int.natCast_nonneg b)
  have h3 : ¬ (n : Int) < 0 := Int.not_lt.mpr (Int.natCast_nonneg n)
  have h2 : (1 : Int) > 0 := by decide
  simp only [strSliceIndices, h0, h1, h2, h3, if_false, if_true, Int.min_eq_right (Int.ofNat_le.mpr h), Int.min_self]
theorem slice_in (x : PySem.Str) (a b : Nat) (h : a ≤ b) (hb : b ≤ x.length) : (Txt.slice x (some (a : Int)) (some (b : Int))).cps.toList = (x.cps.toList.drop a).take (b - a) := by
  have := slice_closesL (x := x) (i := (a : Int)) (j := (b : Int)) (Int.natCast_nonneg a) (Int.ofNat_le.mpr h) (Int.ofNat_le.mpr hb)
  rw [beq_iff_eq] at this
  rw [this, ← Int.ofNat_sub h]
  rfl
theorem slice_of_idx {x : PySem.Str} {i j k l : Option Int} (h : strSliceIndices i j 1 x.length = strSliceIndices k l 1 x.length) : Txt.slice x i j = Txt.slice x k l := by
  unfold Txt.slice
  rw [h]
theorem idx_nil {n a b : Nat} (h : b ≤ a) (ha : a ≤ n) : strSliceIndices (some (a : Int)) (some (b : Int)) 1 n = [] := by
  have h0 : ¬ (a : Int) < 0 := Int.not_lt.mpr (Int.natCast_nonneg a)
  have h1 : ¬ (b : Int) < 0 := Int.not_lt.mpr (Int.natCast_nonneg b)
  have h2 : (1 : Int) > 0 := by decide
  have h5 : ¬ (a : Int) < (b : Int) := Int.not_lt.mpr (Int.ofNat_le.mpr h)
  simp only [strSliceIndices, sliceRange, h0, h1, h2, if_false, if_true, Int.min_eq_left (Int.ofNat_le.mpr ha), Int.min_eq_left (Int.ofNat_le.mpr (Nat.le_trans h ha)), Int.max_eq_right (Int.natCast_nonneg a), Int.max_eq_right (Int.natCast_nonneg b), h5]
  rfl
theorem slice_nil {x : PySem.Str} {i j : Option Int} (h : strSliceIndices i j 1 x.length = []) : (Txt.slice x i j).cps.toList = [] := by
  unfold Txt.slice
  rw [h]
  split
  · rename_i q
    have q' : ([] : List Nat).length = x.length := beq_iff_eq.mp (Bool.and_eq_true_iff.mp q).2
    exact List.eq_nil_of_length_eq_zero q'.symm
  · rfl
theorem slice_nat (x : PySem.Str) (a b : Nat) : (Txt.slice x (some (a : Int)) (some (b : Int))).cps.toList = (x.cps.toList.drop a).take (b - a) := by
  rcases Nat.lt_or_ge x.length b with hb | hb
  · rw [slice_of_idx (idx_hi (Nat.le_of_lt hb))]
    rcases Nat.lt_or_ge x.length a with ha | ha
    · rw [slice_of_idx (idx_lo (Nat.le_of_lt ha)), slice_in x _ _ (Nat.le_refl _) (Nat.le_refl _), Nat.sub_self, List.take_zero, List.drop_of_length_le (Nat.le_of_lt ha), List.take_nil]
    · rw [slice_in x _ _ ha (Nat.le_refl _), List.take_of_length_le (by rw [List.length_drop]; exact Nat.le_refl _), List.take_of_length_le (by rw [List.length_drop]; exact Nat.sub_le_sub_right (Nat.le_of_lt hb) a)]
  · rcases Nat.lt_or_ge b a with ha | ha
    · rw [Nat.sub_eq_zero_of_le (Nat.le_of_lt ha), List.take_zero]
      rcases Nat.lt_or_ge x.length a with hc | hc
      · exact slice_nil ((idx_lo (Nat.le_of_lt hc)).trans (idx_nil hb (Nat.le_refl _)))
      · exact slice_nil (idx_nil (Nat.le_of_lt ha) hc)
    · exact slice_in x _ _ ha hb
theorem slice_lst (x : PySem.Str) (i j : Int) (h0 : 0 ≤ i) (h1 : 0 ≤ j) : (Txt.slice x (some i) (some j)).cps.toList = (x.cps.toList.drop i.toNat).take (j.toNat - i.toNat) := by
  obtain ⟨a, rfl⟩ := Int.eq_ofNat_of_zero_le h0
  obtain ⟨b, rfl⟩ := Int.eq_ofNat_of_zero_le h1
  exact slice_nat x a b
theorem slice_shift (P X : PySem.Str) (i j : Int) (h0 : 0 ≤ i) (h1 : 0 ≤ j) : Txt.slice (P ++ X) (some ((P.length : Int) + i)) (some ((P.length : Int) + j)) = Txt.slice X (some i) (some j) := by
  obtain ⟨a, rfl⟩ := Int.eq_ofNat_of_zero_le h0
  obtain ⟨b, rfl⟩ := Int.eq_ofNat_of_zero_le h1
  apply str_ext
  rw [← Int.natCast_add, ← Int.natCast_add, slice_nat, slice_nat, app_list, ← len_list P, List.drop_append, List.drop_of_length_le (Nat.le_add_right _ _), List.nil_append, Nat.add_sub_cancel_left, Nat.add_sub_add_left]
theorem slice_ahead (X S : PySem.Str) (i j : Int) (h0 : 0 ≤ i) (h1 : 0 ≤ j) (h2 : j ≤ X.length) : Txt.slice (X ++ S) (some i) (some j) = Txt.slice X (some i) (some j) := by
  obtain ⟨a, rfl⟩ := Int.eq_ofNat_of_zero_le h0
  obtain ⟨b, rfl⟩ := Int.eq_ofNat_of_zero_le h1
  have h3 : b ≤ X.cps.toList.length := Int.ofNat_le.mp h2
  apply str_ext
  rw [slice_nat, slice_nat, app_list]
  rcases Nat.lt_or_ge b a with h | h
  · rw [Nat.sub_eq_zero_of_le (Nat.le_of_lt h), List.take_zero, List.take_zero]
  · rw [List.drop_append_of_le_length (Nat.le_trans h h3), List.take_append_of_le_length (by rw [List.length_drop]; exact Nat.sub_le_sub_right h3 a)]
theorem item_nat (x : PySem.Str) (i : Int) (h0 : 0 ≤ i) (h1 : i < x.length) : Txt.item x i = ⟨#[x.cps.toList.getD i.toNat 0]⟩ := by
  have e : seqIndex? i x.length = some i.toNat := by
    unfold seqIndex?
    have h2 : ¬ i < 0 := by omega
    simp [h2, h0, h1]
  unfold Txt.item Txt.charAt
  rw [e]
  simp
theorem item_shift (P X : PySem.Str) (i : Int) (h0 : 0 ≤ i) (h1 : i < X.length) : Txt.item (P ++ X) ((P.length : Int) + i) = Txt.item X i := by
  have hl : (P ++ X).length = P.length + X.length := by
    show (P.cps ++ X.cps).size = _
    rw [Array.size_append]; rfl
  rw [item_nat _ _ (by omega) (by omega), item_nat _ _ h0 h1, app_list]
  rw [List.getD_eq_getElem?_getD, List.getD_eq_getElem?_getD, show ((P.length : Int) + i).toNat = P.cps.toList.length + i.toNat by rw [len_list]; omega]
  rw [List.getElem?_append_right (by omega), Nat.add_sub_cancel_left]
theorem item_ahead (X S : PySem.Str) (i : Int) (h0 : 0 ≤ i) (h1 : i < X.length) : Txt.item (X ++ S) i = Txt.item X i := by
  have hl : (X ++ S).length = X.length + S.length := by
    show (X.cps ++ S.cps).size = _
    rw [Array.size_append]; rfl
  rw [item_nat _ _ (by omega) (by omega), item_nat _ _ h0 h1, app_list]
  rw [List.getD_eq_getElem?_getD, List.getD_eq_getElem?_getD, List.getElem?_append_left (by rw [len_list]; omega)]
/-- where a sign is first found -/
noncomputable def FindIs (x : PySem.Str) (c : Nat) (i : Nat) (r : Int) : Prop :=
  (r = -1 ∧ ∀ v, i ≤ v → v < x.length → x.cps.toList[v]? ≠ some c) ∨ ∃ k : Nat, r = (k : Int) ∧ i ≤ k ∧ x.cps.toList[k]? = some c ∧ ∀ v, i ≤ v → v < k → x.cps.toList[v]? ≠ some c
theorem find_is (x : PySem.Str) (c : Nat) (i : Int) (h0 : 0 ≤ i) : FindIs x c i.toNat (Txt.find3 x ⟨#[c]⟩ i) := by
  have e : fromIndex x.length i = i.toNat := by unfold fromIndex; rw [if_neg (by omega)]; omega
  have h := StrLaws.find3_spec x c i
  rw [e] at h
  rcases h with ⟨h1, h2⟩ | ⟨k, h1, h2, h3, h4, h5⟩
  · exact .inl ⟨h1, fun v a b z => h2 v a b (StrLaws.getD_of_getElem? z)⟩
  · exact .inr ⟨k, h1, h2, StrLaws.getElem?_of_getD h3 h4, fun v a b z => h5 v a b (StrLaws.getD_of_getElem? z)⟩
theorem lt_of_some {x : PySem.Str} {k c : Nat} (h : x.cps.toList[k]? = some c) : k < x.length := by
  rw [← len_list]
  exact (List.getElem?_eq_some_iff.mp h).1
theorem FindIs.one {x : PySem.Str} {c i : Nat} {r r' : Int} (h : FindIs x c i r) (h' : FindIs x c i r') : r = r' := by
  rcases h with ⟨h1, h2⟩ | ⟨k, h1, h2, h3, h4⟩ <;> rcases h' with ⟨g1, g2⟩ | ⟨m, g1, g2, g3, g4⟩
  · rw [h1, g1]
  · exact absurd g3 (h2 m g2 (lt_of_some g3))
  · exact absurd h3 (g2 k h2 (lt_of_some h3))
  · rcases Nat.lt_trichotomy k m with q | q | q
    · exact absurd h3 (g4 k h2 q)
    · rw [h1, g1, q]
    · exact absurd g3 (h4 m g2 q)
theorem find_shift (P X : PySem.Str) (c : Nat) (i : Int) (h0 : 0 ≤ i) : Txt.find3 (P ++ X) ⟨#[c]⟩ ((P.length : Int) + i) = if Txt.find3 X ⟨#[c]⟩ i < 0 then -1 else (P.length : Int) + Txt.find3 X ⟨#[c]⟩ i := by
  have hl : (P ++ X).length = P.length + X.length := by
    show (P.cps ++ X.cps).size = _
    rw [Array.size_append]; rfl
  have hg : ∀ v, (P ++ X).cps.toList[P.length + v]? = X.cps.toList[v]? := fun v => by
    rw [app_list, ← len_list P, List.getElem?_append_right (by omega), Nat.add_sub_cancel_left]
  refine (find_is (P ++ X) c ((P.length : Int) + i) (by omega)).one ?_
  rw [show ((P.length : Int) + i).toNat = P.length + i.toNat by omega]
  rcases find_is X c i h0 with ⟨h1, h2⟩ | ⟨k, h1, h2, h3, h4⟩
  · rw [h1]
    refine .inl ⟨rfl, fun v a b => ?_⟩
    have e : v = P.length + (v - P.length) := by omega
    rw [e, hg]
    exact h2 _ (by omega) (by omega)
  · rw [h1, if_neg (by omega)]
    refine .inr ⟨P.length + k, by omega, by omega, by rw [hg]; exact h3, fun v a b => ?_⟩
    have e : v = P.length + (v - P.length) := by omega
    rw [e, hg]
    exact h4 _ (by omega) (by omega)
theorem find_ahead (X S : PySem.Str) (c : Nat) (i : Int) (h0 : 0 ≤ i) (hf : 0 ≤ Txt.find3 X ⟨#[c]⟩ i) : Txt.find3 (X ++ S) ⟨#[c]⟩ i = Txt.find3 X ⟨#[c]⟩ i := by
  refine (find_is (X ++ S) c i h0).one ?_
  rcases find_is X c i h0 with ⟨h1, h2⟩ | ⟨k, h1, h2, h3, h4⟩
  · omega
  · have hk := lt_of_some h3
    refine .inr ⟨k, h1, h2, ?_, fun v a b => ?_⟩
    · rw [app_list, List.getElem?_append_left hk]; exact h3
    · rw [app_list, List.getElem?_append_left (by rw [len_list]; omega)]; exact h4 v a b
end Mine
end

section
open PySem PySem.W PyProof.Rows PySem.Spec PySem.Calls
set_option Elab.async false
set_option maxRecDepth 100000
set_option maxHeartbeats 8000000
set_option linter.all false
set_option compiler.extract_closed false
namespace Mine
open Builtin Builtin.Str
noncomputable def pairB (X : PySem.Str) (i : Int) : Bool := [Str.ofString "CR", Str.ofString "DB"].any fun x => x == Txt.slice X (some i) (some (i + 2))
noncomputable def noneB (X : PySem.Str) (i : Int) : Bool := (Builtin.Str.occurrences (Str.ofString "ABPSVXZ90/,.+-*$") (Txt.item X i) 0 (Str.ofString "ABPSVXZ90/,.+-*$").length 1).isEmpty
noncomputable def openB (X : PySem.Str) (i : Int) : Bool := Txt.slice X (some i) (some (i + 1)) != Str.ofString "("
noncomputable def figsB (x : PySem.Str) : Bool := decide (1 ≤ x.length) && decide (x.length ≤ 4) && (oddOf x.cps.toList).isEmpty && NumText.digitsVal x.cps.toList != 0
theorem figsB_ok {x : PySem.Str} (h : figsB x = true) : CountOk x := by
  unfold figsB at h
  simp only [Bool.and_eq_true, decide_eq_true_eq, bne_iff_ne, List.isEmpty_iff] at h
  exact ⟨h.1.1.1, h.1.1.2, h.1.2, h.2⟩
theorem figsB_no {x : PySem.Str} (h : figsB x = false) : ¬ CountOk x := fun c => by
  unfold figsB at h
  rw [Bool.and_eq_false_iff, Bool.and_eq_false_iff, Bool.and_eq_false_iff] at h
  rcases h with ((h | h) | h) | h
  · have := c.lo; simp at h; omega
  · have := c.hi; simp at h; omega
  · rw [c.all] at h; cases h
  · have := c.pos; simp at h; exact this h
noncomputable def signB (X : PySem.Str) (sg : PySem.Str) : Bool := if pairB X 0 then Txt.slice X (some 0) (some 2) == sg else !noneB X 0 && Txt.item X 0 == sg
noncomputable def countB (X : PySem.Str) (p n e : Int) : Bool := if openB X p then n == 1 && e == p else figsB (figsOf X p) && n == (NumText.digitsVal (figsOf X p).cps.toList : Nat) && e == Txt.find3 X (Str.ofString ")") p + 1 && decide (0 ≤ Txt.find3 X (Str.ofString ")") p)
noncomputable def turnB (X sg : PySem.Str) (n e : Int) : Bool := signB X sg && countB X sg.length n e && (decide (e ≤ sg.length) || !isAlone sg) && decide (0 < e) && decide (sg.length ≤ 2)

theorem pair_iff (X : PySem.Str) (i : Int) : pairB X i = [Str.ofString "CR", Str.ofString "DB"].any fun x => x == Txt.slice X (some i) (some (i + 2)) := rfl
theorem sign_of {X sg : PySem.Str} (h : signB X sg = true) : SignIs X 0 sg := by
  unfold signB at h
  cases hp : pairB X 0 with
  | true =>
    rw [hp, if_pos rfl, beq_iff_eq] at h
    subst h
    exact .pair hp
  | false =>
    rw [hp, if_neg (by decide), Bool.and_eq_true, beq_iff_eq] at h
    obtain ⟨h1, rfl⟩ := h
    exact .one hp (by simpa [noneB] using h1)
theorem count_of {X : PySem.Str} {p n e : Int} (h : countB X p n e = true) : CountIs X p n e := by
  unfold countB at h
  cases hp : openB X p with
  | true =>
    rw [hp, if_pos rfl, Bool.and_eq_true, beq_iff_eq, beq_iff_eq] at h
    obtain ⟨rfl, rfl⟩ := h
    exact .no hp
  | false =>
    rw [hp, if_neg (by decide), Bool.and_eq_true, Bool.and_eq_true, Bool.and_eq_true, beq_iff_eq, beq_iff_eq] at h
    obtain ⟨⟨⟨h1, rfl⟩, rfl⟩, h4⟩ := h
    exact .yes hp (figsB_ok h1)
theorem figs_shift (P X : PySem.Str) (i : Int) (h0 : 0 ≤ i) : figsOf (P ++ X) ((P.length : Int) + i) = figsOf X i := by
  have hf : Txt.find3 (P ++ X) (Str.ofString ")") ((P.length : Int) + i) = _ := find_shift P X 41 i h0
  have he : Txt.find3 X (Str.ofString ")") i = Txt.find3 X ⟨#[41]⟩ i := rfl
  have hs : ∀ a j, 0 ≤ a → 0 ≤ j → Txt.slice (P ++ X) (some ((P.length : Int) + a)) (some ((P.length : Int) + j)) = Txt.slice X (some a) (some j) := slice_shift P X
  unfold figsOf
  rw [hf, he]
  generalize Txt.find3 X ⟨#[41]⟩ i = f
  rw [show (P.length : Int) + i + 1 = (P.length : Int) + (i + 1) by omega]
  by_cases h : f < 0
  · rw [if_pos h, if_pos (by omega), if_pos (by omega)]
    exact hs _ _ (by omega) h0
  · rw [if_neg h]
    by_cases g : i > f
    · rw [if_pos (by omega), if_pos g]; exact hs _ _ (by omega) h0
    · rw [if_neg (by omega), if_neg g]; exact hs _ _ (by omega) (by omega)
theorem figs_none (X : PySem.Str) (i : Int) (h0 : 0 ≤ i) (hf : Txt.find3 X (Str.ofString ")") i < 0) : (figsOf X i).length = 0 := by
  unfold figsOf
  rw [if_pos (by omega), ← len_list, slice_lst _ _ _ (by omega) h0, show i.toNat - (i + 1).toNat = 0 by omega]
  rfl
theorem SignIs.shift {X sg : PySem.Str} {i : Int} (P : PySem.Str) (h0 : 0 ≤ i) (h1 : i < X.length) (h : SignIs X i sg) : SignIs (P ++ X) ((P.length : Int) + i) sg := by
  have e := slice_shift P X i (i + 2) h0 (by omega)
  rw [← Int.add_assoc] at e
  have e2 := item_shift P X i h0 h1
  cases h with
  | pair p => rw [← e] at p ⊢; exact .pair p
  | one p q => rw [← e] at p; rw [← e2] at q ⊢; exact .one p q
theorem SignBad.shift {X : PySem.Str} {i : Int} (P : PySem.Str) (h0 : 0 ≤ i) (h1 : i < X.length) (h : SignBad X i) : SignBad (P ++ X) ((P.length : Int) + i) := by
  have e := slice_shift P X i (i + 2) h0 (by omega)
  rw [← Int.add_assoc] at e
  have e2 := item_shift P X i h0 h1
  obtain ⟨p, q⟩ := h
  rw [← e] at p
  rw [← e2] at q
  exact ⟨p, q⟩
theorem CountIs.shift {X : PySem.Str} {i n e : Int} (P : PySem.Str) (h0 : 0 ≤ i) (h : CountIs X i n e) : CountIs (P ++ X) ((P.length : Int) + i) n ((P.length : Int) + e) := by
  have e1 := slice_shift P X i (i + 1) h0 (by omega)
  rw [← Int.add_assoc] at e1
  cases h with
  | no p => rw [← e1] at p; exact .no p
  | yes p q =>
    have hf : Txt.find3 (P ++ X) (Str.ofString ")") ((P.length : Int) + i) = _ := find_shift P X 41 i h0
    rw [if_neg (by
      intro z
      have h2 := q.lo
      have h3 := figs_none X i h0 z
      omega)] at hf
    rw [← e1] at p
    have e3 := figs_shift P X i h0
    have r := CountIs.yes p (by rw [e3]; exact q)
    rw [hf, e3, Int.add_assoc] at r
    exact r
theorem CountBad.shift {X : PySem.Str} {i : Int} (P : PySem.Str) (h0 : 0 ≤ i) (h : CountBad X i) : CountBad (P ++ X) ((P.length : Int) + i) := by
  have e1 := slice_shift P X i (i + 1) h0 (by omega)
  rw [← Int.add_assoc] at e1
  obtain ⟨p, q⟩ := h
  rw [← e1] at p
  exact ⟨p, by rw [figs_shift P X i h0]; exact q⟩
theorem len_app (x y : PySem.Str) : (x ++ y).length = x.length + y.length := by
  show (x.cps ++ y.cps).size = _
  rw [Array.size_append]; rfl
theorem Turn.shift {X sg : PySem.Str} {n e : Int} (P : PySem.Str) (h : Turn X 0 sg n e) : Turn (P ++ X) P.length sg n ((P.length : Int) + e) := by
  have hl := len_app P X
  obtain ⟨lo, lt, sn, ln, sl, ct, al, up, hi⟩ := h
  have z := (SignIs.shift P lo lt sn)
  have z2 := CountIs.shift P (by omega) ct
  rw [Int.add_zero] at z
  rw [Int.zero_add] at z2
  exact ⟨by omega, by omega, z, by omega, sl, z2, fun q => al (by omega), by omega, by omega⟩
theorem BadAt.shift {X : PySem.Str} {i : Int} (P : PySem.Str) (hX : 0 < X.length) (h : BadAt X 0 i) : BadAt (P ++ X) P.length ((P.length : Int) + i) := by
  have hl := len_app P X
  cases h with
  | sign b =>
    have z := b.shift P (Int.le_refl 0) (by omega)
    rw [Int.add_zero] at z ⊢
    exact .sign z
  | count s l n c =>
    have z := s.shift P (Int.le_refl 0) (by omega)
    have z2 := c.shift P (by omega)
    rw [Int.add_zero] at z
    rw [Int.zero_add] at z2 ⊢
    exact .count z l (by omega) z2
  | alone s l n c g a =>
    have z := s.shift P (Int.le_refl 0) (by omega)
    have z2 := c.shift P (by omega)
    rw [Int.add_zero] at z
    rw [Int.zero_add] at z2 ⊢
    exact .alone z l (by omega) z2 (by omega) a
theorem turn_here {X sg : PySem.Str} {n e : Int} (h : turnB X sg n e = true) (he : e ≤ X.length) (hs : sg.length ≤ X.length) : Turn X 0 sg n e := by
  unfold turnB at h
  simp only [Bool.and_eq_true, decide_eq_true_eq, Bool.or_eq_true, Bool.not_eq_true'] at h
  obtain ⟨⟨⟨⟨h1, h2⟩, h3⟩, h4⟩, h5⟩ := h
  have c := count_of h2
  exact ⟨Int.le_refl _, by omega, sign_of h1, by omega, h5, by rw [Int.zero_add]; exact c, fun g => by rcases h3 with h3 | h3; (· omega); exact h3, h4, he⟩
theorem turn_on {X sg : PySem.Str} {n e : Int} (S : PySem.Str) (h : turnB X sg n e = true) (he : e ≤ X.length) (h2 : 2 ≤ X.length) (hs : sg.length + 1 ≤ X.length) : turnB (X ++ S) sg n e = true := by
  have e1 : pairB (X ++ S) 0 = pairB X 0 := by unfold pairB; rw [slice_ahead X S 0 (0 + 2) (by omega) (by omega) (by omega)]
  have e2 : Txt.slice (X ++ S) (some 0) (some 2) = Txt.slice X (some 0) (some 2) := slice_ahead X S 0 2 (by omega) (by omega) (by omega)
  have e3 : noneB (X ++ S) 0 = noneB X 0 := by unfold noneB; rw [item_ahead X S 0 (by omega) (by omega)]
  have e4 : Txt.item (X ++ S) 0 = Txt.item X 0 := item_ahead X S 0 (by omega) (by omega)
  have e5 : openB (X ++ S) sg.length = openB X sg.length := by unfold openB; rw [slice_ahead X S _ _ (by omega) (by omega) (by omega)]
  unfold turnB signB countB at h ⊢
  rw [e1, e2, e3, e4, e5]
  cases hp : openB X sg.length with
  | true => rw [hp] at h; exact h
  | false =>
    rw [hp] at h
    have hf : 0 ≤ Txt.find3 X (Str.ofString ")") sg.length := by
      simp only [Bool.false_eq_true, if_false, Bool.and_eq_true, decide_eq_true_eq] at h
      exact h.1.1.1.2.2
    have hf2 : Txt.find3 (X ++ S) (Str.ofString ")") sg.length = Txt.find3 X (Str.ofString ")") sg.length := find_ahead X S 41 _ (by omega) hf
    have hf3 := (fact_find3 X (Str.ofString ")") sg.length).2
    have e6 : figsOf (X ++ S) sg.length = figsOf X sg.length := by
      unfold figsOf
      rw [hf2]
      refine slice_ahead X S _ _ (by omega) ?_ ?_ <;> split <;> omega
    rw [e6, hf2]
    exact h
noncomputable def badB (X sg : PySem.Str) (i : Int) : Bool := (!pairB X 0 && noneB X 0 && i == 0) || (signB X sg && decide (sg.length ≤ 2) && decide (sg.length ≤ X.length) && i == (sg.length : Int) && !openB X sg.length &&
  (!figsB (figsOf X sg.length) || (decide (Txt.find3 X (Str.ofString ")") sg.length + 1 > sg.length) && isAlone sg)))
theorem bad_here {X sg : PySem.Str} {i : Int} (h : badB X sg i = true) : BadAt X 0 i := by
  unfold badB at h
  rw [Bool.or_eq_true] at h
  rcases h with h | h
  · simp only [Bool.and_eq_true, Bool.not_eq_true', beq_iff_eq] at h
    obtain ⟨⟨a, b⟩, rfl⟩ := h
    exact .sign ⟨a, b⟩
  · simp only [Bool.and_eq_true, Bool.not_eq_true', beq_iff_eq, decide_eq_true_eq] at h
    obtain ⟨⟨⟨⟨⟨a, b⟩, c⟩, rfl⟩, o⟩, h⟩ := h
    have z : (0 : Int) + (sg.length : Int) = sg.length := Int.zero_add _
    by_cases hk : CountOk (figsOf X sg.length)
    · rw [Bool.or_eq_true] at h
      rcases h with h | h
      · exact absurd hk (figsB_no (by simpa using h))
      · rw [Bool.and_eq_true, decide_eq_true_eq] at h
        have r := BadAt.alone (T := X) (a := 0) (sg := sg) (sign_of a) b (by omega) (by rw [z]; exact .yes o hk) (by omega) h.2
        rw [z] at r
        exact r
    · have r := BadAt.count (T := X) (a := 0) (sg := sg) (sign_of a) b (by omega) (by rw [z]; exact ⟨o, hk⟩)
      rw [z] at r
      exact r
end Mine
end

section
open PySem PySem.W PyProof.Rows PySem.Spec PySem.Calls
set_option Elab.async false
set_option maxRecDepth 100000
set_option maxHeartbeats 8000000
set_option linter.all false
set_option compiler.extract_closed false
namespace Mine
theorem Parse.snoc {T sg : PySem.Str} {a b n e : Int} {ds : List (PySem.Str × Int × Int)} (h : Parse T a ds b) (t : Turn T b sg n e) : Parse T a (ds ++ [(sg, n, b)]) e := by
  induction h with
  | nil a => exact .cons t (.nil _)
  | cons u _ ih => exact .cons u (ih t)
/-- the signs that may stand behind a piece -/
noncomputable def nexts : List Nat := [57, 88, 65, 66, 90, 42, 83, 86, 80, 67, 68, 46, 44, 36, 47, 81, 32]
noncomputable def NextOk (Z : PySem.Str) : Prop := Z.cps.toList = [] ∨ ∃ c r, c ∈ nexts ∧ Z.cps.toList = c :: r
noncomputable def pieceOk (p : Piece) (X : PySem.Str) : Bool := turnB X p.2.1 p.2.2.1 p.1.length && decide (1 ≤ p.1.length) && decide (p.2.1.length ≤ p.1.length)
theorem piece_end : ∀ p ∈ piecesL, pieceOk p p.1 = true := by decide +kernel
theorem piece_next : ∀ p ∈ piecesL, ∀ c ∈ nexts, pieceOk p (p.1 ++ ⟨#[c]⟩) = true := by decide +kernel
theorem piece_first : ∀ p ∈ piecesL, ∃ c ∈ nexts, p.1.cps.toList.head? = some c := by decide +kernel
theorem piece_turn {p : Piece} (hp : p ∈ piecesL) (P Z : PySem.Str) (hZ : NextOk Z) : Turn (P ++ (p.1 ++ Z)) P.length p.2.1 p.2.2.1 ((P.length : Int) + p.1.length) := by
  refine Turn.shift P ?_
  rcases hZ with hz | ⟨c, r, hc, hz⟩
  · have e : p.1 ++ Z = p.1 := str_ext (by rw [app_list, hz, List.append_nil])
    rw [e]
    have h := piece_end p hp
    unfold pieceOk at h
    simp only [Bool.and_eq_true, decide_eq_true_eq] at h
    exact turn_here h.1.1 (Int.le_refl _) h.2
  · have e : p.1 ++ Z = (p.1 ++ ⟨#[c]⟩) ++ ⟨r.toArray⟩ := str_ext (by rw [app_list, app_list, app_list, hz]; simp)
    have h := piece_next p hp c hc
    unfold pieceOk at h
    simp only [Bool.and_eq_true, decide_eq_true_eq] at h
    have hl := len_app p.1 ⟨#[c]⟩
    have hl2 : (⟨#[c]⟩ : PySem.Str).length = 1 := rfl
    have hl3 := len_app (p.1 ++ ⟨#[c]⟩) ⟨r.toArray⟩
    rw [e]
    exact turn_here (turn_on _ h.1.1 (by omega) (by omega) (by omega)) (by omega) (by omega)
theorem next_piece {p : Piece} (hp : p ∈ piecesL) (Z : PySem.Str) : NextOk (p.1 ++ Z) := by
  obtain ⟨c, hc, h⟩ := piece_first p hp
  cases hl : p.1.cps.toList with
  | nil => rw [hl] at h; cases h
  | cons d r =>
    rw [hl] at h
    cases h
    exact .inr ⟨_, r ++ Z.cps.toList, hc, by rw [app_list, hl]; rfl⟩
theorem str_assoc (x y z : PySem.Str) : (x ++ y) ++ z = x ++ (y ++ z) := str_ext (by rw [app_list, app_list, app_list, app_list, List.append_assoc])
theorem str_nil (x : PySem.Str) (z : PySem.Str) (hz : z.cps.toList = []) : x ++ z = x := str_ext (by rw [app_list, hz, List.append_nil])
theorem parse_on (rows : List Piece) (h : ∀ p ∈ rows, p ∈ piecesL) : ∀ Z, NextOk Z → Parse (textOf rows ++ Z) 0 (dueOf rows) ((textOf rows).length : Int) := by
  revert h
  refine snoc_ind (P := fun rows => (∀ p ∈ rows, p ∈ piecesL) → ∀ Z, NextOk Z → Parse (textOf rows ++ Z) 0 (dueOf rows) ((textOf rows).length : Int)) (fun _ Z hZ => .nil _) (fun r p ih h Z hZ => ?_) rows
  have hp := h p (by simp)
  have i := ih (fun q hq => h q (List.mem_append_left _ hq)) (p.1 ++ Z) (next_piece hp Z)
  rw [textOf_snoc, dueOf_snoc, str_assoc, strLen]
  exact i.snoc (piece_turn hp _ _ hZ)
theorem parse_rows (rows : List Piece) (h : ∀ p ∈ rows, p ∈ piecesL) : Parse (textOf rows) 0 (dueOf rows) ((textOf rows).length : Int) := by
  have i := parse_on rows h (Str.ofString "") (.inl (by decide))
  rw [str_nil _ _ (by decide)] at i
  exact i
noncomputable def vP : Piece := (Str.ofString "V", Str.ofString "V", 1, 0)
theorem vP_in : vP ∈ piecesL := by decide +kernel
/-- a piece that is none: where it is refused -/
noncomputable def oddOne (q : PySem.Str × Int) : Bool := (q.1 ++ Str.ofString "9").cps.toList.head?.any (nexts.contains ·) && ((Str.ofString "9" :: Str.ofString "S" :: Str.ofString "CR" :: [Str.ofString ""]).any fun sg => badB (q.1 ++ Str.ofString "9") sg q.2)
noncomputable def oddTwo (q : PySem.Str × Int) : Bool := badB (vP.1 ++ (q.1 ++ Str.ofString "9")) (Str.ofString "V") (1 + q.2)
theorem odd_one : ∀ q ∈ oddL, (oddOne q || oddTwo q) = true := by decide +kernel
theorem next_of {Z : PySem.Str} (h : Z.cps.toList.head?.any (nexts.contains ·) = true) : NextOk Z := by
  cases hl : Z.cps.toList with
  | nil => exact .inl hl
  | cons c r =>
    rw [hl] at h
    exact .inr ⟨c, r, by simpa using h, hl⟩
theorem odd_bad0 (rows : List Piece) (h : ∀ p ∈ rows, p ∈ piecesL) : ∀ q ∈ oddL, ∃ ds b, Parse (((textOf rows ++ Str.ofString "V") ++ q.1) ++ Str.ofString "9") 0 ds b ∧ b < ((((textOf rows ++ Str.ofString "V") ++ q.1) ++ Str.ofString "9").length : Int) ∧
  BadAt (((textOf rows ++ Str.ofString "V") ++ q.1) ++ Str.ofString "9") b (((textOf rows ++ Str.ofString "V").length : Int) + q.2) := by
  intro q hq
  have l9 : (Str.ofString "9").length = 1 := by decide
  have lv : (Str.ofString "V").length = 1 := by decide
  have e : ((textOf rows ++ Str.ofString "V") ++ q.1) ++ Str.ofString "9" = (textOf rows ++ Str.ofString "V") ++ (q.1 ++ Str.ofString "9") := str_assoc _ _ _
  have ev : textOf rows ++ Str.ofString "V" = textOf (rows ++ [vP]) := (textOf_snoc rows vP).symm
  have hl := len_app (textOf rows ++ Str.ofString "V") (q.1 ++ Str.ofString "9")
  have hl2 := len_app q.1 (Str.ofString "9")
  have hl3 := len_app (textOf rows) (Str.ofString "V")
  rw [e]
  have o := odd_one q hq
  rw [Bool.or_eq_true] at o
  rcases o with o | o
  · unfold oddOne at o
    rw [Bool.and_eq_true] at o
    obtain ⟨o1, o2⟩ := o
    obtain ⟨sg, _, o2⟩ := List.any_eq_true.mp o2
    have hi := parse_on (rows ++ [vP]) (fun p hp => by rcases List.mem_append.mp hp with hp | hp; exact h p hp; rw [List.mem_singleton.mp hp]; exact vP_in) _ (next_of o1)
    rw [← ev] at hi
    exact ⟨_, _, hi, by omega, (bad_here o2).shift _ (by omega)⟩
  · unfold oddTwo at o
    have hi := parse_on rows h (Str.ofString "V" ++ (q.1 ++ Str.ofString "9")) (next_piece vP_in _)
    rw [← str_assoc] at hi
    have b := (bad_here o).shift (textOf rows) (by
      have := len_app vP.1 (q.1 ++ Str.ofString "9")
      omega)
    rw [show vP.1 = Str.ofString "V" from rfl, ← str_assoc, show ((textOf rows).length : Int) + (1 + q.2) = ((textOf rows ++ Str.ofString "V").length : Int) + q.2 by omega] at b
    exact ⟨_, _, hi, by omega, b⟩
end Mine
end

section
open PySem PySem.W PyProof.Rows PySem.Spec PySem.Calls
set_option Elab.async false
set_option maxRecDepth 100000
set_option maxHeartbeats 8000000
set_option linter.all false
set_option compiler.extract_closed false
namespace Mine
theorem sizes_sum {l : List (Str × Int)} {p : Str × Int} : (sizesOf (l ++ [p])).sum = (sizesOf l).sum + (if nowhere p.1 then 0 else p.2 * (p.1.length : Int)) := by
  cases h : nowhere p.1 with
  | true => rw [sizes_no h]; simp
  | false => rw [sizes_yes h]; simp
theorem sizes_add (ss : List (Str × Int)) (p : Str × Int) : (sizesOf (addSym ss p)).sum = (sizesOf ss).sum + (if nowhere p.1 then 0 else p.2 * (p.1.length : Int)) := by
  rcases List.eq_nil_or_concat ss with rfl | ⟨pre, q, rfl⟩
  · rw [addSym_nil]
    exact sizes_sum (l := [])
  · rw [List.concat_eq_append]
    by_cases h : q.1 = p.1
    · rw [addSym_same h, sizes_sum, sizes_sum, h]
      split
      · omega
      · rw [Int.add_mul]; dsimp only; omega
    · rw [addSym_other h, sizes_sum]
theorem piece_size : ∀ p ∈ piecesL, p.2.2.2 = (if nowhere p.2.1 then 0 else p.2.2.1 * (p.2.1.length : Int)) := by decide +kernel
theorem sizes_eq (rows : List Piece) (h : ∀ p ∈ rows, p ∈ piecesL) : (sizesOf (sumsOf rows)).sum = octOf rows := by
  revert h
  refine snoc_ind (P := fun rows => (∀ p ∈ rows, p ∈ piecesL) → (sizesOf (sumsOf rows)).sum = octOf rows) (fun _ => rfl) (fun r p ih h => ?_) rows
  rw [sumsOf_snoc, sizes_add, octOf_snoc, ih (fun q hq => h q (List.mem_append_left _ hq)), piece_size p (h p (by simp))]
theorem small_app {x y : Str} (hx : Small x) (hy : Small y) : Small (x ++ y) := by
  intro c hc
  have e : (x ++ y).cps.toList = x.cps.toList ++ y.cps.toList := by
    show (x.cps ++ y.cps).toList = _
    rw [Array.toList_append]
  rw [e] at hc
  rcases List.mem_append.mp hc with hc | hc
  · exact hx c hc
  · exact hy c hc
theorem piece_small : ∀ p ∈ piecesL, ∀ c ∈ p.1.cps.toList, c < 0x110000 := by decide +kernel
theorem odd_small : ∀ p ∈ oddL, ∀ c ∈ p.1.cps.toList, c < 0x110000 := by decide +kernel
theorem small_V : Small (Str.ofString "V") := by unfold Small; decide +kernel
theorem small_9 : Small (Str.ofString "9") := by unfold Small; decide +kernel
theorem small_rows (rows : List Piece) (h : ∀ p ∈ rows, p ∈ piecesL) : Small (textOf rows) := by
  revert h
  refine snoc_ind (P := fun rows => (∀ p ∈ rows, p ∈ piecesL) → Small (textOf rows)) (fun _ => fun c hc => nomatch hc) (fun r p ih h => ?_) rows
  rw [textOf_snoc]
  exact small_app (ih fun q hq => h q (List.mem_append_left _ hq)) (piece_small p (h p (by simp)))
theorem odd_bad (rows : List Piece) (h : ∀ p ∈ rows, p ∈ piecesL) : ∀ q ∈ oddL, Small (((textOf rows ++ Str.ofString "V") ++ q.1) ++ Str.ofString "9") ∧ ∃ ds b, Parse (((textOf rows ++ Str.ofString "V") ++ q.1) ++ Str.ofString "9") 0 ds b ∧ b < ((((textOf rows ++ Str.ofString "V") ++ q.1) ++ Str.ofString "9").length : Int) ∧
  BadAt (((textOf rows ++ Str.ofString "V") ++ q.1) ++ Str.ofString "9") b (((textOf rows ++ Str.ofString "V").length : Int) + q.2) := fun q hq =>
  ⟨small_app (small_app (small_app (small_rows rows h) small_V) (odd_small q hq)) small_9, odd_bad0 rows h q hq⟩
end Mine
end

section
open PySem PySem.W PyProof.Rows PySem.Spec PySem.Calls
set_option Elab.async false
set_option maxRecDepth 100000
set_option maxHeartbeats 8000000
set_option linter.all false
set_option compiler.extract_closed false
namespace Mine
open Builtin
section
variable {prog : Program} {w : World} {A : Around} {E : Value → Shared → Prop} {s : Shared} {K : Frag} {x C : Addr} {ox : Obj} {od : Option Obj} {name : PySem.Str} {expr : Bool} {Q : Value → Shared → Prop}
theorem get_exc_call {v : Value} {tk : Tok} {R : Result → Shared → Prop} (X : K.In s.heap) (I : PySem.W.InstAt s.heap x ox C od) (hb : mroIn K C (.type "BaseException") = some true)
    (hf : findObj K C od name = some (.value v)) (hq : R (.ok (.ret v)) s) :
    codeAny (model prog w) A (.call (.builtin "BaseException.__getattribute__") ⟨[.ref x, .str name tk], []⟩) R s := by
  have L0 := I.type (M := model prog w)
  have L1 := looks_find (M := model prog w) X I hf
  obtain ⟨hh', g, d, t, os⟩ := s
  have hk : builtinKind "BaseException.__getattribute__" = some .slot := by decide +kernel
  have hsplit : splitId "BaseException.__getattribute__" = some ("BaseException", "__getattribute__") := by decide +kernel
  have ha := PySem.F.args_bexc_ga (.ref x) (.str name tk)
  have hi : Looks (model prog w) hh' (isInstance (.ref x) (.type "BaseException")) true := L0.andThen (looks_mroIn X hb)
  have hp : plainId "BaseException.__getattribute__" = true := PySem.F.attr_Exception.ga.plain
  refine codeAny_call_builtin hp PySem.F.entry_bexc_ga ?_
  refine @check_slot (model prog w) _ _ ⟨hh', g, d, t, os⟩ "BaseException.__getattribute__" "BaseException" "__getattribute__" (.ref x) [.str name tk] [] _ hk hsplit hi ha ?_
  refine wpAny_bind (wpAny_pure (wpAny_bind (wpAny_pure (wpAny_bind (L0.at (wpAny_bind (L1.at ?_)))))))
  exact wpAny_pure hq
theorem get_exc {v : Value} (X : K.In s.heap) (I : PySem.W.InstAt s.heap x ox C od) (hga : findIn K (.ref C) "__getattribute__" = some (some (.builtin "BaseException.__getattribute__"))) (hk : findIn K (.ref C) "__getattr__" = some none)
    (hb : mroIn K C (.type "BaseException") = some true) (hf : findObj K C od name = some (.value v)) (hh : handedIn v = true) (h : Q v { s with toks := s.toks + 1 }) : wpAny (model prog w) A (getAttr (.ref x) name expr) Q E s := by
  have L0 := I.type (M := model prog w)
  have L1 := looks_findIn (M := model prog w) X hga
  have L2 := looks_findIn (M := model prog w) X hk
  obtain ⟨hh', g, d, t, os⟩ := s
  have f3 := PySem.F.attr_Exception.ga.bind (.ref x)
  have hx0 : (expr && onTheHeap (Value.builtin "BaseException.__getattribute__")) = false := by cases expr <;> rfl
  have hx2 : (Value.builtin "BaseException.__getattribute__" == Value.builtin "object.__getattribute__") = false := by decide +kernel
  have hx1 : (onTheHeap (Value.ref C) && Value.builtin "BaseException.__getattribute__" == Value.builtin "object.__getattribute__") = false := by rw [hx2]; rfl
  unfold getAttr getAttrBy
  refine wpAny_bind (wpAny_mkText (wpAny_holding (wpAny_bind (L0.at (wpAny_bind (L1.at ?_))))))
  dsimp only
  rw [hx1, if_neg (by decide)]
  unfold getAttrByItsOwn hookBefore
  rw [if_pos (show onTheHeap (Value.ref C) = true from rfl)]
  refine wpAny_bind (L2.at ?_)
  unfold callGetattribute
  rw [hx0, if_neg (by decide)]
  repeat (any_goals (first | assumption | wp_step))
  refine get_exc_call (s := ⟨hh', g, d, t + 1, os⟩) X I hb hf ?_
  repeat (any_goals (first | assumption | wp_step))
  show wpAny _ _ (handedOut v) _ _ _
  rw [handedOut_of hh]
  exact wpAny_pure h
/-- an attribute of a caught exception, out of its own dict -/
theorem get_exc_own {h₀ : Heap} {L : Addr} {m : PySem.Str → Option Value} {es : List DictEntry} {n : Nat} {v : Value} {attr : Option Value} (F : Fr h₀ L s.heap m) (X₀ : K.In h₀) (I : PySem.W.InstAt s.heap x ox C (some (dictOf es n)))
    (hg : findIn K (.ref C) "__getattribute__" = some (some (.builtin "BaseException.__getattribute__"))) (hk : findIn K (.ref C) "__getattr__" = some none) (hb : mroIn K C (.type "BaseException") = some true) (hh : hasDictIn K C = true)
    (ha : findIn K (.ref C) name = some attr) (hn : noGet K attr = true) (hl : getL name es = some (some v)) (hv : handedIn v = true) (h : Q v { s with toks := s.toks + 1 }) :
    wpAny (model prog w) A (getAttr (.ref x) name expr) Q E s :=
  get_exc (X₀.keeps F.keep) I hg hk hb (findObj_own hh ha hn hl) hv h
/-- a handler's name goes: the other names stay -/
theorem gone {M : Model} {env : Env} {base : Heap} {n : PySem.Str} {pos : Pos} {m : PySem.Str → Option Value} {news : List (Addr × Obj)} {Q : Unit → Shared → Prop} (hkn : env.kindOf n = some .local) (hpl : (env.scope.kind == .class || (env.scope.kind == .module && env.locals != env.globals)) = false)
    (F : Fr base env.locals s.heap m) (N : News base env.locals s.heap news) (h : ∀ h' v, Fr base env.locals h' (fun y => if y = n then v else m y) → News base env.locals h' news → Q () { s with heap := h', toks := s.toks + 1 }) :
    wpAny M A (do bindName env n .none; unbindBehindTheSuite env n pos) Q E s :=
  wpAny_nameGoes_keeps hkn F.ns hpl fun h' v hn hs => h h' v (F.set hn hs) (N.set hs)
end
end Mine
end

section
open PySem PySem.W PyProof.Rows PySem.Spec PySem.Calls
set_option Elab.async false
set_option maxRecDepth 100000
set_option maxHeartbeats 8000000
set_option linter.all false
set_option compiler.extract_closed false
namespace Mine
local macro_rules | `(tactic| walk_at "tl_mem") => `(tactic| (intro p hp; (repeat (first | exact hp | exact List.mem_append_left _ hp | exact List.mem_append_right _ hp | refine List.Mem.tail _ ?_))))
open PyProof.Rows.LCg
theorem small13 {b : Int} (h0 : 0 ≤ b) (h1 : b < 13) : Builtin.Range.small 0 b 1 = true := small_one (by omega) (by omega) (by omega) (by omega)
local macro_rules | `(tactic| walk_at "in_app") => `(tactic| first | assumption | (refine List.Mem.tail _ ?_; walk_at "in_app") | (refine List.mem_append_left _ ?_; walk_at "in_app") | (refine List.mem_append_right _ ?_; walk_at "in_app"))
local macro_rules | `(tactic| walk_at "all_in") => `(tactic| (intro p hp; walk_at "in_app"))
theorem exc_instT {h₀ h : Heap} {L e dx C : Addr} {oe od : Obj} {news : List (Addr × Obj)} (N : News h₀ L h ((e, oe) :: (dx, od) :: news)) (hc : oe.cls = .ref C) (hd : oe.dict = some dx) (hn : notCls oe = true) : PySem.W.InstAt h e oe C (some od) := by
  constructor
  · exact (N _ (.head _)).1
  · exact hc
  · exact hn
  · rw [hd]; exact (N _ (.tail _ (.head _))).1
noncomputable def pieceAt (cs : List Int) (i : Nat) : Piece := piecesL.getD (((cs.getD (((0 + (i : Int) + 1).fmod (cs.length : Int)).toNat) 0).fmod 18).toNat) (Str.ofString "", Str.ofString "", 0, 0)
noncomputable def rowsOf (cs : List Int) (n : Nat) : List Piece := (List.range n).map (pieceAt cs)
theorem rowsOf_succ (cs : List Int) (n : Nat) : rowsOf cs (n + 1) = rowsOf cs n ++ [pieceAt cs n] := by simp [rowsOf, List.range_succ]
noncomputable def RowEl (cs : List Int) (i : Nat) (base : List (Addr × Obj)) (ys : List Value) (y : Value) (news' : List (Addr × Obj)) : Prop := ∃ tl', news' = tl' ++ base ∧ DatAll tl' (ys ++ [y]) ((rowsOf cs (i + 1)).map pieceDat)
section
variable {prog : Program} {w : World} {A : Around} {h₀ : Heap} {L : Addr} {m : Str → Option Value} {env : Env} {elt : PySem.Expr} {x : Str} {scope : Scope} {cl : List (Str × Addr)} {s : Shared} {Fin : List Value → List (Addr × Obj) → Prop}
theorem rows_ind {n : Nat} {base : List (Addr × Obj)} {ws : List Value} {cs : List Int} (hcs : IntsAre ws cs) 
    (step : ∀ i ys tl t I oI C oC D m₂ h tk (E' : Value → Shared → Prop), i < n → DatAll tl ys ((rowsOf cs i).map pieceDat) → NsObj oC m₂ → m₂ x = some (.int (0 + (i : Int)) t) → Fr h₀ L h m → News h₀ L h ((I, oI) :: (C, oC) :: (D, lst ys) :: (base ++ tl)) → Off3 I C D (tl ++ base) → ((@Ne Nat I C) ∧ (@Ne Nat I D) ∧ (@Ne Nat C D)) →
      wpAny (model prog w) A (eval elt (compEnvC scope cl C env)) (CompEnd h₀ L m { s with heap := h, toks := tk } I oI C oC D (lst ys) (fun _ => True) (fun y news' => RowEl cs i base ys y news')) E' { s with heap := h, toks := tk })
    (fin : ∀ ys tl, DatAll tl ys ((rowsOf cs n).map pieceDat) → Fin ys (tl ++ base)) : CompRest prog w A h₀ L m env elt x scope cl s (fun _ => True) (fun i v => ∃ t, v = .int (0 + (i : Int)) t) Fin n 0 [] base := by
  refine cr_ind (fun i ys news => ∃ tl, news = tl ++ base ∧ DatAll tl ys ((rowsOf cs i).map pieceDat)) ?_ ?_ ⟨[], rfl, .nil⟩
  · rintro i ys news v I oI C oC D m₂ h tk E' hi ⟨tl, rfl, hd⟩ ⟨t, rfl⟩ hC hx F N off ne
    exact step i ys tl t I oI C oC D m₂ h tk E' hi hd hC hx F (cb_drop N fun p hp => by
      simp only [List.mem_cons, List.mem_append] at hp ⊢
      rcases hp with h | h | h | h | h
      · exact .inl h
      · exact .inr (.inl h)
      · exact .inr (.inr (.inl h))
      · exact .inr (.inr (.inr (.inr h)))
      · exact .inr (.inr (.inr (.inl h)))) off ne
  · rintro ys news ⟨tl, rfl, hd⟩
    exact fin ys tl hd
end
theorem cells_item {prog : Program} {w : World} {A : Around} {E : Value → Shared → Prop} {s : Shared} {h₀ : Heap} {L l : Addr} {news : List (Addr × Obj)} {value slice : PySem.Expr} {vs : List Value} {ns : List Int} {n : Nat} {a : Int} {b : Nat} {u : Tok} {Q : Value → Shared → Prop}
  (N : News h₀ L s.heap news) (hm : (l, listOf vs.toArray n) ∈ news) (hi : IntsAre vs ns) (hb : b = ns.length) (hp : 0 < b) (hz : b ≤ 1000) (h : ∀ t, Q (.int (ns.getD (a.fmod (ns.length : Int)).toNat 0) t) s)
  (hs : subscripted slice false (.ref l) (.int (a.fmod (b : Int)) u) = operate [.ref l, .int (a.fmod (b : Int)) u] (getItem (.ref l) (.int (a.fmod (b : Int)) u))) :
  wpAny (model prog w) A (subscriptTail value slice (.ref l) (.int (a.fmod (b : Int)) u)) Q E s := by
  subst hb
  have h0 : 0 ≤ a.fmod (ns.length : Int) := Int.fmod_nonneg_of_pos _ (by omega)
  have h1 : a.fmod (ns.length : Int) < (ns.length : Int) := Int.fmod_lt_of_pos _ (by omega)
  exact item_anyK (PySem.IsL.isList (n := n) (N _ hm).1) hi h0 h1 (by omega) h hs
theorem piece_item {prog : Program} {w : World} {A : Around} {E : Value → Shared → Prop} {s : Shared} {h₀ : Heap} {L l : Addr} {news tl : List (Addr × Obj)} {value slice : PySem.Expr} {vs : List Value} {n : Nat} {a : Int} {u : Tok} {Q : Value → Shared → Prop}
  (N : News h₀ L s.heap news) (hm : (l, listOf vs.toArray n) ∈ news) (hd : DatAll tl vs (piecesL.map pieceDat)) (h : ∀ v, DatIn tl v (pieceDat (piecesL.getD (a.fmod 18).toNat (Str.ofString "", Str.ofString "", 0, 0))) → Q v s)
  (hs : subscripted slice false (.ref l) (.int (a.fmod 18) u) = operate [.ref l, .int (a.fmod 18) u] (getItem (.ref l) (.int (a.fmod 18) u))) :
  wpAny (model prog w) A (subscriptTail value slice (.ref l) (.int (a.fmod 18) u)) Q E s := by
  have h0 : 0 ≤ a.fmod 18 := Int.fmod_nonneg_of_pos _ (by omega)
  have h1 : a.fmod 18 < 18 := Int.fmod_lt_of_pos _ (by omega)
  have hl : piecesL.length = 18 := rfl
  have hk : (a.fmod 18).toNat < (piecesL.map pieceDat).length := by rw [List.length_map, hl]; omega
  obtain ⟨v, hv, hD⟩ := hd.get hk
  rw [List.getElem_map] at hD
  have e : piecesL.getD (a.fmod 18).toNat (Str.ofString "", Str.ofString "", 0, 0) = piecesL[(a.fmod 18).toNat]'(by rw [hl]; omega) := by
    rw [List.getD_eq_getElem?_getD, List.getElem?_eq_getElem (by rw [hl]; omega)]
    rfl
  have hL : s.heap.IsList l vs.toArray := PySem.IsL.isList (n := n) (N _ hm).1
  exact tail_any hL.typeIs slot_list_getitem.lookup (wpAny_getItem_list hL h0 (by omega) (by simpa using hv) (h v (by rw [e]; exact hD))) hs
theorem news_pull {h₀ h : Heap} {L : Addr} {X : Addr × Obj} {tl l : List (Addr × Obj)} (N : News h₀ L h (X :: (tl ++ l))) : News h₀ L h (X :: (l ++ tl)) := cb_drop N fun p hp => by
  simp only [List.mem_cons, List.mem_append] at hp ⊢
  rcases hp with h | h | h
  · exact .inl h
  · exact .inr (.inr h)
  · exact .inr (.inl h)
theorem news_back {h₀ h : Heap} {L : Addr} {X : Addr × Obj} {tl l : List (Addr × Obj)} (N : News h₀ L h (X :: (tl ++ l))) : News h₀ L h (l ++ (X :: tl)) := cb_drop N fun p hp => by
  simp only [List.mem_cons, List.mem_append] at hp ⊢
  rcases hp with h | h | h
  · exact .inr (.inr h)
  · exact .inl h
  · exact .inr (.inl h)
theorem row_end {h₀ h : Heap} {L : Addr} {m : Str → Option Value} {s : Shared} {tk : Nat} {I C D : Addr} {oI oC : Obj} {ys : List Value} {cs : List Int} {i : Nat} {base tl tl2 : List (Addr × Obj)} {P : Addr × Obj} {v : Value}
  (F : Fr h₀ L h m) (N : News h₀ L h ((I, oI) :: (C, oC) :: (D, lst ys) :: (base ++ (tl ++ (P :: tl2))))) (hlp : ∀ p ∈ P :: tl2, ∀ q ∈ (I, oI) :: (C, oC) :: (D, lst ys) :: (base ++ tl), @LT.lt Nat _ q.1 p.1)
  (off : Off3 I C D (tl ++ base)) (hdt : DatAll tl ys ((rowsOf cs i).map pieceDat)) (hv : DatIn tl2 v (pieceDat (pieceAt cs i))) :
  CompEnd h₀ L m s I oI C oC D (lst ys) (fun _ => True) (fun y news' => RowEl cs i base ys y news') v { s with heap := h, toks := tk } := by
  refine CompEnd.intro F N ((tl ++ tl2) ++ base) ?_ ?_ trivial ⟨_, rfl, ?_⟩
  · intro p hp
    simp only [List.mem_cons, List.mem_append] at hp ⊢
    rcases hp with h | h | h | (h | h) | h
    · exact .inl h
    · exact .inr (.inl h)
    · exact .inr (.inr (.inl h))
    · exact .inr (.inr (.inr (.inr (.inl h))))
    · exact .inr (.inr (.inr (.inr (.inr (.inr h)))))
    · exact .inr (.inr (.inr (.inl h)))
  · refine Off3.of fun p hp => ?_
    rcases List.mem_append.mp hp with hp | hp
    · rcases List.mem_append.mp hp with hp | hp
      · exact off.mem p (List.mem_append_left _ hp)
      · have z := hlp p (.tail _ hp)
        exact ⟨Nat.ne_of_gt (z (I, oI) (.head _)), Nat.ne_of_gt (z (C, oC) (.tail _ (.head _))), Nat.ne_of_gt (z (D, lst ys) (.tail _ (.tail _ (.head _))))⟩
    · exact off.mem p (List.mem_append_right _ hp)
  · rw [rowsOf_succ, List.map_append]
    exact (hdt.mono fun p hp => List.mem_append_left _ hp).append (.cons (hv.mono fun p hp => List.mem_append_right _ hp) .nil)
local macro_rules | `(tactic| k_all) => `(tactic| first | assumption | exact neAll_of (by assumption) | fail "none")
local macro_rules | `(tactic| walk_at "call builtin:list.append") => `(tactic| (k_here; (with_reducible show wpAny _ _ (call (Value.builtin _) [Value.ref _, _]) _ _ _); k_dflt (refine' append_K ?k1 ?k2 ?k3 ?_ ?z; (case k1 => k_asm); (case k2 => k_asm); (case k3 => k_upd); (case z => (simp only [List.size_toArray, sizeLine, List.length_append, List.length_cons, List.length_nil]; omega)); k_whole); intro h' F' N'; (try k_sweep)))
local macro_rules | `(tactic| walk_at "compareOp NotEq ref ref") => `(tactic| (k_here; (with_reducible show wpAny _ _ (compareOp CmpOp.NotEq (Value.ref _) (Value.ref _)) _ _ _); k_dflt (refine' ne_nil_nil ?qN ?qa ?qf ?qn ?_; (case qN => k_asm); (case qf => exact List.Mem.head _); (case qa => k_mem); (case qn => (simp only [units_deeper, units_in1, units_caller, cLine]; decide)); k_whole)))
local macro_rules | `(tactic| walk_at "compareOp NotEq ref ref") => `(tactic| (k_here; (with_reducible show wpAny _ _ (compareOp CmpOp.NotEq (Value.ref _) (Value.ref _)) _ _ _); k_dflt (refine' ne_nil_snoc ?qN ?qa ?qf ?qn ?qd ?qt ?qk ?_; (case qN => k_asm); (case qd => assumption); (case qf => exact List.Mem.head _); (case qa => k_mem); (case qt => walk_at "tl_mem"); (case qk => assumption); (case qn => (simp only [units_deeper, units_in1, units_caller, cLine]; decide)); k_whole)))
local macro_rules | `(tactic| walk_at "subscriptTail Name UnaryOp ref int") => `(tactic| (k_here; (with_reducible show wpAny _ _ (subscriptTail _ _ (Value.ref _) (Value.int _ _)) _ _ _); k_dflt (refine' last_get ?lN ?lm ?_ ?ls; (case lN => k_asm); (case lm => k_mem); (case ls => with_unfolding_all rfl); k_whole)))
local macro_rules | `(tactic| walk_at "setItem ref int") => `(tactic| (k_here; k_dflt (refine' last_set ?sF ?sN ?sU ?_; (case sF => k_asm); (case sN => k_asm); (case sU => k_upd); k_whole); intro h' F' N'; (try k_sweep)))
theorem rowsOf_in (cs : List Int) (n : Nat) : ∀ p ∈ rowsOf cs n, p ∈ piecesL := by
  intro p hp
  obtain ⟨i, _, rfl⟩ := List.mem_map.mp hp
  unfold pieceAt
  have h0 := Int.fmod_nonneg_of_pos (cs.getD (((0 + (i : Int) + 1).fmod (cs.length : Int)).toNat) 0) (show (0:Int) < 18 by omega)
  have h1 := Int.fmod_lt_of_pos (cs.getD (((0 + (i : Int) + 1).fmod (cs.length : Int)).toNat) 0) (show (0:Int) < 18 by omega)
  generalize (cs.getD (((0 + (i : Int) + 1).fmod (cs.length : Int)).toNat) 0).fmod 18 = k at *
  have hl : piecesL.length = 18 := rfl
  rw [List.getD_eq_getElem?_getD, List.getElem?_eq_getElem (by rw [hl]; omega)]
  exact List.getElem_mem _
theorem rowsOf_len (cs : List Int) (n : Nat) : (rowsOf cs n).length = n := by simp [rowsOf]
/-- the law's second loop, at a turn's start -/
noncomputable def OInv (I : Addr) (T : Str) (src : List (Addr × Obj)) (rest : List Value) (m : Str → Option Value) (news₁ : List (Addr × Obj)) : Prop :=
  ∃ (u : Str → Option Value) (r : List (Str × Int)) (tT : Tok), m = (fun y => if y = Str.ofString "text" then some (.str T tT) else u y) ∧ news₁ = src ∧ (∀ p ∈ src, p.1 ≠ I) ∧ DatAll src rest (r.map oddDat) ∧ ∀ q ∈ r, q ∈ oddL
theorem m_as1 {m : Str → Option Value} {a : Str} {v : Value} (h1 : m a = some v) : m = (fun y => if y = a then some v else m y) := by
  funext y
  split
  · rename_i q; rw [q, h1]
  · rfl
theorem odd_in {src : List (Addr × Obj)} {v : Value} {p : Str × Int} (h : DatIn src v (oddDat p)) : ∃ t n ta tb, v = .ref t ∧ (t, ({ cls := .type "tuple", data := .seq [Value.str p.1 ta, .int p.2 tb].toArray n } : Obj)) ∈ src := dat_two h
theorem news_e0 {h₀ h : Heap} {L : Addr} {a p : Addr × Obj} {r : List (Addr × Obj)} (N : News h₀ L h (a :: r)) (hp : p ∈ r) : News h₀ L h (a :: p :: r) := cb_drop N fun z hz => by
  simp only [List.mem_cons] at hz ⊢
  rcases hz with h | h | h
  · exact .inl h
  · exact .inr (h ▸ hp)
  · exact .inr h
theorem odd_len (l : List Piece) (x : Str) (h : (textOf l).length ≤ 7 * l.length) (hl : l.length ≤ 12) (hx : x.length ≤ 8) : ((((textOf l ++ Str.ofString "V") ++ x) ++ Str.ofString "9").length) ≤ 1000000 := by
  rw [strLen, strLen, strLen]
  have h1 : (Str.ofString "V").length = 1 := by decide
  have h2 : (Str.ofString "9").length = 1 := by decide
  omega
theorem odd_short : ∀ q ∈ oddL, q.1.length ≤ 8 := by decide +kernel
theorem rows_gen {tl : List (Addr × Obj)} {ys : List Value} {cs : List Int} {k : Nat} (h : DatAll tl ys ((rowsOf cs k).map pieceDat)) (hk : k ≤ 12) : ∃ rows : List Piece, DatAll tl ys (rows.map pieceDat) ∧ (∀ p ∈ rows, p ∈ piecesL) ∧ rows.length ≤ 12 := ⟨_, h, rowsOf_in _ _, by rw [rowsOf_len]; exact hk⟩
theorem due_ok (l : List Piece) (h : ∀ p ∈ l, p ∈ piecesL) : ∀ e ∈ (dueOf l).map dueDat, kqdOk 8 e = true := dueDat_ok fun d hd => by
  obtain ⟨p, hp, e⟩ := dueOf_in l d hd
  rw [e]; exact (piece_short p (h p hp)).2.2
theorem due_str (l : List Piece) (h : ∀ p ∈ l, p ∈ piecesL) : ∀ d ∈ dueOf l, PyData.strOk d.1 = true := fun d hd => by
  obtain ⟨p, hp, e⟩ := dueOf_in l d hd
  rw [e]; exact (piece_short p (h p hp)).2.2
theorem sumsOf_two (l : List Piece) (h : ∀ p ∈ l, p ∈ piecesL) : ∀ q ∈ sumsOf l, q.1.length ≤ 2 := symsOf_ok (P := fun x => x.length ≤ 2) _ fun q hq => by
  obtain ⟨p, hp, rfl⟩ := List.mem_map.mp hq
  exact (piece_short p (h p hp)).2.1
theorem in_snoc {rows done rr : List Piece} {p : Piece} {P : Piece → Prop} (hd : done ++ p :: rr = rows) (h : ∀ q ∈ rows, P q) : ∀ q ∈ done ++ [p], P q := by
  intro q hq
  refine h q ?_
  rw [← hd]
  rcases List.mem_append.mp hq with hq | hq
  · exact List.mem_append_left _ hq
  · rw [List.mem_singleton.mp hq]; exact List.mem_append_right _ (.head _)
theorem t0 : PySem.Challenge.rw_pb0222_01.Holds := Mine.hd (by
  k_go0
  all_goals try k_fold
  iterate 38 walk1
  with_reducible ((k_here; (try k_fmods); k_dflt (refine' LCg.CompSrc.range ?rsh ?rsF ?rsN ?rsr ?rs1 ?rs2 ?rs3 ?_; (case rsr => assumption); (case rsh => rfl); (case rsF => k_asm); (case rsN => k_asm); (case rs1 => exact small13 (by assumption) (by assumption)); (case rs2 => exact rangeSize_nat _ _); (case rs3 => (rw [PySem.sizeLine_eq]; omega))); intro g'; k_dflt (refine' rows_ind ?riI ?riS ?riF; (case riI => assumption)); (case' riS => intro i' ys' tl' t' I' oI' C' oC' D' m' h' tk' E' hi' hdt' hC' hx' F' N' off' ne'; simp only [List.cons_append, List.nil_append] at N'); (case' riF => intro ys' tl' hdt'; unfold FinA)))
  rotate_left
  · iterate 5 walk1
    with_reducible ((k_here; (with_reducible show wpAny _ _ (call (Value.ref 128) _ _) _ _ _); k_dflt (refine' pieces_c (At.mk ?aB ?aF ?aX ?aN ?aT rfl ?a1 ?a2 ?a3 ?a4) ?a5 ?a6 ?_; (case aF => k_asm); (case aN => k_asm); (case aB => k_asm); (case aX => k_asm); (case aT => k_asm); (case a1 => exact law_a1); (case a2 => exact law_a2); (case a3 => exact law_a3); (case a4 => exact law_a4); (case a5 => exact law_a5); (case a6 => exact law_a6)); intro D' h' tk' it' n' tl' F' N0 hdp' hlp'; have N' := news_back N0; clear N0; simp only [List.cons_append, List.nil_append] at N'))
    iterate 16 walk1
    with_reducible ((k_here; k_dflt (refine' cells_item ?ciN ?cim ?cii ?cib ?cip ?ciz ?_ ?cis; (case ciN => k_asm); (case cim => k_mem); (case cii => assumption); (case cib => simp); (case cip => omega); (case ciz => (simp only [List.length_map, List.length_take]; omega)); (case cis => with_unfolding_all rfl); k_whole); intro t'))
    iterate 2 walk1
    with_reducible ((k_here; (with_reducible show wpAny _ _ (subscriptTail _ _ (Value.ref _) (Value.int _ _)) _ _ _); k_dflt (refine' piece_item ?piN ?pim ?pid ?_ ?pis; (case pid => assumption); (case piN => k_asm); (case pim => first | k_mem | (repeat (first | exact List.mem_append_right _ (List.mem_cons_self) | refine List.Mem.tail _ ?_))); (case pis => with_unfolding_all rfl); k_whole); intro v' hv'))
    k_unfold
    dsimp only
    exact row_end (by k_dflt k_asm) (by k_dflt k_asm) (by assumption) (by assumption) (by assumption) (by assumption)
  · iterate 39 walk1
    with_reducible ((k_here; (rename Fr _ _ _ _ => lF'); (with_unfolding_all refine' For_turns lF' ?_; k_whole)))
    iterate 1 walk1
    with_reducible ((k_here; (with_reducible show wpAny _ _ (pyIter (Value.ref _)) (fun it s₂ => TurnsAt _ _ _ _ _ _ _ _ _ it s₂) _ _); (with_reducible rename News _ _ _ _ => nX); k_dflt (refine' iter_listTurns ?ih ?iF ?iN ?im ?ic ?id ?_; (case ih => rfl); (case iF => k_asm); (case iN => exact news_law nX); (case im => k_mem); (case ic => rfl); (case id => rfl)); intro I' hI'))
    rename DatAll _ _ (List.map pieceDat (rowsOf _ _)) => hdr
    obtain ⟨rows, hdr, hrin, hrl⟩ := rows_gen hdr (by omega)
    rename (∀ p ∈ _ :: _ :: _ :: _, Prod.fst p < _) => hI9
    refine items_ind (LInv _ _ _ _ rows) ?_ ?_ _ _ _ ⟨_, [], rows, [], [], 0, 0, [], _, _, rfl, hdr.mono (fun p hp => .tail _ (List.mem_append_left _ hp)), m_as4 rfl rfl rfl rfl, rfl, ?h1, ?h2, (fun p hp => Nat.ne_of_lt (hI9 p (.tail _ (.tail _ hp)))), ⟨?h4, Nat.ne_of_lt (hI9 _ (.head _)), Nat.ne_of_lt (hI9 _ (.tail _ (.head _)))⟩, .nil, .nil⟩
    case h1 => exact List.forall_mem_cons.mpr ⟨by k_ne, by (first | exact neAll_of (by assumption) | exact neAll_of (And.right (by assumption)) | exact neAll_of (And.right (And.right (by assumption))) | exact neAll_of (And.right (And.right (And.right (by assumption)))) | exact neAll_of (And.right (And.right (And.right (And.right (by assumption))))))⟩
    case h2 => exact List.forall_mem_cons.mpr ⟨by k_ne, by (first | exact neAll_of (by assumption) | exact neAll_of (And.right (by assumption)) | exact neAll_of (And.right (And.right (by assumption))) | exact neAll_of (And.right (And.right (And.right (by assumption)))) | exact neAll_of (And.right (And.right (And.right (And.right (by assumption))))))⟩
    case h4 => k_ne
    · rintro v r m₁ nw h tk o hc ⟨u, done, rr, du, su, nd, ns, tl, tT, tz, hd, hdr2, rfl, rfl, hnD, hnS, hnI, ⟨n1, n2, n3⟩, hdu, hsu⟩ F1 N1
      cases rr with
      | nil => cases hdr2
      | cons p rr =>
      cases hdr2 with
      | cons hv hr =>
      obtain ⟨t, nn, ta, tb, tc, td, rfl, htm⟩ := piece_in hv
      have hin2 : ∀ q ∈ done ++ [p], q ∈ piecesL := in_snoc hd hrin
      have hdl : done.length + 1 ≤ 12 := by have : rows.length = done.length + (rr.length + 1) := by rw [← hd, List.length_append, List.length_cons]
                                            omega
      have htl := textOf_len done (fun q hq => hin2 q (List.mem_append_left _ hq))
      have hpl := piece_short p (hin2 p (by simp))
      obtain ⟨hpl1, hpl2, hpl3⟩ := hpl
      have hdul : du.length ≤ 12 := by
        have a1 := hdu.length
        rw [List.length_map, dueOf_len] at a1
        omega
      have hsul : su.length ≤ 12 := by
        have a1 := hsu.length
        have a2 := sumsOf_len done
        rw [List.length_map] at a1
        omega
      have nt1 : @Ne Nat t _ := hnD _ (List.mem_append_right _ htm)
      have nt2 : @Ne Nat t _ := hnS _ (List.mem_append_right _ htm)
      have nt3 : @Ne Nat t _ := hnI _ (List.mem_append_right _ htm)
      have hokd := sumsOf_ok done (fun q hq => hin2 q (List.mem_append_left _ hq))
      generalize hss : sumsOf done = ss at hsu hokd
      rcases List.eq_nil_or_concat ss with rfl | ⟨pre, q0, rfl⟩
      · cases hsu
        have N2 := news_e1 N1 (List.mem_append_right _ htm)
        clear N1
        repeat walk1
        exact l_next (tl' := (_, _) :: (_, _) :: tl) (by k_dflt k_asm) (by k_dflt k_asm) rfl rfl rfl rfl (textOf_snoc _ _).symm (octOf_snoc _ _).symm (by k_mem) (by k_mem) (by k_mem) (List.forall_mem_cons.mpr ⟨by k_mem, List.forall_mem_cons.mpr ⟨by k_mem, by walk_at "tl_mem"⟩⟩)
          (List.forall_mem_cons.mpr ⟨by k_ne, List.forall_mem_cons.mpr ⟨by k_ne, hnD⟩⟩) (List.forall_mem_cons.mpr ⟨by k_ne, List.forall_mem_cons.mpr ⟨by k_ne, hnS⟩⟩) (List.forall_mem_cons.mpr ⟨by k_ne, List.forall_mem_cons.mpr ⟨by k_ne, hnI⟩⟩) ⟨n1, n2, n3⟩ (.head _) hd hr
          (List.push_toArray _ _) (su' := [.ref _]) rfl (due_dat hdu _ (fun _ h => .tail _ (.tail _ h)) (.head _)) (sum1 hss (.tail _ (.head _)))
      · rw [List.concat_eq_append] at hsu hokd hss
        rw [List.map_append] at hsu
        have hok2 := symDat_ok hokd
        rw [List.map_append] at hok2
        obtain ⟨ys, t0, n0, t1, t2, rfl, hys, ht0⟩ := sy_last hsu
        have hyl : ys.length ≤ 12 := by
          rw [List.length_append] at hsul
          omega
        have nx5 : @Ne Nat t0 _ := hnD _ (List.mem_append_left _ ht0)
        have nx6 : @Ne Nat t0 _ := hnS _ (List.mem_append_left _ ht0)
        have nx7 : @Ne Nat t0 _ := hnI _ (List.mem_append_left _ ht0)
        have N2 := news_e2 N1 (List.mem_append_left _ ht0) (List.mem_append_right _ htm)
        clear N1
        repeat' walk1
        · exact l_next (tl' := (_, _) :: (_, _) :: tl) (by k_dflt k_asm) (by k_dflt k_asm) rfl rfl rfl rfl (textOf_snoc _ _).symm (octOf_snoc _ _).symm (by k_mem) (by k_mem) (by k_mem) (List.forall_mem_cons.mpr ⟨by k_mem, List.forall_mem_cons.mpr ⟨by k_mem, by walk_at "tl_mem"⟩⟩)
            (List.forall_mem_cons.mpr ⟨by k_ne, List.forall_mem_cons.mpr ⟨by k_ne, hnD⟩⟩) (List.forall_mem_cons.mpr ⟨by k_ne, List.forall_mem_cons.mpr ⟨by k_ne, hnS⟩⟩) (List.forall_mem_cons.mpr ⟨by k_ne, List.forall_mem_cons.mpr ⟨by k_ne, hnI⟩⟩) ⟨n1, n2, n3⟩ (.head _) hd hr
            (List.push_toArray _ _) (su' := ys ++ [.ref _]) rfl (due_dat hdu _ (fun _ h => .tail _ (.tail _ h)) (.head _)) (sum2 hss (by assumption) hys (fun _ h => .tail _ (.tail _ h)) (.tail _ (.head _)))
        · exact l_next (tl' := (_, _) :: (_, _) :: tl) (by k_dflt k_asm) (by k_dflt k_asm) rfl rfl rfl rfl (textOf_snoc _ _).symm (octOf_snoc _ _).symm (by k_mem) (by k_mem) (by k_mem) (List.forall_mem_cons.mpr ⟨by k_mem, List.forall_mem_cons.mpr ⟨by k_mem, by walk_at "tl_mem"⟩⟩)
            (List.forall_mem_cons.mpr ⟨by k_ne, List.forall_mem_cons.mpr ⟨by k_ne, hnD⟩⟩) (List.forall_mem_cons.mpr ⟨by k_ne, List.forall_mem_cons.mpr ⟨by k_ne, hnS⟩⟩) (List.forall_mem_cons.mpr ⟨by k_ne, List.forall_mem_cons.mpr ⟨by k_ne, hnI⟩⟩) ⟨n1, n2, n3⟩ (.head _) hd hr
            (List.push_toArray _ _) (su' := (ys ++ [.ref t0]) ++ [.ref _]) (List.push_toArray _ _) (due_dat hdu _ (fun _ h => .tail _ (.tail _ h)) (.head _)) (sum3 hss (by assumption) hsu (fun _ h => .tail _ (.tail _ h)) (.tail _ (.head _)))
    · rintro m₁ nw h tk ⟨u, done, rr, du, su, nd, ns, tl, tT, tz, hd, hdr2, rfl, rfl, hnD, hnS, hnI, ⟨n1, n2, n3⟩, hdu, hsu⟩ F1 N1
      cases rr with
      | cons p rr => cases hdr2
      | nil =>
      rw [List.append_nil] at hd
      subst hd
      have hparse := parse_rows done hrin
      have hsmall := small_rows done hrin
      have htl := textOf_len done hrin
      have hdl2 := dueOf_len done
      have N2 := cb_drop (news := (_, listOf du.toArray nd) :: (_, listOf su.toArray ns) :: tl) N1 (fun p hp => by
        rcases List.mem_cons.mp hp with rfl | hp
        · exact .head _
        · rcases List.mem_cons.mp hp with rfl | hp
          · exact .tail _ (.head _)
          · exact .tail _ (.tail _ (List.mem_append_left _ hp)))
      clear N1 hnD hnS hnI hdr hdr2
      iterate 9 walk1
      with_reducible ((k_here; (with_reducible show wpAny _ _ (call (Value.ref 109) _ _) _ _ _); k_dflt (refine' signs_ok (At.mk ?aB ?aF ?aX ?aN ?aT rfl ?a1 ?a2 ?a3 ?a4) ?a5 ?a6 ?sT ?sS ?sP ?_; (case sP => assumption); (case aF => k_asm); (case aN => k_asm); (case aB => k_asm); (case aX => k_asm); (case aT => k_asm); (case a1 => exact law_a1); (case a2 => exact law_a2); (case a3 => exact law_a3); (case a4 => exact law_a4); (case a5 => exact law_a5); (case a6 => exact law_a6); (case sT => first | omega | decide); (case sS => assumption)); intro l' h' tk' it' n' tl' F' N0 hne' hsg'; have N' := news_pull N0; clear N0; simp only [List.cons_append, List.nil_append] at N'))
      iterate 6 walk1
      with_reducible ((k_here; (with_reducible rename Signs _ _ _ => sgX); k_dflt (refine LCg.ListComp_U (F₀ := by k_asm) (by with_unfolding_all rfl) (by decide) (by rfl) (by decide) (by rfl) ?_)))
      iterate 1 walk1
      with_reducible ((k_here; (with_reducible rename Signs _ _ _ => sgX); k_dflt (refine' LCg.CompSrc.ledger ?csh ?csF ?csN ?csm ?csz ?_; (case csh => rfl); (case csF => k_asm); (case csN => k_asm); (case csm => k_mem); (case csz => (have := sgX.length; rw [List.size_toArray, PySem.sizeLine_eq]; omega))); intro g'; k_dflt (refine' signs_ind ?siI ?siS ?siM ?siF; (case siI => exact sgX.mono (by walk_at "all_in")); (case siM => k_mem)); (case' siS => intro i' ys' tl' d' xx' dx' u1' u2' u3' k1' k2' k3' t1' t2' t3' e' I' oI' C' oC' D' m' h' tk' E' hdt' hC' hx' F' N' off' ne'; simp only [List.cons_append, List.nil_append] at N'); (case' siF => intro ys' tl' hdt'; unfold FinE; intro D' h' tk' F' N0 o1'; have N' := news_pull N0; clear N0; simp only [List.cons_append, List.nil_append] at N')))
      rotate_left
      · iterate 15 walk1
        exact sg_end (by k_dflt k_asm) (by k_dflt k_asm) (by k_mem) (by k_mem) (by k_mem) (by k_mem) (by walk_at "all_in") (by k_ne) (by k_ne) (by k_ne) (by assumption) (by assumption)
      · have hdok := due_ok done hrin
        have hdso := due_str done hrin
        have hsok := symDat_ok (sumsOf_ok done hrin)
        have hs2 := sumsOf_two done hrin
        have hs3 : (sumsOf done).length ≤ 1000000 := by have := sumsOf_len done; omega
        iterate 1 walk1
        with_reducible ((k_here; (with_reducible rename Signs _ _ _ => sgX); (with_reducible show wpAny _ _ (compareOp CmpOp.NotEq (Value.ref _) (Value.ref _)) _ _ _); k_dflt (refine' ne_same ?nN ?na ?nb ?nDa ?nDb ?nsa ?nsb ?nk ?nu ?_; (case nN => k_asm); (case na => k_mem); (case nb => k_mem); (case nDa => assumption); (case nDb => assumption); (case nsa => walk_at "all_in"); (case nsb => walk_at "all_in"); (case nk => assumption); (case nu => (simp only [units_deeper, units_in1, units_caller, cLine]; decide)); k_whole)))
        iterate 11 walk1
        with_reducible ((k_here; (with_reducible rename Signs _ _ _ => sgX); (with_reducible show wpAny _ _ (call (Value.ref 116) _ _) _ _ _); k_dflt (refine' symbols_of_c (At.mk ?aB ?aF ?aX ?aN ?aT rfl ?a1 ?a2 ?a3 ?a4) ?a5 ?a6 ?yl ?ys ?yo ?yn ?_; (case aF => k_asm); (case aN => k_asm); (case aB => k_asm); (case aX => k_asm); (case aT => k_asm); (case a1 => exact law_a1); (case a2 => exact law_a2); (case a3 => exact law_a3); (case a4 => exact law_a4); (case a5 => exact law_a5); (case a6 => exact law_a6); (case yl => k_mem); (case ys => exact sgX.mono (by walk_at "all_in")); (case yo => assumption); (case yn => omega)); intro D' h' tk' it' n' tl' F' N0 hne' hdt0; have hdt' := hdt0; rw [syms_eq] at hdt'; clear hdt0; have N' := news_pull N0; clear N0; simp only [List.cons_append, List.nil_append] at N'))
        iterate 1 walk1
        with_reducible ((k_here; (with_reducible rename Signs _ _ _ => sgX); (with_reducible show wpAny _ _ (compareOp CmpOp.NotEq (Value.ref _) (Value.ref _)) _ _ _); k_dflt (refine' ne_same ?nN ?na ?nb ?nDa ?nDb ?nsa ?nsb ?nk ?nu ?_; (case nN => k_asm); (case na => k_mem); (case nb => k_mem); (case nDa => assumption); (case nDb => assumption); (case nsa => walk_at "all_in"); (case nsb => walk_at "all_in"); (case nk => assumption); (case nu => (simp only [units_deeper, units_in1, units_caller, cLine]; decide)); k_whole)))
        iterate 15 walk1
        with_reducible ((k_here; (with_reducible rename Signs _ _ _ => sgX); (with_reducible show wpAny _ _ (call (Value.ref 116) _ _) _ _ _); k_dflt (refine' symbols_of_c (At.mk ?aB ?aF ?aX ?aN ?aT rfl ?a1 ?a2 ?a3 ?a4) ?a5 ?a6 ?yl ?ys ?yo ?yn ?_; (case aF => k_asm); (case aN => k_asm); (case aB => k_asm); (case aX => k_asm); (case aT => k_asm); (case a1 => exact law_a1); (case a2 => exact law_a2); (case a3 => exact law_a3); (case a4 => exact law_a4); (case a5 => exact law_a5); (case a6 => exact law_a6); (case yl => k_mem); (case ys => exact sgX.mono (by walk_at "all_in")); (case yo => assumption); (case yn => omega)); intro D' h' tk' it' n' tl' F' N0 hne' hdt0; have hdt' := hdt0; rw [syms_eq] at hdt'; clear hdt0; have N' := news_pull N0; clear N0; simp only [List.cons_append, List.nil_append] at N'))
        iterate 2 walk1
        with_reducible ((k_here; (with_reducible rename Signs _ _ _ => sgX); (with_reducible show wpAny _ _ (call (Value.ref 121) _ _) _ _ _); k_dflt (refine' size_of_c (At.mk ?aB ?aF ?aX ?aN ?aT rfl ?a1 ?a2 ?a3 ?a4) ?a5 ?a6 ?yl ?ys ?yn ?yo ?_; (case aF => k_asm); (case aN => k_asm); (case aB => k_asm); (case aX => k_asm); (case aT => k_asm); (case a1 => exact law_a1); (case a2 => exact law_a2); (case a3 => exact law_a3); (case a4 => exact law_a4); (case a5 => exact law_a5); (case a6 => exact law_a6); (case yl => exact List.Mem.head _); (case ys => (refine' DatAll.mono ?yq ?yr; (case yr => assumption); (case yq => walk_at "all_in"))); (case yo => assumption); (case yn => assumption)); intro t' h' tk' F' N'; (with_reducible rename (∀ p ∈ _, p ∈ piecesL) => hrX); rw [sizes_eq _ hrX]))
        iterate 4 walk1
        · exact absurd rfl (by assumption)
        iterate 4 walk1
        with_reducible ((k_here; (rename Fr _ _ _ _ => lF'); (with_unfolding_all refine' For_turns lF' ?_; k_whole)))
        iterate 3 walk1
        with_reducible ((k_here; (with_reducible show wpAny _ _ (call (Value.ref 135) _ _) _ _ _); k_dflt (refine' odd_c (At.mk ?aB ?aF ?aX ?aN ?aT rfl ?a1 ?a2 ?a3 ?a4) ?a5 ?a6 ?_; (case aF => k_asm); (case aN => k_asm); (case aB => k_asm); (case aX => k_asm); (case aT => k_asm); (case a1 => exact law_a1); (case a2 => exact law_a2); (case a3 => exact law_a3); (case a4 => exact law_a4); (case a5 => exact law_a5); (case a6 => exact law_a6)); intro D' h' tk' it' n' tl' F' N0 hdp' hlp'; have N' := news_pull N0; clear N0; simp only [List.cons_append, List.nil_append] at N'))
        with_reducible ((k_here; (with_reducible rename Signs _ _ _ => sgX); (with_reducible show wpAny _ _ (pyIter (Value.ref _)) (fun it s₂ => TurnsAt _ _ _ _ _ _ _ _ _ it s₂) _ _); k_dflt (refine' iter_listTurns ?ih ?iF ?iN ?im ?ic ?id ?_; (case ih => rfl); (case iF => k_asm); (case iN => k_asm); (case im => k_mem); (case ic => rfl); (case id => rfl)); intro I' hI'))
        rename (∀ p ∈ _, Prod.fst p < _) => hI9
        rename DatAll _ _ (List.map oddDat oddL) => hod
        rename (∀ p ∈ done, p ∈ piecesL) => hrin
        refine items_ind (OInv _ (textOf done) _) ?_ ?_ _ _ _ ⟨_, oddL, _, m_as1 rfl, rfl, fun p hp => Nat.ne_of_lt (hI9 p hp), hod.mono (by walk_at "all_in"), fun _ h => h⟩
        · rintro v r m₁ nw h tk o hc ⟨u, r2, tT2, rfl, rfl, hnI, hdo, hro⟩ F1 N1
          cases r2 with
          | nil => cases hdo
          | cons q r2 =>
          cases hdo with
          | cons hv hr =>
          obtain ⟨t, nn, ta, tb, rfl, htm⟩ := odd_in hv
          obtain ⟨hsm2, ds, b, hpb, hblt, hbad⟩ := odd_bad done hrin q (hro q (.head _))
          have hqs := odd_short q (hro q (.head _))
          have hTl := odd_len done q.1 htl hrl hqs
          have N2 := news_e0 N1 htm
          clear N1
          iterate 17 walk1
          with_reducible ((k_here; refine wpAny_Try_except ?_))
          iterate 16 walk1
          with_reducible ((k_here; (with_reducible rename BadAt _ _ _ => bdX); (with_reducible show wpAny _ _ (call (Value.ref 109) _ _) _ _ _); k_dflt (refine' signs_bad (At.mk ?aB ?aF ?aX ?aN ?aT rfl ?a1 ?a2 ?a3 ?a4) ?a5 ?a6 ?sT ?sS ?sP ?sL bdX ?_; (case sP => assumption); (case aF => k_asm); (case aN => k_asm); (case aB => k_asm); (case aX => k_asm); (case aT => k_asm); (case a1 => exact law_a1); (case a2 => exact law_a2); (case a3 => exact law_a3); (case a4 => exact law_a4); (case a5 => exact law_a5); (case a6 => exact law_a6); (case sL => assumption); (case sT => assumption); (case sS => assumption)); unfold Faults; intro e' h' g' tk' F' R' U'))
          refine caught_law (L := _) rfl rfl rfl rfl rfl (by k_dflt k_asm) (by assumption) (by assumption) (by assumption) ?_ ?_
          · intro h' tk' Qx' Ex' F' hQ'
            iterate 1 walk1
            exact hQ'
          · intro h' dx' D' u1' u2' mv' tm' k1' k2' nn' ta' tb' oe' tk' F' N' hoc' hod' hon'
            iterate 5 walk1
            with_reducible ((k_here; (with_reducible rename BadAt _ _ _ => bdX); k_dflt (refine' get_exc_own ?k1 ?k2 ?k3 ?k4 ?k5 ?k6 ?k7 ?k8 ?k9 ?k10 ?k11 ?_; (case k1 => k_asm); (case k2 => k_asm); (case k3 => (exact exc_instT (by k_asm) (by assumption) (by assumption) (by assumption))); (case k4 => k_is); (case k5 => k_is); (case k6 => k_is); (case k7 => k_is); (case k8 => k_is); (case k9 => k_is); (case k10 => k_get); (case k11 => k_handed); k_whole)))
            iterate 23 walk1
            with_reducible ((k_here; k_dflt (refine' gone ?gk ?gp ?gF ?gN ?_; (case gk => rfl); (case gp => rfl); (case gF => k_asm); (case gN => k_asm)); intro h' v' F' N'))
            rename News _ _ _ _ => nX
            refine ListPost.cont (by k_dflt k_asm) ?lN hnI ⟨?lk, trivial⟩ ⟨_, r2, tT2, m_as1 rfl, rfl, hnI, hr, fun z hz => hro z (.tail _ hz)⟩
            case lN => exact cb_drop nX (List.forall_mem_cons.mpr ⟨by k_mem, by walk_at "all_in"⟩)
            case lk => k_mem
        · rintro m₁ nw h tk ⟨u, r2, tT2, rfl, rfl, hnI, hdo, hro⟩ F1 N1
          have hp0 : Parse (Str.ofString "") 0 [] ((Str.ofString "").length : Int) := by
            rw [show ((Str.ofString "").length : Int) = 0 from by decide]
            exact .nil 0
          have hs0 : Small (Str.ofString "") := fun c hc => nomatch hc
          iterate 13 walk1
          with_reducible ((k_here; (with_reducible show wpAny _ _ (call (Value.ref 121) _ _) _ _ _); (with_reducible rename Parse (Str.ofString "") _ _ _ => hp0X); k_dflt (refine' size_of_c (ss := []) (items := []) (At.mk ?aB ?aF ?aX ?aN ?aT rfl ?a1 ?a2 ?a3 ?a4) ?a5 ?a6 ?yl ?ys ?yn ?yo ?_; (case aF => k_asm); (case aN => k_asm); (case aB => k_asm); (case aX => k_asm); (case aT => k_asm); (case a1 => exact law_a1); (case a2 => exact law_a2); (case a3 => exact law_a3); (case a4 => exact law_a4); (case a5 => exact law_a5); (case a6 => exact law_a6); (case yl => exact List.Mem.head _); (case ys => exact DatAll.nil); (case yo => exact List.forall_mem_nil _); (case yn => decide)); intro t' h' tk' F' N'; rw [show (sizesOf ([] : List (Str × Int))).sum = 0 from rfl]))
          iterate 13 walk1
          with_reducible ((k_here; (with_reducible show wpAny _ _ (call (Value.ref 109) _ _) _ _ _); k_dflt (refine' signs_ok (At.mk ?aB ?aF ?aX ?aN ?aT rfl ?a1 ?a2 ?a3 ?a4) ?a5 ?a6 ?sT ?sS ?sP ?_; (case sP => assumption); (case aF => k_asm); (case aN => k_asm); (case aB => k_asm); (case aX => k_asm); (case aT => k_asm); (case a1 => exact law_a1); (case a2 => exact law_a2); (case a3 => exact law_a3); (case a4 => exact law_a4); (case a5 => exact law_a5); (case a6 => exact law_a6); (case sT => first | omega | decide); (case sS => assumption)); intro l' h' tk' it' n' tl' F' N0 hne' hsg'; have N' := news_pull N0; clear N0; simp only [List.cons_append, List.nil_append] at N'))
          iterate 3 walk1
          rename Signs _ _ [] => hsg0
          cases hsg0
          iterate 1 walk1
          k_steps)
end Mine
end

theorem PySem.Challenge.cw_pb0222_01_holds : PySem.Challenge.rw_pb0222_01.Holds := by
  exact Mine.t0
