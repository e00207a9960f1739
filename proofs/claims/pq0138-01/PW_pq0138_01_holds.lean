import PyProof.Rows.All
import Wide.All
import OpenK.AllK
import Wide.FinOn
import Lean
import PySem.Challenge.RW_pq0138_01
section
open PySem PySem.W PyProof.Rows
set_option Elab.async false
set_option maxRecDepth 100000
set_option maxHeartbeats 8000000
namespace Mine
section
-- the fuel is written as a term that the head's cutter does not read: the top is then checked at once, and the file stays small
local macro_rules | `(term| 2946) => `(term| id (2945 + 1))
open_top hd for PySem.Challenge.rw_pq0138_01
end
end Mine
end
section
open PySem PySem.W PyProof.Rows PySem.Spec PySem.Calls
set_option Elab.async false
set_option maxRecDepth 100000
set_option maxHeartbeats 8000000
namespace Mine

/-! entering a def of the text's own from any caller, the ledger of one's own choice -/
section
variable {prog : Program} {w : World} {A : Around} {s : Shared} {base : Heap} {l : List Env} {K : Frag} {p : Program} {loose : List Str} {mean : ExcName → Option Value} {mg mb : Str → Option Value}

/-- objects that stand in the heap, behind the base, and that are no frame's -/
def Led (base : Heap) (l : List Env) (h : Heap) (led : List (Addr × Obj)) : Prop :=
  ∀ p ∈ led, h.get? p.1 = some p.2 ∧ base.get? p.1 = none ∧ p.1 ∉ l.filterMap (·.frame)

theorem led_nil {h : Heap} : Led base l h [] := fun _ m => nomatch m
theorem led_cons {h : Heap} {a : Addr} {o : Obj} {led : List (Addr × Obj)} (h1 : h.get? a = some o) (h2 : base.get? a = none) (h3 : a ∉ l.filterMap (·.frame)) (hl : Led base l h led) : Led base l h ((a, o) :: led) := by
  intro p hp
  rcases List.mem_cons.mp hp with rfl | hp
  · exact ⟨h1, h2, h3⟩
  · exact hl p hp

theorem enter {f : Addr} {vs : List Value} {Q E : Value → Shared → Prop} {name qual : Str} {params : Arguments} {body : List Stmt} {scope : Scope} {dV kV doc pm cdv ct oc : Value} {an od : Option Addr} {osl : Array (Option Value)} {binds : List (Str × Value)}
    (B : Below A base l s.heap) (X : K.In base) (T : Top p loose mean mg mb base) (led : List (Addr × Obj)) (hled : Led base l s.heap led)
    (ho : K.lookup f = some ⟨oc, od, .func (fnOf name qual params body scope dV kV doc pm an cdv ct), osl⟩) (hcd : codeIn K cdv qual = true) (hroom : A.depth < recursionLimit)
    (hbind : BindsTo s (fnOf name qual params body scope dV kV doc pm an cdv ct) ⟨vs, []⟩ binds) (hloc : ∀ y ∈ binds, scope.names.lookup y.1 = some .local)
    (hcell : ∀ x ∈ scope.names, x.2 ≠ .cell)
    (h : ∀ g L' h₁, g = hideAll s.heap (led.map (·.1)) → Fr g L' h₁ (fun y => binds.reverse.lookup y) → News g L' h₁ led → Below A base l g → K.In g → Top p loose mean mg mb g → s.heap.objs.size = L' →
      wpAny (model prog w) (A.deeper (envOf qual scope L' f cdv)) (execs body (envOf qual scope L' f cdv))
        (fun fl s' => Q (match fl with | .ret v => v | _ => .none) s')
        (fun e s' => wpAny (model prog w) (A.deeper (envOf qual scope L' f cdv)) (leaving (envOf qual scope L' f cdv) e) (fun _ s'' => E e s'') (fun e' s'' => E e' s'') s')
        { s with heap := h₁, toks := s.toks + binds.length })
    (hco : scope.isCoroutine = false := by rfl) (hgen : scope.isGenerator = false := by rfl) (hk : scope.kind = .function := by rfl) :
    wpAny (model prog w) A (call (.ref f) vs) Q E s := by
  have hXs : K.In s.heap := fun a o e => B.stays a o (X a o e)
  have hTs := T.keeps B.stays
  have st : base.StaysIn (hideAll s.heap (led.map (·.1))) := fun b o e => hideAll_get _ (B.stays b o e) fun q => by
    obtain ⟨p, hp, rfl⟩ := List.mem_map.mp q
    rw [(hled p hp).2.1] at e; cases e
  have BG : Below A base l (hideAll s.heap (led.map (·.1))) := by
    refine ⟨B.stack, st, funFrames_hideAll B.frames fun env he a ha hf => ?_⟩
    obtain ⟨p, hp, rfl⟩ := List.mem_map.mp ha
    exact (hled p hp).2.2 (List.mem_filterMap.mpr ⟨env, he, hf⟩)
  refine wpAny_call ?_
  refine codeAny_call_def (fd := fnOf name qual params body scope dV kV doc pm an cdv ct) (body := body) (binds := binds) hroom (hXs _ _ ho) rfl hTs.nolimit (codeRec_of hXs hcd) rfl hbind hcell hloc (fun h₁ hns hk₁ => ?_) hco hgen hk
  exact h _ s.heap.objs.size h₁ rfl ⟨hns, fun b o e => hk₁ b o (of_hideAll _ e), Nat.le_of_eq (hideAll_size _ _)⟩
    (fun p hp => ⟨hk₁ _ _ (hled p hp).1, Nat.ne_of_lt (Heap.lt_size (hled p hp).1), hideAll_none _ (List.mem_map_of_mem hp)⟩) BG (fun a o e => st a o (X a o e)) (T.keeps st) rfl

theorem stays_led {h g h' : Heap} {L : Addr} {m : Str → Option Value} {led : List (Addr × Obj)} (hg : g = hideAll h (led.map (·.1))) (F : Fr g L h' m) (N : News g L h' led) (hl : Led base l h led) : h.StaysIn h' := by
  intro b o e
  by_cases q : b ∈ led.map (·.1)
  · obtain ⟨p, hp, rfl⟩ := List.mem_map.mp q
    have := (hl p hp).1
    rw [e] at this
    injection this with this
    rw [this]
    exact (N p hp).1
  · exact F.keep b o (hg ▸ hideAll_get _ e q)

/-- all but some objects stay -/
def StaysBut (S : List Addr) (h h' : Heap) : Prop := ∀ b o, h.get? b = some o → b ∉ S → h'.get? b = some o

theorem fr_stays {h₀ h h' : Heap} {L : Addr} {m : Str → Option Value} (F : Fr h₀ L h m) (k : h.StaysIn h') : Fr h₀ L h' m :=
  ⟨F.ns.keeps k, fun b o e => k b o (F.keep b o e), F.above⟩
theorem news_stays {h₀ h h' : Heap} {L : Addr} {news : List (Addr × Obj)} (N : News h₀ L h news) (k : h.StaysIn h') : News h₀ L h' news :=
  fun p hp => ⟨k _ _ (N p hp).1, (N p hp).2⟩

theorem below_use {A₀ : Around} {h₀ h : Heap} {outer : List Env} {L : Addr} {m : Str → Option Value} {env : Env} (B : Below A₀ base outer h₀) (F : Fr h₀ L h m) (hA : A.frames = some (env :: outer)) (hf : env.frame = some L) (hk : env.scope.kind = .function) : Below A base (env :: outer) h :=
  ⟨hA, (pushX B F hf hk).stays, (pushX B F hf hk).frames⟩
end
end Mine
end
section
open PySem PySem.W PyProof.Rows PySem.Spec PySem.Calls
set_option Elab.async false
set_option maxRecDepth 100000
set_option maxHeartbeats 8000000
namespace Mine

/-- those of X may change, those of S change in their slots alone, all others stay -/
def Mv (S X : List Addr) (h h' : Heap) : Prop := ∀ b o, h.get? b = some o → b ∉ X → ∃ sl, h'.get? b = some { o with slots := sl } ∧ (b ∉ S → sl = o.slots)

theorem Mv.refl {S X : List Addr} {h : Heap} : Mv S X h h := fun _ o e _ => ⟨o.slots, e, fun _ => rfl⟩
theorem Mv.trans {S X : List Addr} {h h₁ h₂ : Heap} (x : Mv S X h h₁) (y : Mv S X h₁ h₂) : Mv S X h h₂ := fun b o e n => by
  obtain ⟨s1, e1, f1⟩ := x b o e n
  obtain ⟨s2, e2, f2⟩ := y b _ e1 n
  exact ⟨s2, e2, fun m => (f2 m).trans (f1 m)⟩
theorem Mv.mono {S X S' X' : List Addr} {h h' : Heap} (x : Mv S X h h') (hS : ∀ b ∈ S, b ∈ S') (hX : ∀ b ∈ X, b ∈ X') : Mv S' X' h h' := fun b o e n => by
  obtain ⟨sl, e1, f1⟩ := x b o e fun q => n (hX b q)
  exact ⟨sl, e1, fun m => f1 fun q => m (hS b q)⟩
theorem Mv.keep {S X : List Addr} {h h' : Heap} (x : Mv S X h h') {b : Addr} {o : Obj} (e : h.get? b = some o) (n : b ∉ X) (m : b ∉ S) : h'.get? b = some o := by
  obtain ⟨sl, e1, f1⟩ := x b o e n
  rw [f1 m] at e1
  exact e1

/-- the exception, the newest entry of its traceback, and its namespace -/
structure Tr (h : Heap) (e T D : Addr) (fl : Value) : Prop where
  ex : ∃ oe vs, h.get? e = some oe ∧ oe.cls = .ref 34 ∧ oe.dict = some D ∧ oe.data = .fields vs ∧ vs[1]? = some (.ref T)
  ne : T ≠ e
  tb : ∃ oT ts, h.get? T = some oT ∧ oT.data = .fields ts ∧ ts[3]? = some fl

theorem mv_frames {base h h' : Heap} {l : List Env} {S X : List Addr} (m : Mv S X h h') (hX : ∀ b ∈ X, ∀ o, h.get? b = some o → ∃ vs, o.data = .fields vs) (hl : h.FunFrames base l) : h'.FunFrames base l :=
  hl.of_keeps fun b o e hd => by
    obtain ⟨sl, e1, _⟩ := m b o e fun q => by
      obtain ⟨vs, hv⟩ := hX b q o e
      exact hd vs hv
    exact ⟨_, e1, rfl⟩

section
variable {M : Model} {A : Around} {E : Value → Shared → Prop} {s : Shared}

theorem entry_on {base : Heap} {env : Env} {outer : List Env} {L e D : Addr} {oe : Obj} {vs : Array Value} {head : Value} {hadNext : Bool} {Q : Unit → Shared → Prop}
    (hfr : A.frames = some (env :: outer)) (hl : s.heap.FunFrames base (env :: outer)) (hf : env.frame = some L)
    (he : s.heap.get? e = some oe) (hc : oe.cls = .ref 34) (hD : oe.dict = some D) (hd : oe.data = .fields vs) (hsz : 1 < vs.size)
    (h : ∀ h' T, Mv ((env :: outer).filterMap (·.frame)) [e] s.heap h' → s.heap.get? T = none → Tr h' e T D (rawInt L) → Q () { s with heap := h' }) :
    wpAny M A (do let a ← frameOf env; let pl ← entryPlaceOf L hadNext; let b ← EntryCells.newEntry head a .none (rawInt L) .none pl; setField (.ref e) 1 b) Q E s := by
  have hene : e ∉ (env :: outer).filterMap (·.frame) := fun hm => by
    obtain ⟨_, o, ho, hnf⟩ := hl.mem hm
    rw [he] at ho
    cases ho
    exact hnf vs hd
  refine wpAny_bind (wpAny_frameOf_fun hfr hl hf fun h₁ hs₁ => ?_)
  refine wpAny_bind (wpAny_entryPlaceOf fun pl hpl => ?_)
  unfold EntryCells.newEntry newFields
  refine wpAny_bind (wpAny_newObj_type ?_ (hpl.sizeOk5 _ _ _ _ _))
  have he₁ : h₁.get? e = some oe := (hs₁.2.1 e hene).trans he
  generalize hob : ({ cls := .type "traceback", dict := none, data := .fields ([head, .ref L, .none, rawInt L, .none] ++ (if pl.isEmpty then List.replicate 6 Value.none else pl)).toArray } : Obj) = ob
  have hobf : ob.isFreed = false := by rw [← hob]; rfl
  have hobd : ob.data = .fields ([head, .ref L, .none, rawInt L, .none] ++ (if pl.isEmpty then List.replicate 6 Value.none else pl)).toArray := by rw [← hob]
  have he₂ : (h₁.push ob).get? e = some oe := Heap.get?_push_of_some _ he₁
  refine wpAny_setField he₂ hd hsz ?_
  have hTe : h₁.objs.size ≠ e := Nat.ne_of_gt (Heap.lt_size he₁)
  have hd₃ := Obj.data_mapFields hd (·.setIfInBounds 1 (Value.ref h₁.objs.size))
  have he₃ := Heap.get?_update_self (Obj.mapFields (·.setIfInBounds 1 (Value.ref h₁.objs.size))) he₂ (Obj.isFreed_of_fields hd₃)
  have hT₃ := (Heap.get?_update_other (h₁.push ob) (Obj.mapFields (·.setIfInBounds 1 (Value.ref h₁.objs.size))) (Ne.symm hTe)).trans (Heap.get?_push_size h₁ hobf)
  refine h _ h₁.objs.size (fun b o hb hbe => ?_) ?_ ⟨⟨_, _, he₃, (Obj.cls_mapFields _ _).trans hc, ?_, hd₃, ?_⟩, hTe, ⟨_, _, hT₃, hobd, ?_⟩⟩
  · have hbe : b ≠ e := fun q => hbe (by rw [q]; exact .head _)
    have up : ∀ o', h₁.get? b = some o' → ((h₁.push ob).update e (Obj.mapFields (·.setIfInBounds 1 (Value.ref h₁.objs.size)))).get? b = some o' := fun o' e' => by
      rw [Heap.get?_update_other _ _ (Ne.symm hbe)]
      exact Heap.get?_push_of_some _ e'
    by_cases hm : b ∈ (env :: outer).filterMap (·.frame)
    · obtain ⟨sl, hs⟩ := hs₁.2.2 b o hb
      exact ⟨sl, up _ hs, fun q => absurd hm q⟩
    · exact ⟨o.slots, up _ ((hs₁.2.1 b hm).trans hb), fun _ => rfl⟩
  · cases q : s.heap.get? h₁.objs.size with
    | none => rfl
    | some o => exact absurd (Heap.lt_size q) (by rw [hs₁.1]; exact Nat.lt_irrefl _)
  · rw [← hD]; cases oe; rename_i a b c d; cases c <;> rfl
  · simp [hsz]
  · first | (simp; done) | (rcases hpl with rfl | ⟨_, _, _, _, _, _, _, rfl⟩ <;> simp)

theorem flight_none {e T D : Addr} {fl : Value} {Q : Unit → Shared → Prop} (t : Tr s.heap e T D fl)
    (h : ∀ h', Mv [] [T] s.heap h' → Tr h' e T D .none → Q () { s with heap := h' }) : wpAny M A (setFlight (.ref e) none) Q E s := by
  obtain ⟨⟨oe, vs, he, hc, hD, hd, h1⟩, ne, oT, ts, hT, hdT, h3⟩ := t
  unfold setFlight
  refine wpAny_bind (wpAny_field he hd h1 ?_)
  rw [if_pos (show (Value.ref T != Value.none) = true from by simp)]
  have hsz3 : 3 < ts.size := (Array.getElem?_eq_some_iff.mp h3).1
  refine wpAny_setField hT hdT hsz3 (h _ (fun b o hb hbe => ⟨o.slots, ?_, fun _ => rfl⟩) ⟨⟨oe, vs, ?_, hc, hD, hd, h1⟩, ne, _, _, Heap.get?_update_self _ hT (Obj.isFreed_of_fields (Obj.data_mapFields hdT _)), Obj.data_mapFields hdT _, by simp [hsz3]⟩)
  · rw [Heap.get?_update_other _ _ fun q => hbe (by rw [← q]; exact .head _)]
    exact hb
  · rw [Heap.get?_update_other _ _ ne]
    exact he

/-- a frame notes that the exception goes through it -/
theorem note_next {base : Heap} {env : Env} {outer : List Env} {L e T D : Addr} {Q : Unit → Shared → Prop}
    (hfr : A.frames = some (env :: outer)) (hl : s.heap.FunFrames base (env :: outer)) (hf : env.frame = some L) (t : Tr s.heap e T D .none)
    (h : ∀ h' T', Mv ((env :: outer).filterMap (·.frame)) [e, T] s.heap h' → s.heap.get? T' = none → Tr h' e T' D (rawInt L) → Q () { s with heap := h' }) : wpAny M A (noteFrame (.ref e) env) Q E s := by
  obtain ⟨⟨oe, vs, he, hc, hD, hd, h1⟩, ne, oT, ts, hT, hdT, h3⟩ := t
  unfold noteFrame
  simp only [hf]
  refine wpAny_bind (wpAny_field he hd h1 ?_)
  rw [if_pos (show (Value.ref T != Value.none) = true from by simp)]
  refine wpAny_bind (wpAny_field hT hdT h3 ?_)
  rw [if_neg (show ¬ ((Value.none == rawInt L) = true) from by simp [rawInt])]
  refine wpAny_bind (wpAny_setField hT hdT (Array.getElem?_eq_some_iff.mp h3).1 ?_)
  have mv1 : Mv [] [T] s.heap (s.heap.update T (Obj.mapFields (·.setIfInBounds 3 Value.none))) := fun b o hb hbe => ⟨o.slots, (Heap.get?_update_other _ _ fun q => hbe (by rw [← q]; exact .head _)).trans hb, fun _ => rfl⟩
  refine entry_on (base := base) hfr (mv_frames mv1 (fun b hb o ho => ?_) hl) hf ((Heap.get?_update_other _ _ ne).trans he) hc hD hd (Array.getElem?_eq_some_iff.mp h1).1 fun h' T' m n t' => h h' T' ((mv1.mono (fun _ q => nomatch q) fun b q => ?_).trans (m.mono (fun _ q => q) fun b q => ?_)) ?_ t'
  · obtain rfl : b = T := List.mem_singleton.mp hb
    rw [hT] at ho
    cases ho
    exact ⟨ts, hdT⟩
  · exact .tail _ q
  · obtain rfl : b = e := List.mem_singleton.mp q
    exact .head _
  · cases q : s.heap.get? T' with
    | none => rfl
    | some o =>
      by_cases z : T' = T
      · subst z
        have := Heap.get?_update_self (Obj.mapFields (·.setIfInBounds 3 Value.none)) hT (Obj.isFreed_of_fields (Obj.data_mapFields hdT _))
        rw [n] at this
        cases this
      · rw [Heap.get?_update_other _ _ (Ne.symm z), q] at n
        cases n

theorem note_first {base : Heap} {env : Env} {outer : List Env} {L e D : Addr} {oe : Obj} {vs : Array Value} {Q : Unit → Shared → Prop}
    (hfr : A.frames = some (env :: outer)) (hl : s.heap.FunFrames base (env :: outer)) (hf : env.frame = some L)
    (he : s.heap.get? e = some oe) (hc : oe.cls = .ref 34) (hD : oe.dict = some D) (hd : oe.data = .fields vs) (h1 : vs[1]? = some .none)
    (h : ∀ h' T', Mv ((env :: outer).filterMap (·.frame)) [e] s.heap h' → s.heap.get? T' = none → Tr h' e T' D (rawInt L) → Q () { s with heap := h' }) : wpAny M A (noteFrame (.ref e) env) Q E s := by
  unfold noteFrame
  simp only [hf]
  refine wpAny_bind (wpAny_field he hd h1 ?_)
  rw [if_neg (by decide)]
  exact entry_on hfr hl hf he hc hD hd (Array.getElem?_eq_some_iff.mp h1).1 h

theorem leave_next {base : Heap} {env : Env} {outer : List Env} {L e T D : Addr} {Q : Unit → Shared → Prop}
    (hfr : A.frames = some (env :: outer)) (hl : s.heap.FunFrames base (env :: outer)) (hf : env.frame = some L) (t : Tr s.heap e T D .none)
    (h : ∀ h' T', Mv ((env :: outer).filterMap (·.frame)) [e, T] s.heap h' → s.heap.get? T' = none → Tr h' e T' D .none → Q () { s with heap := h' }) : wpAny M A (leaving env (.ref e)) Q E s := by
  unfold leaving
  refine wpAny_bind (note_next hfr hl hf t fun h₁ T₁ m₁ n₁ t₁ => flight_none t₁ fun h₂ m₂ t₂ => h h₂ T₁ (fun b o hb hx => ?_) n₁ t₂)
  obtain ⟨s1, e1, f1⟩ := m₁ b o hb hx
  obtain ⟨s2, e2, f2⟩ := m₂ b _ e1 fun q => by
    obtain rfl : b = T₁ := List.mem_singleton.mp q
    rw [hb] at n₁
    cases n₁
  exact ⟨s2, e2, fun q => (f2 (fun z => nomatch z)).trans (f1 q)⟩

theorem leave_first {base : Heap} {env : Env} {outer : List Env} {L e D : Addr} {oe : Obj} {vs : Array Value} {Q : Unit → Shared → Prop}
    (hfr : A.frames = some (env :: outer)) (hl : s.heap.FunFrames base (env :: outer)) (hf : env.frame = some L)
    (he : s.heap.get? e = some oe) (hc : oe.cls = .ref 34) (hD : oe.dict = some D) (hd : oe.data = .fields vs) (h1 : vs[1]? = some .none)
    (h : ∀ h' T', Mv ((env :: outer).filterMap (·.frame)) [e] s.heap h' → s.heap.get? T' = none → Tr h' e T' D .none → Q () { s with heap := h' }) : wpAny M A (leaving env (.ref e)) Q E s := by
  unfold leaving
  refine wpAny_bind (note_first hfr hl hf he hc hD hd h1 fun h₁ T₁ m₁ n₁ t₁ => flight_none t₁ fun h₂ m₂ t₂ => h h₂ T₁ (fun b o hb hx => ?_) n₁ t₂)
  obtain ⟨s1, e1, f1⟩ := m₁ b o hb hx
  obtain ⟨s2, e2, f2⟩ := m₂ b _ e1 fun q => by
    obtain rfl : b = T₁ := List.mem_singleton.mp q
    rw [hb] at n₁
    cases n₁
  exact ⟨s2, e2, fun q => (f2 (fun z => nomatch z)).trans (f1 q)⟩
end

/-- what the namespace of the error says: its code -/
def CodeDict (o : Obj) (c : Str) : Prop := (∃ es n, o.data = .dict es n) ∧ ∃ tk, lookIn "code" o = some (some (.str c tk))

/-- out of a call that began at h, an error with the code c flies at h' -/
structure Thrown (l : List Env) (c : Str) (h h' : Heap) (e : Addr) : Prop where
  mv : Mv (l.filterMap (·.frame)) [] h h'
  new : h.get? e = none
  tr : ∃ T D oD, Tr h' e T D .none ∧ h.get? T = none ∧ h.get? D = none ∧ h'.get? D = some oD ∧ CodeDict oD c

section
variable {M : Model} {A : Around} {E : Value → Shared → Prop} {s : Shared} {base g h₀ h : Heap} {outer : List Env} {env : Env} {L : Addr} {m : Str → Option Value} {c : Str} {Q : Unit → Shared → Prop} {e : Addr}

end
end Mine
end
section
open PySem PySem.W PyProof.Rows PySem.Spec PySem.Calls
set_option Elab.async false
set_option maxRecDepth 100000
set_option maxHeartbeats 8000000
namespace Mine
section
variable {prog : Program} {w : World} {A : Around} {E : Value → Shared → Prop} {h : Heap} {g : Array GenState} {d : Drawn} {t : Nat} {os : OsState}
variable {nm q : Str} {C N : Addr} {bs : List Value} {bm : List Value} {hdct : Bool} {sn : List Str} {sub : List Value} {ab : Bool} {col : Option Bool} {dd : Option Addr} {k0 k1 k2 k3 k5 : Option Value} {newId : String}
theorem be_slot_wget : Slot "wrapper_descriptor" "__get__" "wrapper_descriptor.__get__" := .of (owner := "wrapper_descriptor") (n := "__get__") (by rw [typeLookup_type, builtinLookup_eq_fast]; kernel_rfl) (by decide +kernel) (by decide +kernel) (by decide +kernel)
  (by first | exact .inl (by decide +kernel) | exact .inr (by decide +kernel)) (by rw [isSubtype_type]; kernel_rfl)
theorem be_entry_wget : entryFor table "wrapper_descriptor.__get__" = some Builtin.«wrapper_descriptor.__get__» := entryFor_of_tree (by kernel_rfl)
theorem be_args_wget (a b c : Value) : argsOk "wrapper_descriptor.__get__" ⟨[a, b, c], []⟩ := by unfold argsOk; kernel_rfl
theorem be_own_init : classOwn (.type "Exception") "__init__" = pure (some (.builtin "Exception.__init__")) := by kernel_rfl
theorem be_base_entry : entryFor table "BaseException.__init__" = some Builtin.«BaseException.__init__» := entryFor_of_tree (by kernel_rfl)
theorem be_kind : typeOf (.builtin "Exception.__init__") = pure (.type "wrapper_descriptor") := by kernel_rfl
theorem be_split : splitId "Exception.__init__" = some ("Exception", "__init__") := by kernel_rfl

theorem be_bound {e : Addr} {oe : Obj} {a : Value} {Q : Unit → Shared → Prop} (hC : h.get? C = some (excClassObj nm q C N bs bm hdct sn sub ab col dd k0 k1 k2 k3 k5 newId)) (he : h.get? e = some oe) (hcls : oe.cls = .ref C)
    (hq : Q () ⟨h, g, d, t, os⟩) : wpAny (model prog w) A (checkBoundCall "Exception.__init__" ⟨[.ref e, a], []⟩) Q E ⟨h, g, d, t, os⟩ := by
  have h1 := F.excBase_Exception.initRow
  have h2 := F.excBase_Exception.initKind
  unfold checkBoundCall
  simp only [h1, h2]
  rw [if_pos (by decide)]
  unfold Bind.checkArgs
  repeat (first | (with_reducible refine wpAny_loadPart_at he ?_; rw [hcls]) | (with_reducible refine wpAny_loadPart_at hC ?_) | wp_step)
  exact hq

theorem be_getAttr {so e : Addr} {oe : Obj} {tk : Tok} {Q : Fin → Shared → Prop}
    (hso : h.get? so = some { cls := .type "super", dict := none, data := .fields #[.ref C, .ref e, .ref C], slots := #[] }) (hno : Looks (model prog w) h (opaqueClassAbove (.ref C)) none)
    (hC : h.get? C = some (excClassObj nm q C N bs [.type "Exception", .type "BaseException", .type "object"] hdct sn sub ab col dd k0 k1 k2 k3 k5 newId)) (he : h.get? e = some oe) (hcls : oe.cls = .ref C)
    (hxC : e ≠ C)
    (hq : Q (.done (.ret (.ref h.objs.size))) ⟨h.push { cls := .type "method-wrapper", data := .fields #[.builtin "Exception.__init__", .ref e] }, g, d, t, os⟩) :
    wpAny (model prog w) A (Builtin.«super.__getattribute__» ⟨[.ref so, .str "__init__" tk], []⟩) Q E ⟨h, g, d, t, os⟩ := by
  have hlk := be_slot_wget.lookup
  have hne : (Value.ref e == Value.ref C) = false := by simp [hxC]
  have hTf : Shared.TypeIs ⟨h, g, d, t, os⟩ (.builtin "Exception.__init__") "wrapper_descriptor" := be_kind
  have hdt : ({ cls := .type "super", dict := none, data := .fields #[.ref C, .ref e, .ref C], slots := #[] } : Obj).data = .fields #[.ref C, .ref e, .ref C] := rfl
  have f0 : (#[.ref C, .ref e, .ref C] : Array Value)[0]? = some (.ref C) := rfl
  have f1 : (#[.ref C, .ref e, .ref C] : Array Value)[1]? = some (.ref e) := rfl
  have f2 : (#[.ref C, .ref e, .ref C] : Array Value)[2]? = some (.ref C) := rfl
  have hown := be_own_init
  have hsp := be_split
  have hk := be_kind
  have hcE : (Value.ref C :: [Value.type "Exception", Value.type "BaseException", Value.type "object"]).contains (.type "Exception") = true := by
    rw [List.contains_cons]; simp
  have hdrop : List.drop 1 (List.dropWhile (fun x => x != Value.ref C) [Value.ref C, Value.type "Exception", Value.type "BaseException", Value.type "object"]) = [.type "Exception", .type "BaseException", .type "object"] := by simp [List.dropWhile]
  have hcut : (".".intercalate ("Exception.__init__".cutAt '.').dropLast) = "Exception" := by decide +kernel
  unfold Builtin.«super.__getattribute__»
  repeat (first
    | (with_reducible refine wpAny_field hso hdt f0 ?_) | (with_reducible refine wpAny_field hso hdt f1 ?_) | (with_reducible refine wpAny_field hso hdt f2 ?_)
    | (with_reducible refine ks_wpAny_notOpaque hno ?_)
    | (with_reducible refine wpAny_mroOf_exc hC ?_)
    | (with_reducible refine wpAny_loadPart_at he ?_; rw [hcls])
    | (with_reducible refine wpAny_isSubtype_exc hC ?_; rw [hcE])
    | rw [hdrop]
    | rw [hcut]
    | (with_reducible refine wpAny_newObj_type ?_ (by size_fits))
    | rw [List.forIn_cons]
    | (with_reducible refine wpAny_call_entry be_slot_wget hTf be_entry_wget ?_ (be_args_wget _ _ _))
    | (with_reducible refine ⟨_, rfl, ?_⟩)
    | (simp only [hne, Bool.false_eq_true, if_false])
    | wp_step
    | dsimp only)
  exact hq


theorem be_getMethod {so e : Addr} {oe : Obj} {pl : Sem Bool} {Q : Value × List Value → Shared → Prop}
    (hso : h.get? so = some { cls := .type "super", dict := none, data := .fields #[.ref C, .ref e, .ref C], slots := #[] }) (hno : Looks (model prog w) h (opaqueClassAbove (.ref C)) none)
    (hC : h.get? C = some (excClassObj nm q C N bs [.type "Exception", .type "BaseException", .type "object"] hdct sn sub ab col dd k0 k1 k2 k3 k5 newId)) (he : h.get? e = some oe) (hcls : oe.cls = .ref C)
    (hxC : e ≠ C) (hq : Q (.ref h.objs.size, []) ⟨h.push { cls := .type "method-wrapper", data := .fields #[.builtin "Exception.__init__", .ref e] }, g, d, t + 1, os⟩) :
    wpAny (model prog w) A (getMethod (.ref so) "__init__" pl) Q E ⟨h, g, d, t, os⟩ := by
  have hT : ∀ t', (⟨h, g, d, t', os⟩ : Shared).TypeIs (.ref so) "super" := fun _ => ⟨_, hso, rfl⟩
  have hlk := F.ks_slot_super_ga.lookup
  have hb := F.ks_slot_super_ga.bind (.ref so)
  have hcan := F.ks_canon_super_ga
  unfold getMethod getAttr getAttrBy getAttrByItsOwn hookBefore callGetattribute boundAndCalled
  repeat (first
    | (with_reducible refine wpAny_specialOf (hT _) hlk ?_)
    | (with_reducible refine wpAny_typeOf (hT _) ?_)
    | (rw [if_pos hcan])
    | (with_reducible refine wpAny_attempt ?_)
    | (refine wpAny_call_entry F.ks_slot_super_ga (hT _) F.ks_entry_super_ga (be_getAttr hso hno hC he hcls hxC ⟨_, rfl, ?_⟩) (F.ks_gaArgs_super _ _))
    | wp_step)
  exact hq

theorem be_base_init {e : Addr} {ob : Obj} {vs : Array Value} {a o0 : Value} {Q : Fin → Shared → Prop} (he : h.get? e = some ob) (hd : ob.data = .fields vs) (h0 : vs[0]? = some o0)
    (hq : ∀ h', h'.get? e = some (Obj.mapFields (·.setIfInBounds 0 (.ref h.objs.size)) ob) → (∀ b o, b ≠ e → h.get? b = some o → h'.get? b = some o) → Q (.done (.ret .none)) ⟨h', g, d, t, os⟩) :
    wpAny (model prog w) A (Builtin.«BaseException.__init__» ⟨[.ref e, a], []⟩) Q E ⟨h, g, d, t, os⟩ := by
  unfold Builtin.«BaseException.__init__»
  dsimp only
  rw [if_neg (by simp)]
  unfold newTuple Builtin.BaseException.bexcPut
  have hsz : 0 < vs.size := (Array.getElem?_eq_some_iff.mp h0).1
  have he₁ := Heap.get?_push_of_some (h := h) { cls := .type "tuple", data := .seq [a].toArray } he
  refine wpAny_bind (wpAny_newObj_type (wpAny_bind (wpAny_bind (wpAny_field he₁ hd h0 (wpAny_bind (wpAny_setField he₁ hd hsz ?_))))) (by size_fits))
  have fin : Q (.done (.ret .none)) ⟨(h.push { cls := .type "tuple", data := .seq [a].toArray }).update e (Obj.mapFields (·.setIfInBounds 0 (.ref h.objs.size))), g, d, t, os⟩ := by
    refine hq _ (Heap.get?_update_self _ he₁ (Obj.isFreed_of_fields (Obj.data_mapFields hd _))) fun b o hb hbo => ?_
    rw [Heap.get?_update_other _ _ (Ne.symm hb)]
    exact Heap.get?_push_of_some _ hbo
  cases o0 <;> first | exact wpAny_letGo (wpAny_pure fin) | exact wpAny_pure (wpAny_pure fin)

theorem be_callMW {mw e : Addr} {oe : Obj} {vs : Array Value} {a o0 : Value} {Q : Value → Shared → Prop}
    (hC : h.get? C = some (excClassObj nm q C N bs bm hdct sn sub ab col dd k0 k1 k2 k3 k5 newId)) (hm : h.get? mw = some { cls := .type "method-wrapper", data := .fields #[.builtin "Exception.__init__", .ref e] })
    (he : h.get? e = some oe) (hcls : oe.cls = .ref C) (hd : oe.data = .fields vs) (h0 : vs[0]? = some o0)
    (hq : ∀ h', h'.get? e = some (Obj.mapFields (·.setIfInBounds 0 (.ref h.objs.size)) oe) → (∀ b o, b ≠ e → h.get? b = some o → h'.get? b = some o) → Q .none ⟨h', g, d, t, os⟩) :
    wpAny (model prog w) A (call (.ref mw) [a]) Q E ⟨h, g, d, t, os⟩ := by
  refine wpAny_call (codeAny_of_tree ?_)
  show wpAny _ _ (callAny (.ref mw) ⟨[a], []⟩) _ _ _
  unfold callAny
  repeat (first | (with_reducible refine wpAny_load hm ?_) | (refine be_bound hC he hcls ?_) | wp_step)
  refine ⟨Code.quiet_builtin _ (by decide +kernel), codeAny_builtin F.excBase_Exception.initEntry (be_base_init he hd h0 fun h' e1 e2 => ?_)⟩
  exact hq h' e1 e2

/-- a first name stored into an object that has no namespace yet -/
theorem be_store0 {x : Addr} {o : Obj} {name : Str} {v : Value} {mN : Str → Option Value} {tk : Tok} {B sa owner : String} {Q : Fin → Shared → Prop} (SF : StoreFacts B bm sa owner)
    (hC : h.get? C = some (excClassObj nm q C N bs bm true sn sub ab col dd k0 k1 k2 k3 k5 newId)) (hn : h.Ns N mN) (hna : mN name = none) (hB : typeLookup (.type B) name = pure none)
    (hx : h.get? x = some o) (hc : o.cls = .ref C) (hdn : o.dict = none) (hnc : ∀ c, o.data ≠ .cls c)
    (hq : ∀ h' tk', h'.get? x = some { o with dict := some h.objs.size } → h'.Ns1 h.objs.size (fun y => if y = name then some v else none) → (∀ b ob, b ≠ x → h.get? b = some ob → h'.get? b = some ob) → Q (.done (.ret .none)) ⟨h', g, d, tk', os⟩) :
    wpAny (model prog w) A (Builtin.«object.__setattr__» ⟨[.ref x, .str name tk, v], []⟩) Q E ⟨h, g, d, t, os⟩ := by
  have hpass := SF.passes (.ref x)
  have hx₁ : (h.push { cls := .type "dict", data := .dict #[] }).get? x = some o := Heap.get?_push_of_some _ hx
  have hxs : x ≠ h.objs.size := Nat.ne_of_lt (Heap.lt_size hx)
  have hfr := (Heap.get?_some_iff.mp hx).2
  have hx₂ : ((h.push { cls := .type "dict", data := .dict #[] }).update x fun o => { o with dict := some h.objs.size }).get? x = some { o with dict := some h.objs.size } := by
    refine Heap.get?_update_self _ hx₁ ?_
    obtain ⟨oc, od, odt, osl⟩ := o
    cases odt <;> first | rfl | exact hfr
  have hgd : ((h.push { cls := .type "dict", data := .dict #[] }).update x fun o => { o with dict := some h.objs.size }).get? h.objs.size = some { cls := .type "dict", data := .dict #[] } :=
    (Heap.get?_update_ne _ _ _ _ hxs.symm).trans (Heap.get?_push_at rfl rfl)
  have hnd : ((h.push { cls := .type "dict", data := .dict #[] }).update x fun o => { o with dict := some h.objs.size }).Ns h.objs.size (fun _ => none) := ⟨_, #[], _, hgd, rfl, fun e he => absurd he (by simp), fun _ => rfl⟩
  unfold Builtin.«object.__setattr__»
  repeat (first | rw [Builtin.ObjectAttr.refuse_eq] | rw [refuse_eq] | (rw [refuseLoop_ref, hpass]) | (with_reducible refine wpAny_loadPart_at hx ?_; rw [hc]) | with_reducible refine wpAny_mroOf_exc hC ?_ | (with_reducible refine wpAny_typeLookup_exc hC hn SF.mro hB ?_; rw [hna]) | wp_step)
  rw [hdn, if_neg (by simp [typeHasDict])]
  split
  · rename_i z
    cases z
  split
  · rename_i c z
    exact absurd z (hnc c)
  refine wpAny_bind (wpAny_alloc' (wpAny_bind (wpAny_update' hx₁ (wpAny_pure ?_))))
  show wpAny _ _ (Builtin.ObjectAttr.storeInDict h.objs.size (.str name tk) name v) _ _ _
  unfold Builtin.ObjectAttr.storeInDict Builtin.ObjectAttr.newKeyGuard
  refine wpAny_bind (wpAny_pure (wpAny_bind (wpAny_nsSet1 (Heap.Ns1.of_empty hnd) fun h' hn' hs => ?_)))
  obtain ⟨oD, esD, epD, hoD, hdD, hcD⟩ := hn'.count (Within.cons name v Within.nil)
  refine wpAny_bind (wpAny_lookBehind hoD (by rw [hdD]; exact pastItsLine_dict (Nat.le_trans hcD (by rw [List.length_cons, List.length_nil, sizeLine_eq]; omega))) ?_)
  wp_walk
  refine hq h' _ ((hs.2 x hxs).trans hx₂) ?_ fun b ob hbx hb => ?_
  · obtain ⟨o', es, ep, e1, e2, e3, eu, e4⟩ := hn'
    exact ⟨o', es, ep, e1, e2, e3, eu, fun y => by rw [e4 y]⟩
  · exact (hs.2 b (Nat.ne_of_lt (Heap.lt_size hb))).trans ((Heap.get?_update_ne _ _ _ _ hbx).trans (Heap.get?_push_of_some _ hb))

theorem be_setAttr0 {x : Addr} {o : Obj} {name : Str} {v : Value} {mN : Str → Option Value} {B sa owner : String} {Q : Unit → Shared → Prop} (SF : StoreFacts B bm sa owner)
    (hC : h.get? C = some (excClassObj nm q C N bs bm true sn sub ab col dd k0 k1 k2 k3 k5 newId)) (hn : h.Ns N mN) (hns : mN "__setattr__" = none) (hna : mN name = none) (hB : typeLookup (.type B) name = pure none)
    (hx : h.get? x = some o) (hc : o.cls = .ref C) (hdn : o.dict = none) (hnc : ∀ c, o.data ≠ .cls c)
    (hq : ∀ h' tk', h'.get? x = some { o with dict := some h.objs.size } → h'.Ns1 h.objs.size (fun y => if y = name then some v else none) → (∀ b ob, b ≠ x → h.get? b = some ob → h'.get? b = some ob) → Q () ⟨h', g, d, tk', os⟩) :
    wpAny (model prog w) A (setAttr (.ref x) name v) Q E ⟨h, g, d, t, os⟩ := by
  have f3 := SF.slot.bind (.ref x)
  unfold setAttr callSpecial? specialOf
  repeat (any_goals (first | assumption | (with_reducible refine wpAny_loadPart_at hx ?_; rw [hc]) | (with_reducible refine wpAny_typeLookup_exc hC hn SF.mro SF.slot.lookup ?_; rw [hns]) | wp_step))
  refine codeAny_call_builtin SF.slot.plain SF.entry (wpAny_check_sa SF hC hx hc (be_store0 SF hC hn hna hB hx hc hdn hnc fun h' tk' a1 a2 a3 => ?_))
  repeat (any_goals (first | assumption | wp_step))
  exact hq h' tk' a1 a2 a3
end
end Mine
end
section
open PySem PySem.W PyProof.Rows PySem.Spec PySem.Calls
set_option Elab.async false
set_option maxRecDepth 100000
set_option maxHeartbeats 8000000
namespace Mine
theorem fill : PySem.Challenge.rw_pq0138_01 = PySem.Challenge.rw_pq0138_01 ∧ (∀ P, hd.heap_39 P = hd.heap_39 P) := by
  k_fill
  exact ⟨rfl, fun _ => rfl⟩

section
variable {prog : Program} {w : World} {A : Around} {s : Shared} {base : Heap} {l : List Env} {K : Frag} {p : Program} {loose : List Str} {mean : ExcName → Option Value} {mg mb : Str → Option Value}
/-- the same for a def that closes over its class -/
theorem enterS {f cc : Addr} {vs : List Value} {Q E : Value → Shared → Prop} {name qual : Str} {params : Arguments} {body : List Stmt} {scope : Scope} {dV kV doc pm cdv ct oc : Value} {an od : Option Addr} {osl : Array (Option Value)} {binds : List (Str × Value)}
    (B : Below A base l s.heap) (X : K.In base) (T : Top p loose mean mg mb base) (led : List (Addr × Obj)) (hled : Led base l s.heap led)
    (ho : K.lookup f = some ⟨oc, od, .func (ksFn name qual params body scope dV kV doc pm an cdv ct cc), osl⟩) (hcd : codeIn K cdv qual = true) (hroom : A.depth < recursionLimit)
    (hbind : BindsTo s (ksFn name qual params body scope dV kV doc pm an cdv ct cc) ⟨vs, []⟩ binds) (hloc : ∀ y ∈ binds, scope.names.lookup y.1 = some .local)
    (hcell : ∀ x ∈ scope.names, x.2 ≠ .cell)
    (h : ∀ g L' h₁ tk', g = hideAll s.heap (led.map (·.1)) → Fr g L' h₁ (fun y => binds.reverse.lookup y) → News g L' h₁ led → Below A base l g → K.In g → Top p loose mean mg mb g → s.heap.objs.size = L' →
      _root_.PySem.wpAt (model prog w) (A.deeper (ksEnv qual scope L' f cdv cc)) (.func body (ksEnv qual scope L' f cdv cc)) (execs body (ksEnv qual scope L' f cdv cc))
        (fun fl s' => Q (match fl with | .ret v => v | _ => .none) s')
        (fun e s' => wpAny (model prog w) (A.deeper (ksEnv qual scope L' f cdv cc)) (leaving (ksEnv qual scope L' f cdv cc) e) (fun _ s'' => E e s'') (fun e' s'' => E e' s'') s')
        { s with heap := h₁, toks := tk' })
    (hco : scope.isCoroutine = false := by rfl) (hgen : scope.isGenerator = false := by rfl) (hk : scope.kind = .function := by rfl) :
    wpAny (model prog w) A (call (.ref f) vs) Q E s := by
  have hXs : K.In s.heap := fun a o e => B.stays a o (X a o e)
  have hTs := T.keeps B.stays
  have st : base.StaysIn (hideAll s.heap (led.map (·.1))) := fun b o e => hideAll_get _ (B.stays b o e) fun q => by
    obtain ⟨p, hp, rfl⟩ := List.mem_map.mp q
    rw [(hled p hp).2.1] at e; cases e
  have BG : Below A base l (hideAll s.heap (led.map (·.1))) := by
    refine ⟨B.stack, st, funFrames_hideAll B.frames fun env he a ha hf => ?_⟩
    obtain ⟨p, hp, rfl⟩ := List.mem_map.mp ha
    exact (hled p hp).2.2 (List.mem_filterMap.mpr ⟨env, he, hf⟩)
  refine wpAny_call ?_
  refine ks_codeAny_call_defAt (fd := ksFn name qual params body scope dV kV doc pm an cdv ct cc) (body := body) (binds := binds) hroom (hXs _ _ ho) rfl hTs.nolimit (codeRec_of hXs hcd) rfl hbind hcell hloc (fun h₁ hns hk₁ => ?_) hco hgen hk
  exact h _ s.heap.objs.size h₁ _ rfl ⟨hns, fun b o e => hk₁ b o (of_hideAll _ e), Nat.le_of_eq (hideAll_size _ _)⟩
    (fun p hp => ⟨hk₁ _ _ (hled p hp).1, Nat.ne_of_lt (Heap.lt_size (hled p hp).1), hideAll_none _ (List.mem_map_of_mem hp)⟩) BG (fun a o e => st a o (X a o e)) (T.keeps st) rfl

theorem ns_lookup {N : Addr} {o : Obj} {es : Array DictEntry} {n : Nat} {h : Heap} (X : K.In h) (hl : K.lookup N = some o) (hd : o.data = .dict es n) (hs : StrKeys es) : h.Ns N (nsFind es) := ⟨o, es, n, X _ _ hl, hd, hs, fun _ => rfl⟩
end

theorem and_ex {x : Option Obj} {o : Obj} {P : Obj → Prop} (h : x = some o) (h2 : P o) : ∃ o, x = some o ∧ P o := ⟨o, h, h2⟩
theorem fr_but {h₀ h h' : Heap} {L e : Addr} {m : Str → Option Value} (F : Fr h₀ L h m) (he : h₀.get? e = none) (hL : e ≠ L) (k : ∀ b o, b ≠ e → h.get? b = some o → h'.get? b = some o) : Fr h₀ L h' m := by
  obtain ⟨⟨o, es, ep, ho, r⟩, keep, ab⟩ := F
  refine ⟨⟨o, es, ep, k _ _ (Ne.symm hL) ho, r⟩, fun b o z => k b o (fun q => ?_) (keep b o z), ab⟩
  rw [q, he] at z; cases z
theorem callWith_mw {prog : Program} {w : World} {A : Around} {E : Value → Shared → Prop} {s : Shared} {pos : Pos} {a : Addr} {vs : Array Value} {first : List Value} {args : List (Bool × Sem Value)} {Q : Value → Shared → Prop} (hplain : args.any (·.1) = false)
    (h : wpAny (model prog w) A (evalArgs (.ref a) true args []) (fun x s₁ => s₁.heap.get? a = some { cls := .type "method-wrapper", data := .fields vs } ∧ wpAny (model prog w) A (call (.ref a) (first ++ x.pos) x.kw) Q E s₁) E s) :
    wpAny (model prog w) A (callWith pos (.ref a) first args []) Q E s := by
  unfold callWith
  refine wpAny_bind (wpAny_holding (wpAny_mono h (fun x s₁ h₁ => wpAny_bind (wpAny_standAt ?_)) fun _ _ x => x))
  simp only [hplain, List.any_nil, Bool.or_false]
  refine wpAny_bind ?_
  unfold keeperOf
  refine wpAny_bind (wpAny_load h₁.1 (wpAny_pure ?_))
  exact wpAny_bind (wpAny_mono h₁.2 (fun r s₂ hr => wpAny_bind (wpAny_holding (wpAny_point (wpAny_pure hr)))) fun _ _ x => x)
theorem be_no_code : typeLookup (.type "Exception") "code" = pure none := by rw [typeLookup_type, builtinLookup_eq_fast]; kernel_rfl
theorem be_no_told : typeLookup (.type "Exception") "told" = pure none := by rw [typeLookup_type, builtinLookup_eq_fast]; kernel_rfl
theorem lookIn_ns {h : Heap} {D : Addr} {m : Str → Option Value} (n : h.Ns1 D m) {name : Str} {v : Value} (hv : m name = some v) : ∃ oD, h.get? D = some oD ∧ (∃ es n, oD.data = .dict es n) ∧ lookIn name oD = some (some v) := by
  obtain ⟨o, es, ep, ho, hd, _, _, hf⟩ := n
  refine ⟨o, ho, ⟨es, ep, hd⟩, ?_⟩
  have := (hf name).trans hv
  unfold nsFind findBy at this
  rw [← Array.find?_toList] at this
  unfold lookIn
  rw [hd]
  dsimp only
  cases z : es.toList.find? (·.key.isStr name) with
  | none => rw [z] at this; cases this
  | some e => rw [z] at this; cases this; rfl
theorem be_cls_of {w : World} {nm q : Str} {N : Addr} {bs bm : List Value} {hdct : Bool} {sn : List Str} {sub : List Value} {ab : Bool} {col : Option Bool} {dd : Option Addr} {k0 k1 k2 k3 k5 : Option Value} {newId : String}
    (h : (hd.heap_39 w.params).lookup 34 = some (excClassObj nm q 34 N bs bm hdct sn sub ab col dd k0 k1 k2 k3 k5 newId)) (h1 : N = 33) (h2 : bm = [.type "Exception", .type "BaseException", .type "object"]) (h3 : hdct = true) (h4 : newId = "Exception.__new__") :
    ∃ nm q bs sn sub ab col dd k0 k1 k2 k3 k5, (hd.heap_39 w.params).lookup 34 = some (excClassObj nm q 34 33 bs [.type "Exception", .type "BaseException", .type "object"] true sn sub ab col dd k0 k1 k2 k3 k5 "Exception.__new__") := by
  subst h1 h2 h3 h4
  exact ⟨_, _, _, _, _, _, _, _, _, _, _, _, _, h⟩
theorem be_cls (w : World) : ∃ nm q bs sn sub ab col dd k0 k1 k2 k3 k5, (hd.heap_39 w.params).lookup 34 = some (excClassObj nm q 34 33 bs [.type "Exception", .type "BaseException", .type "object"] true sn sub ab col dd k0 k1 k2 k3 k5 "Exception.__new__") := by
  refine' be_cls_of ?h ?h1 ?h2 ?h3 ?h4
  (case h => k_is)
  all_goals rfl
theorem be_ns_of {h : Heap} {mN : Str → Option Value} (n : h.Ns 33 mN) (h1 : mN "__init__" = some (.ref 31)) (h2 : mN "__setattr__" = none) (h3 : mN "code" = none) (h4 : mN "told" = none) : ∃ mN, h.Ns 33 mN ∧ mN "__init__" = some (.ref 31) ∧ mN "__setattr__" = none ∧ mN "code" = none ∧ mN "told" = none := ⟨mN, n, h1, h2, h3, h4⟩
theorem be_ns {w : World} {h : Heap} (X : (hd.heap_39 w.params).In h) : ∃ mN, h.Ns 33 mN ∧ mN "__init__" = some (.ref 31) ∧ mN "__setattr__" = none ∧ mN "code" = none ∧ mN "told" = none := by
  refine' be_ns_of (ns_lookup X ?a ?b ?c) ?d1 ?d2 ?d3 ?d4
  (case a => k_is)
  (case b => exact rfl)
  · intro e he
    simp only [Array.mem_iff_getElem, List.size_toArray] at he
    obtain ⟨i, hi, rfl⟩ := he
    simp only [List.length_cons, List.length_nil] at hi
    match i, hi with
    | 0, _ => exact ⟨_, _, rfl⟩
    | 1, _ => exact ⟨_, _, rfl⟩
    | 2, _ => exact ⟨_, _, rfl⟩
    | 3, _ => exact ⟨_, _, rfl⟩
    | 4, _ => exact ⟨_, _, rfl⟩
    | 5, _ => exact ⟨_, _, rfl⟩
  all_goals rfl

local macro_rules | `(tactic| walk_at "pq st") => `(tactic| first | (k_unfold; (try dsimp only)) | (k_end; wrow_close) | walk1 | (dsimp only; walk1) | (leave1; walk_say "STEP leave1"; try dsimp only))
theorem make_BE1 {p : Program} {loose : List Str} {w : World} {A : Around} {s : Shared} {base : Heap} {l : List Env} {mean : ExcName → Option Value} {mg mb : Str → Option Value} {Q E : Value → Shared → Prop} {c : Str} {t : Tok}
    (B : Below A base l s.heap) (X : (hd.heap_39 w.params).In base) (T : Top p loose mean mg mb base)
    (hdp : A.depth + 20 < recursionLimit) (hu : A.units + 100 < cLine)
    (ret : ∀ h' tk' e D oD t1, s.heap.StaysIn h' → s.heap.get? e = none → s.heap.get? D = none → h'.get? e = some { cls := .ref 34, dict := some D, data := .fields #[.ref t1, .none, .none, .none, .bool false, .none] } → h'.get? D = some oD → CodeDict oD c → Q (.ref e) { s with heap := h', toks := tk' }) :
    wpAny (model PySem.Challenge.rw_pq0138_01.row.prog w) A (call (.ref 34) [.str c t]) Q E s := by
  obtain ⟨hp, g, d, tk, os⟩ := s
  have Xs : (hd.heap_39 w.params).In hp := fun a o e => B.stays a o (X a o e)
  obtain ⟨nm, q, bs, sn, sub, ab, col, dd, k0, k1, k2, k3, k5, hC⟩ := be_cls w
  obtain ⟨mN, hn, hi, hsa, hco, hto⟩ := be_ns Xs
  have hf : ∃ oI, (hd.heap_39 w.params).lookup 31 = some oI ∧ oI.cls = .type "function" := by
    refine' and_ex ?h ?h2
    (case h => k_is)
    rfl
  obtain ⟨oI, hfI, hfc⟩ := hf
  refine wpAny_call_exc_init F.excBase_Exception (Xs _ _ hC) hn hi (Xs _ _ hfI) hfc fun h1 e hm => ?_
  obtain ⟨hkeep, hnew, t0, he1, ht0, ht1⟩ := hm
  have hbe : base.get? e = none := by
    cases z : base.get? e with
    | none => rfl
    | some o => have := B.stays _ _ z; rw [hnew] at this; cases this
  have B1 : Below (A.under (.builtin "type.__call__" ⟨[.ref 34, .str c t], []⟩)) base l h1 := ⟨B.stack, fun b o z => hkeep b o (B.stays b o z), B.frames.of_keeps fun b o z _ => ⟨o, hkeep b o z, rfl⟩⟩
  have hnl : e ∉ l.filterMap (·.frame) := fun z => by
    obtain ⟨_, o, ho, _⟩ := B.frames.mem z
    rw [hnew] at ho; cases ho
  refine' enterS B1 X T [(e, _)] (led_cons he1 hbe hnl led_nil) ?k6 ?k7 ?k8 ?k9 ?kB ?c5 ?_ ?c2 ?c3 ?c4
  (case k6 => k_is)
  (case k7 => k_is)
  (case k8 => simp only [depth_under_make]; omega)
  (case k9 => exact binds_K (K := hd.heap_39 w.params) (fun a o e => hkeep a o (Xs a o e)) rfl (by k_is) rfl rfl rfl)
  (case c5 => decide)
  (case kB => exact locs rfl)
  (case c2 => exact rfl)
  (case c3 => exact rfl)
  (case c4 => exact rfl)
  intro g' L' h' tk0 hg' F' N' B' X' T' hL'
  dsimp only
  (try k_fold)
  refine ks_wpAt_execs_cons ?_
  refine ks_wpAt_Expr_any ?_
  refine ks_wpAt_MethodCall ?_
  refine' ks_node (s := ⟨h', g, d, tk0, os⟩) (odx := none) F' X' N' T' ?hf ?hp ?hv ?I ?hcode ?hvs ?hfile ?hcell ?hD ?hsub ?hsuper ?hat ?hks ?hkc ?hka ?hk ?htop ?hboot ?_
  (case hf => k_is)
  (case hp => rfl)
  (case hv => rfl)
  (case I => exact ⟨(N' _ (.head _)).1, rfl, rfl, trivial⟩)
  (case hcode => k_is)
  (case hvs => rfl)
  (case hfile => first | rfl | decide +kernel)
  (case hcell => k_is)
  (case hD => k_is)
  (case hsub => k_is)
  (case hsuper => k_is)
  (case hat => decide)
  (case hks => rfl)
  (case hkc => rfl)
  (case hka => rfl)
  (case hk => rfl)
  (case htop => decide +kernel)
  (case hboot => first | boot_by_name | rfl | kernel_rfl)
  intro so h2 F2 N2 l2
  have X2 : (hd.heap_39 w.params).In h2 := fun a o z => F2.keep a o (X' a o z)
  have e2 := (N2 _ (.tail _ (.head _))).1
  have hxC : e ≠ 34 := fun z => by
    rw [z, X _ _ hC] at hbe; cases hbe
  dsimp only at e2 ⊢
  refine be_getMethod (N2 _ (.head _)).1 (looks_opaque X2 (by k_is)) (X2 _ _ hC) e2 rfl hxC ?_
  obtain ⟨F3, N3, l3⟩ := ks_newsPush (s := ⟨h2, g, d, tk, os⟩) (o := { cls := .type "method-wrapper", data := .fields #[.builtin "Exception.__init__", .ref e] }) F2 N2 rfl (Heap.get?_push_at rfl rfl) (fun b o e => Heap.get?_push_of_some _ e)
  dsimp only at F3 N3 ⊢
  generalize h2.push { cls := .type "method-wrapper", data := .fields #[.builtin "Exception.__init__", .ref e] } = h3 at F3 N3 ⊢
  generalize h2.objs.size = mw at N3 l3 ⊢
  clear F2 N2
  refine callWith_mw rfl (evalArgs_plain (spliced_cons (nameX_L F3 rfl (spliced_nil ⟨(N3 _ (.head _)).1, ?_⟩))))
  have X3 : (hd.heap_39 w.params).In h3 := fun a o z => F3.keep a o (X' a o z)
  have e3 := (N3 _ (.tail _ (.tail _ (.head _)))).1
  dsimp only at e3
  refine be_callMW (X3 _ _ hC) (N3 _ (.head _)).1 e3 rfl rfl rfl fun h4 e4 k4 => ?_
  have heL : e ≠ L' := (N' _ (.head _)).2.1
  have hge : g'.get? e = none := (N' _ (.head _)).2.2
  have F4 := fr_but F3 hge heL k4
  clear e2 e3 F3 N3 N' F' he1 ht1 
  generalize h3.objs.size = t4 at e4
  iterate 5 (walk_at "pq st")
  have X4 : (hd.heap_39 w.params).In h4 := fun a o z => F4.keep a o (X' a o z)
  obtain ⟨mN4, hn4, hi4, hsa4, hco4, hto4⟩ := be_ns X4
  refine be_setAttr0 F.store_Exception (X4 _ _ hC) hn4 hsa4 hco4 be_no_code e4 rfl rfl (fun c q => by cases q) fun h5 tk5 e5 n5 k5 => ?_
  have F5 := fr_but F4 hge heL k5
  have hL4 : L' < h4.objs.size := by
    obtain ⟨o, _, _, ho, _⟩ := F4.ns
    exact Heap.lt_size ho
  have he4 : e < h4.objs.size := Heap.lt_size e4
  have hgD : g'.get? h4.objs.size = none := by
    cases z : g'.get? h4.objs.size with
    | none => rfl
    | some o => exact absurd (Heap.lt_size (F4.keep _ _ z)) (Nat.lt_irrefl _)
  generalize h4.objs.size = D at e5 n5 hL4 he4 hgD
  clear hn4 hi4 hsa4 hco4 hto4 X4 F4
  iterate 5 (walk_at "pq st")
  have X5 : (hd.heap_39 w.params).In h5 := fun a o z => F5.keep a o (X' a o z)
  obtain ⟨mN5, hn5, hi5, hsa5, hco5, hto5⟩ := be_ns X5
  refine store_attr F.store_Exception (X5 _ _ hC) hn5 hsa5 hto5 be_no_told hxC ⟨_, e5, rfl, (fun c q => by cases q), .inr ⟨D, rfl, Nat.ne_of_gt he4, n5⟩⟩ fun h6 tk6 I6 k6 o6 => ?_
  obtain ⟨o1, e6, oc6, od6, os6, odd6⟩ := o6 _ e5
  have kk6 : ∀ b o, b ≠ e → b ≠ D → h5.get? b = some o → h6.get? b = some o := fun b o q1 q2 z => k6 b o q1 (fun o₀ dx q3 q4 => by rw [e5] at q3; cases q3; cases q4; exact q2) z
  iterate 2 (walk_at "pq st")
  · rfl
  · obtain ⟨oc, od, oda, osl⟩ := o1
    dsimp only at oc6 od6 os6 odd6
    obtain rfl := oc6
    obtain rfl := od6
    obtain rfl := os6
    obtain rfl := odd6 D rfl
    obtain ⟨o2, e6', c6, nc6, hd6⟩ := I6
    rw [e6] at e6'
    obtain rfl := Option.some.inj e6'
    rcases hd6 with ⟨hn0, _⟩ | ⟨D2, hD2, _, n6⟩
    · cases hn0
    obtain rfl := Option.some.inj hD2
    obtain ⟨oD, hoD, hdd, hlk⟩ := lookIn_ns n6 (name := "code") (v := .str c t) (by rw [if_neg (by decide +kernel), if_pos rfl])
    have hpD : hp.get? D = none := by
      cases z : hp.get? D with
      | none => rfl
      | some o =>
        have hg : g'.get? D = some o := by
          rw [hg']
          exact hideAll_get _ (hkeep _ _ z) (by simpa using Nat.ne_of_gt he4)
        rw [hgD] at hg; cases hg
    refine ret h6 tk6 e D oD t4 (fun b o z => ?_) hnew hpD e6 hoD ⟨hdd, t, hlk⟩
    have hbe2 : b ≠ e := fun q => by rw [q, hnew] at z; cases z
    have hb1 := hkeep b o z
    have hbg : g'.get? b = some o := by
      rw [hg']
      exact hideAll_get _ hb1 (by simpa using hbe2)
    refine kk6 b o hbe2 (fun q => ?_) (F5.keep b o hbg)
    rw [q, hgD] at hbg; cases hbg
theorem make_BE2 {p : Program} {loose : List Str} {w : World} {A : Around} {s : Shared} {base : Heap} {l : List Env} {mean : ExcName → Option Value} {mg mb : Str → Option Value} {Q E : Value → Shared → Prop} {c c2 : Str} {t t2 : Tok}
    (B : Below A base l s.heap) (X : (hd.heap_39 w.params).In base) (T : Top p loose mean mg mb base)
    (hdp : A.depth + 20 < recursionLimit) (hu : A.units + 100 < cLine)
    (ret : ∀ h' tk' e D oD t1, s.heap.StaysIn h' → s.heap.get? e = none → s.heap.get? D = none → h'.get? e = some { cls := .ref 34, dict := some D, data := .fields #[.ref t1, .none, .none, .none, .bool false, .none] } → h'.get? D = some oD → CodeDict oD c → Q (.ref e) { s with heap := h', toks := tk' }) :
    wpAny (model PySem.Challenge.rw_pq0138_01.row.prog w) A (call (.ref 34) [.str c t, .str c2 t2]) Q E s := by
  obtain ⟨hp, g, d, tk, os⟩ := s
  have Xs : (hd.heap_39 w.params).In hp := fun a o e => B.stays a o (X a o e)
  obtain ⟨nm, q, bs, sn, sub, ab, col, dd, k0, k1, k2, k3, k5, hC⟩ := be_cls w
  obtain ⟨mN, hn, hi, hsa, hco, hto⟩ := be_ns Xs
  have hf : ∃ oI, (hd.heap_39 w.params).lookup 31 = some oI ∧ oI.cls = .type "function" := by
    refine' and_ex ?h ?h2
    (case h => k_is)
    rfl
  obtain ⟨oI, hfI, hfc⟩ := hf
  refine wpAny_call_exc_init F.excBase_Exception (Xs _ _ hC) hn hi (Xs _ _ hfI) hfc fun h1 e hm => ?_
  obtain ⟨hkeep, hnew, t0, he1, ht0, ht1⟩ := hm
  have hbe : base.get? e = none := by
    cases z : base.get? e with
    | none => rfl
    | some o => have := B.stays _ _ z; rw [hnew] at this; cases this
  have B1 : Below (A.under (.builtin "type.__call__" ⟨[.ref 34, .str c t, .str c2 t2], []⟩)) base l h1 := ⟨B.stack, fun b o z => hkeep b o (B.stays b o z), B.frames.of_keeps fun b o z _ => ⟨o, hkeep b o z, rfl⟩⟩
  have hnl : e ∉ l.filterMap (·.frame) := fun z => by
    obtain ⟨_, o, ho, _⟩ := B.frames.mem z
    rw [hnew] at ho; cases ho
  refine' enterS B1 X T [(e, _)] (led_cons he1 hbe hnl led_nil) ?k6 ?k7 ?k8 ?k9 ?kB ?c5 ?_ ?c2 ?c3 ?c4
  (case k6 => k_is)
  (case k7 => k_is)
  (case k8 => simp only [depth_under_make]; omega)
  (case k9 => exact binds_K (K := hd.heap_39 w.params) (fun a o e => hkeep a o (Xs a o e)) rfl (by k_is) rfl rfl rfl)
  (case c5 => decide)
  (case kB => exact locs rfl)
  (case c2 => exact rfl)
  (case c3 => exact rfl)
  (case c4 => exact rfl)
  intro g' L' h' tk0 hg' F' N' B' X' T' hL'
  dsimp only
  (try k_fold)
  refine ks_wpAt_execs_cons ?_
  refine ks_wpAt_Expr_any ?_
  refine ks_wpAt_MethodCall ?_
  refine' ks_node (s := ⟨h', g, d, tk0, os⟩) (odx := none) F' X' N' T' ?hf ?hp ?hv ?I ?hcode ?hvs ?hfile ?hcell ?hD ?hsub ?hsuper ?hat ?hks ?hkc ?hka ?hk ?htop ?hboot ?_
  (case hf => k_is)
  (case hp => rfl)
  (case hv => rfl)
  (case I => exact ⟨(N' _ (.head _)).1, rfl, rfl, trivial⟩)
  (case hcode => k_is)
  (case hvs => rfl)
  (case hfile => first | rfl | decide +kernel)
  (case hcell => k_is)
  (case hD => k_is)
  (case hsub => k_is)
  (case hsuper => k_is)
  (case hat => decide)
  (case hks => rfl)
  (case hkc => rfl)
  (case hka => rfl)
  (case hk => rfl)
  (case htop => decide +kernel)
  (case hboot => first | boot_by_name | rfl | kernel_rfl)
  intro so h2 F2 N2 l2
  have X2 : (hd.heap_39 w.params).In h2 := fun a o z => F2.keep a o (X' a o z)
  have e2 := (N2 _ (.tail _ (.head _))).1
  have hxC : e ≠ 34 := fun z => by
    rw [z, X _ _ hC] at hbe; cases hbe
  dsimp only at e2 ⊢
  refine be_getMethod (N2 _ (.head _)).1 (looks_opaque X2 (by k_is)) (X2 _ _ hC) e2 rfl hxC ?_
  obtain ⟨F3, N3, l3⟩ := ks_newsPush (s := ⟨h2, g, d, tk, os⟩) (o := { cls := .type "method-wrapper", data := .fields #[.builtin "Exception.__init__", .ref e] }) F2 N2 rfl (Heap.get?_push_at rfl rfl) (fun b o e => Heap.get?_push_of_some _ e)
  dsimp only at F3 N3 ⊢
  generalize h2.push { cls := .type "method-wrapper", data := .fields #[.builtin "Exception.__init__", .ref e] } = h3 at F3 N3 ⊢
  generalize h2.objs.size = mw at N3 l3 ⊢
  clear F2 N2
  refine callWith_mw rfl (evalArgs_plain (spliced_cons (nameX_L F3 rfl (spliced_nil ⟨(N3 _ (.head _)).1, ?_⟩))))
  have X3 : (hd.heap_39 w.params).In h3 := fun a o z => F3.keep a o (X' a o z)
  have e3 := (N3 _ (.tail _ (.tail _ (.head _)))).1
  dsimp only at e3
  refine be_callMW (X3 _ _ hC) (N3 _ (.head _)).1 e3 rfl rfl rfl fun h4 e4 k4 => ?_
  have heL : e ≠ L' := (N' _ (.head _)).2.1
  have hge : g'.get? e = none := (N' _ (.head _)).2.2
  have F4 := fr_but F3 hge heL k4
  clear e2 e3 F3 N3 N' F' he1 ht1 
  generalize h3.objs.size = t4 at e4
  iterate 5 (walk_at "pq st")
  have X4 : (hd.heap_39 w.params).In h4 := fun a o z => F4.keep a o (X' a o z)
  obtain ⟨mN4, hn4, hi4, hsa4, hco4, hto4⟩ := be_ns X4
  refine be_setAttr0 F.store_Exception (X4 _ _ hC) hn4 hsa4 hco4 be_no_code e4 rfl rfl (fun c q => by cases q) fun h5 tk5 e5 n5 k5 => ?_
  have F5 := fr_but F4 hge heL k5
  have hL4 : L' < h4.objs.size := by
    obtain ⟨o, _, _, ho, _⟩ := F4.ns
    exact Heap.lt_size ho
  have he4 : e < h4.objs.size := Heap.lt_size e4
  have hgD : g'.get? h4.objs.size = none := by
    cases z : g'.get? h4.objs.size with
    | none => rfl
    | some o => exact absurd (Heap.lt_size (F4.keep _ _ z)) (Nat.lt_irrefl _)
  generalize h4.objs.size = D at e5 n5 hL4 he4 hgD
  clear hn4 hi4 hsa4 hco4 hto4 X4 F4
  iterate 5 (walk_at "pq st")
  have X5 : (hd.heap_39 w.params).In h5 := fun a o z => F5.keep a o (X' a o z)
  obtain ⟨mN5, hn5, hi5, hsa5, hco5, hto5⟩ := be_ns X5
  refine store_attr F.store_Exception (X5 _ _ hC) hn5 hsa5 hto5 be_no_told hxC ⟨_, e5, rfl, (fun c q => by cases q), .inr ⟨D, rfl, Nat.ne_of_gt he4, n5⟩⟩ fun h6 tk6 I6 k6 o6 => ?_
  obtain ⟨o1, e6, oc6, od6, os6, odd6⟩ := o6 _ e5
  have kk6 : ∀ b o, b ≠ e → b ≠ D → h5.get? b = some o → h6.get? b = some o := fun b o q1 q2 z => k6 b o q1 (fun o₀ dx q3 q4 => by rw [e5] at q3; cases q3; cases q4; exact q2) z
  iterate 2 (walk_at "pq st")
  · rfl
  · obtain ⟨oc, od, oda, osl⟩ := o1
    dsimp only at oc6 od6 os6 odd6
    obtain rfl := oc6
    obtain rfl := od6
    obtain rfl := os6
    obtain rfl := odd6 D rfl
    obtain ⟨o2, e6', c6, nc6, hd6⟩ := I6
    rw [e6] at e6'
    obtain rfl := Option.some.inj e6'
    rcases hd6 with ⟨hn0, _⟩ | ⟨D2, hD2, _, n6⟩
    · cases hn0
    obtain rfl := Option.some.inj hD2
    obtain ⟨oD, hoD, hdd, hlk⟩ := lookIn_ns n6 (name := "code") (v := .str c t) (by rw [if_neg (by decide +kernel), if_pos rfl])
    have hpD : hp.get? D = none := by
      cases z : hp.get? D with
      | none => rfl
      | some o =>
        have hg : g'.get? D = some o := by
          rw [hg']
          exact hideAll_get _ (hkeep _ _ z) (by simpa using Nat.ne_of_gt he4)
        rw [hgD] at hg; cases hg
    refine ret h6 tk6 e D oD t4 (fun b o z => ?_) hnew hpD e6 hoD ⟨hdd, t, hlk⟩
    have hbe2 : b ≠ e := fun q => by rw [q, hnew] at z; cases z
    have hb1 := hkeep b o z
    have hbg : g'.get? b = some o := by
      rw [hg']
      exact hideAll_get _ hb1 (by simpa using hbe2)
    refine kk6 b o hbe2 (fun q => ?_) (F5.keep b o hbg)
    rw [q, hgD] at hbg; cases hbg
end Mine
end
section
open PySem PySem.W PyProof.Rows PySem.Spec PySem.Calls
set_option Elab.async false
set_option maxRecDepth 100000
set_option maxHeartbeats 8000000
namespace Mine
theorem fillW : PySem.Challenge.rw_pq0138_01 = PySem.Challenge.rw_pq0138_01 ∧ (∀ P, hd.heap_39 P = hd.heap_39 P) := by
  k_fill
  exact ⟨rfl, fun _ => rfl⟩
section
variable {M : Model} {A : Around} {E : Value → Shared → Prop} {env : Env}
variable {nm q : Str} {C N : Addr} {bs bm : List Value} {hdct : Bool} {sn : List Str} {sub : List Value} {ab : Bool} {col : Option Bool} {dd : Option Addr} {k0 k1 k2 k3 k5 : Option Value} {newId : String}
theorem be_raiseStmt {s : Shared} {x : Sem Value} {Q : Flow → Shared → Prop} (hbase : bm.contains (.type "BaseException") = true) (hh : A.handled = none)
    (h : wpAny M A x (fun v s₁ => ∃ e D t1, v = .ref e ∧ s₁.heap.get? C = some (excClassObj nm q C N bs bm hdct sn sub ab col dd k0 k1 k2 k3 k5 newId) ∧
      s₁.heap.get? e = some { cls := .ref C, dict := some D, data := .fields #[.ref t1, .none, .none, .none, .bool false, .none] } ∧ E (.ref e) s₁) E s) :
    wpAny M A (raiseStmt env (some x) none) Q E s := by
  have hcB : (Value.ref C :: bm).contains (.type "BaseException") = true := by rw [List.contains_cons, hbase, Bool.or_true]
  unfold raiseStmt
  refine wpAny_bind (wpAny_mono h (fun v s₁ h₁ => ?_) fun _ _ x => x)
  obtain ⟨e, D, t1, rfl, hC, he, hE⟩ := h₁
  obtain ⟨hp, g, d, tk, os⟩ := s₁
  repeat (first | with_reducible refine wpAny_loadPart_at he ?_ | with_reducible refine wpAny_loadPart_at hC ?_ | (with_reducible refine wpAny_isSubtype_exc hC ?_; rw [hcB]) | wp_step)
  exact wpAny_raiseNew_none hh hE
end

section
variable {M : Model} {A : Around} {E : Value → Shared → Prop} {s : Shared} {base h₀ h : Heap} {outer : List Env} {env : Env} {L : Addr} {m : Str → Option Value} {c : Str} {Q : Unit → Shared → Prop} {e : Addr}
end

section
variable {w : World} {A₀ A : Around} {s : Shared} {base g h₀ : Heap} {outer : List Env} {L a : Addr} {m : Str → Option Value} {cn : Str} {cs : Scope} {ccd : Value} {cl : List (Str × Addr)} {mean : ExcName → Option Value} {mg mb : Str → Option Value}

end
end Mine
end
section
open PySem PySem.W PyProof.Rows PySem.Spec PySem.Calls
set_option Elab.async false
set_option maxRecDepth 100000
set_option maxHeartbeats 8000000
namespace Mine
section
variable {prog : Program} {w : World} {A : Around} {s : Shared} {base : Heap} {l : List Env} {K : Frag} {p : Program} {loose : List Str} {mean : ExcName → Option Value} {mg mb : Str → Option Value}
/-- into a def, nothing hidden -/
theorem enter0 {f : Addr} {vs : List Value} {Q E : Value → Shared → Prop} {name qual : Str} {params : Arguments} {body : List Stmt} {scope : Scope} {dV kV doc pm cdv ct oc : Value} {an od : Option Addr} {osl : Array (Option Value)} {binds : List (Str × Value)}
    (B : Below A base l s.heap) (X : K.In base) (T : Top p loose mean mg mb base)
    (ho : K.lookup f = some ⟨oc, od, .func (fnOf name qual params body scope dV kV doc pm an cdv ct), osl⟩) (hcd : codeIn K cdv qual = true) (hroom : A.depth < recursionLimit)
    (hbind : BindsTo s (fnOf name qual params body scope dV kV doc pm an cdv ct) ⟨vs, []⟩ binds) (hloc : ∀ y ∈ binds, scope.names.lookup y.1 = some .local)
    (hcell : ∀ x ∈ scope.names, x.2 ≠ .cell)
    (h : ∀ L' h₁, Fr s.heap L' h₁ (fun y => binds.reverse.lookup y) → News s.heap L' h₁ [] → K.In s.heap → Top p loose mean mg mb s.heap → s.heap.get? L' = none →
      wpAny (model prog w) (A.deeper (envOf qual scope L' f cdv)) (execs body (envOf qual scope L' f cdv))
        (fun fl s' => Q (match fl with | .ret v => v | _ => .none) s')
        (fun e s' => wpAny (model prog w) (A.deeper (envOf qual scope L' f cdv)) (leaving (envOf qual scope L' f cdv) e) (fun _ s'' => E e s'') (fun e' s'' => E e' s'') s')
        { s with heap := h₁, toks := s.toks + binds.length })
    (hco : scope.isCoroutine = false := by rfl) (hgen : scope.isGenerator = false := by rfl) (hk : scope.kind = .function := by rfl) :
    wpAny (model prog w) A (call (.ref f) vs) Q E s := by
  refine enter B X T [] led_nil ho hcd hroom hbind hloc hcell (fun g L' h₁ hg F N B' X' T' hL => ?_) hco hgen hk
  have hg : g = s.heap := hg
  subst hg
  exact h L' h₁ F N X' T' (Heap.get?_none_of_le (Nat.le_of_eq hL))
end

end Mine
end
section
open PySem PySem.W PyProof.Rows PySem.Spec PySem.Calls
set_option Elab.async false
set_option maxRecDepth 100000
set_option maxHeartbeats 8000000
namespace Mine

/-! abstract values, objects, states; what they say of a heap -/
abbrev PR : Program := PySem.Challenge.rw_pq0138_01.row.prog

inductive V where
  | none | bool (b : Bool) | int (i : Int) | str (x : Str) | tup (l : List V) | ref (a : Addr) | ty (n : String)

mutual
inductive RV (h : Heap) : Value → V → Prop
  | none : RV h .none .none
  | bool {b : Bool} : RV h (.bool b) (.bool b)
  | int {i : Int} {t : Tok} : RV h (.int i t) (.int i)
  | str {x : Str} {t : Tok} : RV h (.str x t) (.str x)
  | tup {a : Addr} {vs : Array Value} {l : List V} : IsTup h a vs → RL h vs.toList l → RV h (.ref a) (.tup l)
  | ref {a : Addr} : RV h (.ref a) (.ref a)
  | ty {n : String} : RV h (.type n) (.ty n)
inductive RL (h : Heap) : List Value → List V → Prop
  | nil : RL h [] []
  | cons {v : Value} {x : V} {vs : List Value} {l : List V} : RV h v x → RL h vs l → RL h (v :: vs) (x :: l)
end

/-- tuples stay -/
def TupK (h h' : Heap) : Prop := ∀ a vs, IsTup h a vs → IsTup h' a vs

mutual
theorem RV.mono {h h' : Heap} (k : TupK h h') : ∀ {v : Value} {x : V}, RV h v x → RV h' v x
  | _, _, .none => .none
  | _, _, .bool => .bool
  | _, _, .int => .int
  | _, _, .str => .str
  | _, _, .tup t r => .tup (k _ _ t) (RL.mono k r)
  | _, _, .ref => .ref
  | _, _, .ty => .ty
theorem RL.mono {h h' : Heap} (k : TupK h h') : ∀ {v : List Value} {x : List V}, RL h v x → RL h' v x
  | _, _, .nil => .nil
  | _, _, .cons a b => .cons (RV.mono k a) (RL.mono k b)
end
theorem RL.length {h : Heap} : ∀ {vs : List Value} {l : List V}, RL h vs l → vs.length = l.length
  | _, _, .nil => rfl
  | _, _, .cons _ b => by rw [List.length_cons, List.length_cons, b.length]
theorem RL.append {h : Heap} : ∀ {vs : List Value} {l : List V} {vs' : List Value} {l' : List V}, RL h vs l → RL h vs' l' → RL h (vs ++ vs') (l ++ l')
  | _, _, _, _, .nil, r => r
  | _, _, _, _, .cons a b, r => .cons a (b.append r)
theorem RL.get {h : Heap} : ∀ {vs : List Value} {l : List V} {i : Nat} {x : V}, RL h vs l → l[i]? = some x → ∃ v, vs[i]? = some v ∧ RV h v x
  | _, _, 0, _, .cons a _, e => by cases e; exact ⟨_, rfl, a⟩
  | _, _, i + 1, _, .cons _ b, e => by
    obtain ⟨v, h1, h2⟩ := b.get (i := i) (by simpa using e)
    exact ⟨v, by simpa using h1, h2⟩
theorem RL.set {h : Heap} : ∀ {vs : List Value} {l : List V} {i : Nat} {v : Value} {x : V}, RL h vs l → RV h v x → RL h (vs.set i v) (l.set i x)
  | _, _, _, _, _, .nil, _ => .nil
  | _, _, 0, _, _, .cons _ b, r => .cons r b
  | _, _, i + 1, _, _, .cons a b, r => .cons a (b.set r)

inductive RD (h : Heap) : List (Str × Value) → List (Str × V) → Prop
  | nil : RD h [] []
  | cons {k : Str} {v : Value} {x : V} {vs : List (Str × Value)} {l : List (Str × V)} : RV h v x → RD h vs l → RD h ((k, v) :: vs) ((k, x) :: l)
inductive RE (h : Heap) : List DictEntry → List (Str × V) → Prop
  | nil : RE h [] []
  | cons {hs : Int} {k : Str} {t : Tok} {v : Value} {x : V} {vs : List DictEntry} {l : List (Str × V)} : RV h v x → RE h vs l → RE h (⟨hs, .str k t, v⟩ :: vs) ((k, x) :: l)
theorem RD.mono {h h' : Heap} (k : TupK h h') : ∀ {v : List (Str × Value)} {x : List (Str × V)}, RD h v x → RD h' v x
  | _, _, .nil => .nil
  | _, _, .cons a b => .cons (a.mono k) (b.mono k)
theorem RE.mono {h h' : Heap} (k : TupK h h') : ∀ {v : List DictEntry} {x : List (Str × V)}, RE h v x → RE h' v x
  | _, _, .nil => .nil
  | _, _, .cons a b => .cons (a.mono k) (b.mono k)

/-- names to values -/
def alook : List (Str × V) → Str → Option V
  | [], _ => none
  | (k, v) :: r, x => if x = k then some v else alook r x
def aset : List (Str × V) → Str → V → List (Str × V)
  | [], x, v => [(x, v)]
  | (k, y) :: r, x, v => if x = k then (k, v) :: r else (k, y) :: aset r x v

inductive O where
  | list (l : List V)
  | dict (l : List (Str × V))
  | inst (dx : Addr) (l : List (Str × V))
  | cell (v : Option V)
  | code (q : Str)
  | tab (l : List (Int × Int × Addr))
  | lam (body : Expr) (scope : Scope) (cl : List (Str × Addr)) (q : Str) (c : Addr)

abbrev St := Addr → Option O
def own (a : Addr) : O → List Addr
  | .inst dx _ => [a, dx]
  | _ => [a]
def Own (σ : St) (b : Addr) : Prop := ∃ a o, σ a = some o ∧ b ∈ own a o
def upd (σ : St) (a : Addr) (o : O) : St := fun b => if b = a then some o else σ b

def trip : List (Int × Int × Addr) → List Value
  | [] => []
  | (l, c, a) :: r => rawInt l.toNat :: rawInt c.toNat :: .ref a :: trip r

abbrev noArgs : Arguments := { posonlyargs := [], args := [], vararg := none, kwonlyargs := [], kw_defaults := [], kwarg := none, defaults := [] }

def RO (w : World) (h : Heap) (a : Addr) : O → Prop
  | .list l => ∃ vs n, h.get? a = some (PySem.W.listOf vs n) ∧ RL h vs.toList l
  | .dict l => ∃ kvs, h.DictOf (PySem.strKind PR w) a kvs ∧ RD h kvs l ∧ (a == sysModules) = false
  | .inst dx l => h.get? a = some (instObj 139 dx) ∧ ∃ es n, h.get? dx = some (dictOf es n) ∧ RE h es l
  | .cell none => ∃ o, h.get? a = some o ∧ o.data = .cell none
  | .cell (some x) => ∃ o rv, h.get? a = some o ∧ o.data = .cell (some rv) ∧ RV h rv x
  | .code q => h.CodeRec (.ref a) q
  | .tab l => ∃ ps : Array Value, h.get? a = some (tabObj ps) ∧ ps.toList = trip l
  | .lam body scope cl q c => ∃ pm ctv, h.get? a = some (kla_obj "<lambda>" q noArgs body scope cl pm c ctv)

theorem RO.mono {w : World} {h h' : Heap} {a : Addr} {o : O} (r : RO w h a o) (k : ∀ b ∈ own a o, ∀ ob, h.get? b = some ob → h'.get? b = some ob) (kt : TupK h h') : RO w h' a o := by
  cases o with
  | list l => obtain ⟨vs, n, e, r2⟩ := r; exact ⟨vs, n, k _ (.head _) _ e, r2.mono kt⟩
  | dict l => obtain ⟨vs, ⟨ob, es, ep, e, r1⟩, r2, r3⟩ := r; exact ⟨vs, ⟨ob, es, ep, k _ (.head _) _ e, r1⟩, r2.mono kt, r3⟩
  | inst dx l => obtain ⟨e, es, n, e2, r2⟩ := r; exact ⟨k _ (.head _) _ e, es, n, k _ (.tail _ (.head _)) _ e2, r2.mono kt⟩
  | cell v =>
    cases v with
    | none => obtain ⟨o, e, r⟩ := r; exact ⟨o, k _ (.head _) _ e, r⟩
    | some x => obtain ⟨o, rv, e, r, r2⟩ := r; exact ⟨o, rv, k _ (.head _) _ e, r, r2.mono kt⟩
  | code q => obtain ⟨c, o, vs, t, e1, e2, r⟩ := r; cases e1; exact ⟨_, o, vs, t, rfl, k _ (.head _) _ e2, r⟩
  | tab l => obtain ⟨ps, e, r⟩ := r; exact ⟨ps, k _ (.head _) _ e, r⟩
  | lam body scope cl q c => obtain ⟨pm, ctv, e⟩ := r; exact ⟨pm, ctv, k _ (.head _) _ e⟩


theorem RO.some {w : World} {h : Heap} {a : Addr} {o : O} (r : RO w h a o) : ∀ b ∈ own a o, ∃ ob, h.get? b = Option.some ob := by
  intro b hb
  cases o with
  | list l => cases List.mem_singleton.mp hb; obtain ⟨vs, n, e, _⟩ := r; exact ⟨_, e⟩
  | dict l => cases List.mem_singleton.mp hb; obtain ⟨vs, ⟨ob, es, ep, e, _⟩, _⟩ := r; exact ⟨_, e⟩
  | inst dx l =>
    obtain ⟨e, es, n, e2, _⟩ := r
    rcases List.mem_cons.mp hb with rfl | hb
    · exact ⟨_, e⟩
    · cases List.mem_singleton.mp hb; exact ⟨_, e2⟩
  | cell v =>
    cases List.mem_singleton.mp hb
    cases v with
    | none => obtain ⟨o, e, _⟩ := r; exact ⟨_, e⟩
    | some x => obtain ⟨o, rv, e, _⟩ := r; exact ⟨_, e⟩
  | code q => cases List.mem_singleton.mp hb; obtain ⟨c, o, vs, t, e1, e2, _⟩ := r; cases e1; exact ⟨_, e2⟩
  | tab l => cases List.mem_singleton.mp hb; obtain ⟨ps, e, _⟩ := r; exact ⟨_, e⟩
  | lam body scope cl q c => cases List.mem_singleton.mp hb; obtain ⟨pm, ctv, e⟩ := r; exact ⟨_, e⟩

/-! what holds of the heap within a frame -/
abbrev Loc := List (Str × V)
abbrev Gam := List (Value × V)
abbrev frs (l : List Env) : List Addr := l.filterMap (·.frame)

def NsOk (h : Heap) (L : Addr) (loc : Loc) : Prop := ∃ m, h.Ns L m ∧ ∀ x v, alook loc x = some v → ∃ rv, m x = some rv ∧ RV h rv v

structure Inv (w : World) (base : Heap) (outer : List Env) (env : Env) (Γ : Gam) (loc : Loc) (σ : St) (h : Heap) : Prop where
  stays : base.StaysIn h
  frames : h.FunFrames base outer
  above : base.objs.size ≤ env.locals
  off : env.locals ∉ frs outer
  ns : NsOk h env.locals loc
  objs : ∀ a o, σ a = some o → RO w h a o
  sep : ∀ a o a' o' b, σ a = some o → σ a' = some o' → b ∈ own a o → b ∈ own a' o' → a = a'
  apart : ∀ b, Own σ b → base.get? b = none ∧ b ≠ env.locals ∧ b ∉ frs outer
  gam : ∀ p ∈ Γ, RV h p.1 p.2

structure Ext (env : Env) (outer : List Env) (σ σ' : St) (h h' : Heap) : Prop where
  keep : ∀ b o, h.get? b = some o → b ≠ env.locals → ¬ Own σ b → ∃ sl, h'.get? b = some { o with slots := sl } ∧ (b ∉ frs (env :: outer) → sl = o.slots)
  new : ∀ b, Own σ' b → Own σ b ∨ h.get? b = none
  ex : ∀ b o, h.get? b = some o → ∃ o', h'.get? b = some o'

/-- an error of the text's own is in flight -/
structure Fly (σ : St) (h₀ h : Heap) (e : Addr) (c : Str) : Prop where
  newE : h₀.get? e = none
  offE : ¬ Own σ e
  body : (∃ oe vs D oD, h.get? e = some oe ∧ oe.cls = .ref 34 ∧ oe.dict = some D ∧ oe.data = .fields vs ∧ vs[1]? = some .none ∧ h.get? D = some oD ∧ CodeDict oD c ∧ h₀.get? D = none) ∨
    (∃ T D oD, Tr h e T D .none ∧ h.get? D = some oD ∧ CodeDict oD c ∧ h₀.get? T = none ∧ ¬ Own σ T ∧ h₀.get? D = none)

structure Cx (w : World) (d : Nat) (A : Around) (base : Heap) (outer : List Env) (env : Env) : Prop where
  frames : A.frames = some (env :: outer)
  handled : A.handled = none
  depth : A.depth + 3 * d + 20 < recursionLimit
  units : A.units + 40 * d + 100 < cLine
  shape : ∃ cn cs L a ccd cl, env = envX cn cs L a ccd cl ∧ cs.kind = .function
  K : (hd.heap_39 w.params).In base
  T : ∃ p loose mean mg mb, Top p loose mean mg mb base

theorem Ext.refl {env : Env} {outer : List Env} {σ : St} {h : Heap} : Ext env outer σ σ h h := ⟨fun _ o e _ _ => ⟨o.slots, e, fun _ => rfl⟩, fun _ q => .inl q, fun _ o e => ⟨o, e⟩⟩
theorem Ext.trans {env : Env} {outer : List Env} {σ σ₁ σ₂ : St} {h h₁ h₂ : Heap} (x : Ext env outer σ σ₁ h h₁) (y : Ext env outer σ₁ σ₂ h₁ h₂) : Ext env outer σ σ₂ h h₂ := by
  refine ⟨fun b o e n m => ?_, fun b q => ?_, fun b o e => ?_⟩
  · obtain ⟨s1, e1, f1⟩ := x.keep b o e n m
    obtain ⟨s2, e2, f2⟩ := y.keep b _ e1 n fun q => (x.new b q).elim m fun z => by rw [e] at z; cases z
    exact ⟨s2, e2, fun q => (f2 q).trans (f1 q)⟩
  · rcases y.new b q with z | z
    · exact x.new b z
    · right
      cases hb : h.get? b with
      | none => rfl
      | some o => obtain ⟨o', e'⟩ := x.ex b o hb; rw [z] at e'; cases e'
  · obtain ⟨o1, e1⟩ := x.ex b o e
    exact y.ex b o1 e1
/-- all stays, new things may come -/
theorem Ext.of_keeps {env : Env} {outer : List Env} {σ : St} {h h' : Heap} (k : ∀ b o, h.get? b = some o → h'.get? b = some o) : Ext env outer σ σ h h' :=
  ⟨fun b o e _ _ => ⟨o.slots, k b o e, fun _ => rfl⟩, fun _ q => .inl q, fun b o e => ⟨o, k b o e⟩⟩
theorem Fly.older {σ : St} {h₀ h₁ h : Heap} {e : Addr} {c : Str} (x : Fly σ h₁ h e c) (k : ∀ b o, h₀.get? b = some o → ∃ o', h₁.get? b = some o') : Fly σ h₀ h e c := by
  have back : ∀ b, h₁.get? b = none → h₀.get? b = none := fun b z => by
    cases q : h₀.get? b with
    | none => rfl
    | some o => obtain ⟨o', e'⟩ := k b o q; rw [z] at e'; cases e'
  refine ⟨back _ x.newE, x.offE, x.body.imp ?_ ?_⟩
  · rintro ⟨oe, vs, D, oD, h1, h2, h3, h4, h5, h6, h7, h8⟩
    exact ⟨oe, vs, D, oD, h1, h2, h3, h4, h5, h6, h7, back _ h8⟩
  · rintro ⟨T, D, oD, h1, h2, h3, h4, h5, h6⟩
    exact ⟨T, D, oD, h1, h2, h3, back _ h4, h5, back _ h6⟩

theorem tupK_of {h h' : Heap} (k : ∀ b o, h.get? b = some o → h'.get? b = some o) : TupK h h' := fun _ _ t => t.keeps k
theorem NsOk.keeps {h h' : Heap} {L : Addr} {loc : Loc} (n : NsOk h L loc) (k : ∀ o, h.get? L = some o → h'.get? L = some o) (kt : TupK h h') : NsOk h' L loc := by
  obtain ⟨m, ⟨o, es, ep, e, r⟩, hm⟩ := n
  refine ⟨m, ⟨o, es, ep, k _ e, r⟩, fun x v hx => ?_⟩
  obtain ⟨rv, h1, h2⟩ := hm x v hx
  exact ⟨rv, h1, h2.mono kt⟩
theorem Inv.keeps {w : World} {base : Heap} {outer : List Env} {env : Env} {Γ : Gam} {loc : Loc} {σ : St} {h h' : Heap} (I : Inv w base outer env Γ loc σ h) (k : ∀ b o, h.get? b = some o → h'.get? b = some o) : Inv w base outer env Γ loc σ h' :=
  have kt := tupK_of k
  ⟨fun b o e => k b o (I.stays b o e), I.frames.of_keeps fun b o e _ => ⟨o, k b o e, rfl⟩, I.above, I.off, I.ns.keeps (k _) kt, fun a o e => (I.objs a o e).mono (fun b _ ob q => k b ob q) kt, I.sep, I.apart, fun p hp => (I.gam p hp).mono kt⟩
theorem Inv.gamma {w : World} {base : Heap} {outer : List Env} {env : Env} {Γ Γ' : Gam} {loc : Loc} {σ : St} {h : Heap} (I : Inv w base outer env Γ loc σ h) (g : ∀ p ∈ Γ', RV h p.1 p.2) : Inv w base outer env Γ' loc σ h := ⟨I.stays, I.frames, I.above, I.off, I.ns, I.objs, I.sep, I.apart, g⟩
theorem Inv.cons {w : World} {base : Heap} {outer : List Env} {env : Env} {Γ : Gam} {loc : Loc} {σ : St} {h : Heap} {v : Value} {x : V} (I : Inv w base outer env Γ loc σ h) (r : RV h v x) : Inv w base outer env ((v, x) :: Γ) loc σ h :=
  I.gamma fun p hp => by
    rcases List.mem_cons.mp hp with rfl | hp
    · exact r
    · exact I.gam p hp
theorem Own.isSome {w : World} {base : Heap} {outer : List Env} {env : Env} {Γ : Gam} {loc : Loc} {σ : St} {h : Heap} (I : Inv w base outer env Γ loc σ h) {b : Addr} (q : Own σ b) : ∃ o, h.get? b = some o := by
  obtain ⟨a, o, e, hb⟩ := q
  exact (I.objs a o e).some b hb
/-- fewer things need be tracked -/
theorem Inv.drop {w : World} {base : Heap} {outer : List Env} {env : Env} {Γ : Gam} {loc : Loc} {σ σ' : St} {h : Heap} (I : Inv w base outer env Γ loc σ h) (s : ∀ a o, σ' a = some o → σ a = some o) : Inv w base outer env Γ loc σ' h :=
  ⟨I.stays, I.frames, I.above, I.off, I.ns, fun a o e => I.objs a o (s a o e), fun a o a' o' b e e' => I.sep a o a' o' b (s a o e) (s a' o' e'), fun b ⟨a, o, e, hb⟩ => I.apart b ⟨a, o, s a o e, hb⟩, I.gam⟩
theorem Inv.fr {w : World} {base : Heap} {outer : List Env} {env : Env} {Γ : Gam} {loc : Loc} {σ : St} {h : Heap} (I : Inv w base outer env Γ loc σ h) : ∃ m, Fr base env.locals h m ∧ ∀ x v, alook loc x = some v → ∃ rv, m x = some rv ∧ RV h rv v := by
  obtain ⟨m, hn, hm⟩ := I.ns
  exact ⟨m, ⟨hn, I.stays, I.above⟩, hm⟩

/-! the judgement -/
def W (w : World) (d : Nat) (env : Env) {α : Type} (Γ : Gam) (t : Sem α) (loc : Loc) (σ : St) (Q : α → Gam → Loc → St → Prop) (X : Str → St → Prop) : Prop :=
  ∀ (A : Around) (base : Heap) (outer : List Env) (s : Shared) (QQ : α → Shared → Prop) (EE : Value → Shared → Prop),
    Cx w d A base outer env → Inv w base outer env Γ loc σ s.heap →
    (∀ a Γ' loc' σ' h' tk', Q a Γ' loc' σ' → Ext env outer σ σ' s.heap h' → Inv w base outer env (Γ' ++ Γ) loc' σ' h' → QQ a { s with heap := h', toks := tk' }) →
    (∀ c e loc' σ' h' tk', X c σ' → Ext env outer σ σ' s.heap h' → Inv w base outer env [] loc' σ' h' → Fly σ' s.heap h' e c → EE (.ref e) { s with heap := h', toks := tk' }) →
    wpAny (model PR w) A t QQ EE s

section
variable {w : World} {d : Nat} {env : Env} {α β : Type} {Γ : Gam} {loc : Loc} {σ : St} {X : Str → St → Prop}

theorem W.mono {t : Sem α} {Q Q' : α → Gam → Loc → St → Prop} {X' : Str → St → Prop} (h : W w d env Γ t loc σ Q X) (hQ : ∀ a Γ' loc' σ', Q a Γ' loc' σ' → Q' a Γ' loc' σ') (hX : ∀ c σ', X c σ' → X' c σ') : W w d env Γ t loc σ Q' X' :=
  fun A base outer s QQ EE C I hq hx => h A base outer s QQ EE C I (fun a Γ' loc' σ' h' tk' q => hq a Γ' loc' σ' h' tk' (hQ _ _ _ _ q)) fun c e loc' σ' h' tk' x => hx c e loc' σ' h' tk' (hX _ _ x)
theorem Cx.less {d' : Nat} {A : Around} {base : Heap} {outer : List Env} (C : Cx w d A base outer env) (h : d' ≤ d) : Cx w d' A base outer env :=
  ⟨C.frames, C.handled, by have := C.depth; omega, by have := C.units; omega, C.shape, C.K, C.T⟩
theorem W.more {d' : Nat} {t : Sem α} {Q : α → Gam → Loc → St → Prop} (h : W w d env Γ t loc σ Q X) (hd : d ≤ d') : W w d' env Γ t loc σ Q X :=
  fun A base outer s QQ EE C I hq hx => h A base outer s QQ EE (C.less hd) I hq hx
theorem ty_ne {a b : String} (h : Value.type a = Value.type b) (n : (a == b) = false := by decide) : False := by
  cases h; simp at n
theorem Inv.tup_off {base : Heap} {outer : List Env} {h : Heap} (I : Inv w base outer env Γ loc σ h) {a : Addr} {vs : Array Value} (t : IsTup h a vs) : ¬ Own σ a ∧ a ≠ env.locals := by
  obtain ⟨ob, e, hc, n, hd⟩ := t
  refine ⟨fun ⟨b, o, hb, hm⟩ => ?_, fun q => ?_⟩
  · have r := I.objs b o hb
    cases o with
    | list l => cases List.mem_singleton.mp hm; obtain ⟨vs, n, e2, _⟩ := r; rw [e] at e2; cases e2; exact ty_ne hc.symm
    | dict l => cases List.mem_singleton.mp hm; obtain ⟨vs, ⟨o2, es, ep, e2, h2, _⟩, _⟩ := r; rw [e] at e2; cases e2; exact ty_ne (hc.symm.trans h2.1)
    | inst dx l =>
      obtain ⟨e1, es, n, e2, _⟩ := r
      rcases List.mem_cons.mp hm with rfl | hm
      · rw [e] at e1; cases e1; cases hc
      · cases List.mem_singleton.mp hm; rw [e] at e2; cases e2; exact ty_ne hc
    | cell v =>
      cases List.mem_singleton.mp hm
      cases v with
      | none => obtain ⟨o, e2, h2⟩ := r; rw [e] at e2; cases e2; rw [hd] at h2; cases h2
      | some x => obtain ⟨o, rv, e2, h2, _⟩ := r; rw [e] at e2; cases e2; rw [hd] at h2; cases h2
    | code q => cases List.mem_singleton.mp hm; obtain ⟨c, o, vs, t, e1, e2, h2, _⟩ := r; cases e1; rw [e] at e2; cases e2; rw [hd] at h2; cases h2
    | tab l => cases List.mem_singleton.mp hm; obtain ⟨ps, e2, _⟩ := r; rw [e] at e2; cases e2; cases hc
    | lam body scope cl q c => cases List.mem_singleton.mp hm; obtain ⟨pm, ctv, e2⟩ := r; rw [e] at e2; cases e2; exact ty_ne hc
  · obtain ⟨m, ⟨o, es, ep, e2, h2, _⟩, _⟩ := I.ns
    rw [← q, e] at e2; cases e2; rw [hd] at h2; cases h2
theorem Ext.tup {base : Heap} {outer : List Env} {σ' : St} {h h' : Heap} (x : Ext env outer σ σ' h h') (I : Inv w base outer env Γ loc σ h) : TupK h h' := fun a vs t => by
  obtain ⟨n1, n2⟩ := I.tup_off t
  obtain ⟨ob, e, hc, n, hd⟩ := t
  obtain ⟨sl, e', _⟩ := x.keep a ob e n2 n1
  exact ⟨_, e', hc, n, hd⟩
/-- the start may say more than is asked -/
theorem W.start {t : Sem α} {Γ' : Gam} {loc' : Loc} {Q : α → Gam → Loc → St → Prop} (h : W w d env Γ' t loc' σ Q X) (hg : ∀ p ∈ Γ', p ∈ Γ) (hl : ∀ x v, alook loc' x = some v → alook loc x = some v) : W w d env Γ t loc σ Q X := by
  intro A base outer s QQ EE C I hq hx
  have I' : Inv w base outer env Γ' loc' σ s.heap := ⟨I.stays, I.frames, I.above, I.off, (by obtain ⟨m, hn, hm⟩ := I.ns; exact ⟨m, hn, fun x v e => hm x v (hl x v e)⟩), I.objs, I.sep, I.apart, fun p hp => I.gam p (hg p hp)⟩
  refine h A base outer s QQ EE C I' (fun a Γ₂ loc₂ σ₂ h₂ tk₂ q x i => hq a Γ₂ loc₂ σ₂ h₂ tk₂ q x (i.gamma fun p hp => ?_)) hx
  rcases List.mem_append.mp hp with hp | hp
  · exact i.gam p (List.mem_append_left _ hp)
  · exact (I.gam p hp).mono (x.tup I)
theorem W.nil {t : Sem α} {Q : α → Gam → Loc → St → Prop} (h : W w d env [] t loc σ Q X) : W w d env Γ t loc σ Q X := h.start (fun _ q => nomatch q) fun _ _ e => e
theorem W.pure {a : α} {Q : α → Gam → Loc → St → Prop} (h : Q a [] loc σ) : W w d env Γ (pure a) loc σ Q X :=
  fun _ _ _ s _ _ _ I hq _ => wpAny_pure (hq a [] loc σ s.heap s.toks h .refl I)
theorem W.bind {m : Sem α} {f : α → Sem β} {Q : β → Gam → Loc → St → Prop} (h : W w d env Γ m loc σ (fun a Γ' loc' σ' => W w d env (Γ' ++ Γ) (f a) loc' σ' Q X) X) : W w d env Γ (m >>= f) loc σ Q X :=
  fun A base outer s QQ EE C I hq hx => wpAny_bind (h A base outer s _ EE C I (fun a Γ' loc' σ' h' tk' q x i => q A base outer _ QQ EE C i (fun b Γ₂ loc₂ σ₂ h₂ tk₂ q₂ x₂ i₂ => hq b Γ₂ loc₂ σ₂ h₂ tk₂ q₂ (x.trans x₂) (i₂.gamma fun p hp => i₂.gam p (by
      rcases List.mem_append.mp hp with hp | hp
      · exact List.mem_append_left _ hp
      · exact List.mem_append_right _ (List.mem_append_right _ hp))))
    fun c e loc₂ σ₂ h₂ tk₂ q₂ x₂ i₂ f₂ => hx c e loc₂ σ₂ h₂ tk₂ q₂ (x.trans x₂) i₂ (f₂.older x.ex)) hx)
theorem W.holding {vs : List Value} {t : Sem α} {Q : α → Gam → Loc → St → Prop} (h : W w d env Γ t loc σ Q X) : W w d env Γ (holding vs t) loc σ Q X :=
  fun A base outer s QQ EE C I hq hx => wpAny_holding (h A base outer s QQ EE C I hq hx)
theorem W.standAt {p : Pos} {Q : Unit → Gam → Loc → St → Prop} (h : Q () [] loc σ) : W w d env Γ (standAt p) loc σ Q X :=
  fun _ _ _ s _ _ _ I hq _ => wpAny_standAt (hq () [] loc σ s.heap s.toks h .refl I)
theorem W.point {Q : Unit → Gam → Loc → St → Prop} (h : Q () [] loc σ) : W w d env Γ point loc σ Q X :=
  fun _ _ _ s _ _ _ I hq _ => wpAny_point (hq () [] loc σ s.heap s.toks h .refl I)
theorem W.release {vs keep : List Value} {Q : Unit → Gam → Loc → St → Prop} (h : Q () [] loc σ) : W w d env Γ (release vs keep) loc σ Q X :=
  fun _ _ _ s _ _ _ I hq _ => wpAny_release (hq () [] loc σ s.heap s.toks h .refl I)
theorem W.operate {vs : List Value} {t : Sem Value} {Q : Value → Gam → Loc → St → Prop} (h : W w d env Γ t loc σ Q X) : W w d env Γ (operate vs t) loc σ Q X :=
  fun A base outer s QQ EE C I hq hx => wpAny_operate' (h A base outer s QQ EE C I hq hx)
theorem W.letTemp {b : Expr} {o r : Value} {Q : Unit → Gam → Loc → St → Prop} (h : Q () [] loc σ) : W w d env Γ (letTemporaryGo b o r) loc σ Q X :=
  fun _ _ _ s _ _ _ I hq _ => wpAny_letTemporaryGo (hq () [] loc σ s.heap s.toks h .refl I)
theorem W.eq {t t' : Sem α} {Q : α → Gam → Loc → St → Prop} (e : t = t') (h : W w d env Γ t' loc σ Q X) : W w d env Γ t loc σ Q X := e ▸ h
/-- a thing that is tracked may be let go -/
theorem W.drop {t : Sem α} {σ' : St} {Q : α → Gam → Loc → St → Prop} (h : W w d env Γ t loc σ' Q X) (s : ∀ a o, σ' a = some o → σ a = some o) : W w d env Γ t loc σ Q X :=
  fun A base outer s0 QQ EE C I hq hx => h A base outer s0 QQ EE C (I.drop s)
    (fun a Γ₂ loc₂ σ₂ h₂ tk₂ q x i => hq a Γ₂ loc₂ σ₂ h₂ tk₂ q ⟨fun b o e n m => x.keep b o e n fun ⟨a, o, e, hb⟩ => m ⟨a, o, s a o e, hb⟩, fun b q => (x.new b q).imp (fun ⟨a, o, e, hb⟩ => ⟨a, o, s a o e, hb⟩) id, x.ex⟩ i)
    fun c e loc₂ σ₂ h₂ tk₂ q x i => hx c e loc₂ σ₂ h₂ tk₂ q ⟨fun b o e n m => x.keep b o e n fun ⟨a, o, e, hb⟩ => m ⟨a, o, s a o e, hb⟩, fun b q => (x.new b q).imp (fun ⟨a, o, e, hb⟩ => ⟨a, o, s a o e, hb⟩) id, x.ex⟩ i
/-- a step that reads the heap alone -/
theorem W.calm {t : Sem α} {Q : α → Gam → Loc → St → Prop}
    (h : ∀ (A : Around) (base : Heap) (outer : List Env) (s : Shared) (QQ : α → Shared → Prop) (EE : Value → Shared → Prop), Cx w d A base outer env → Inv w base outer env Γ loc σ s.heap →
      (∀ a Γ' tk, Q a Γ' loc σ → (∀ p ∈ Γ', RV s.heap p.1 p.2) → QQ a { s with toks := tk }) → wpAny (model PR w) A t QQ EE s) : W w d env Γ t loc σ Q X :=
  fun A base outer s QQ EE C I hq _ => h A base outer s QQ EE C I fun a Γ' tk q g => hq a Γ' loc σ s.heap tk q .refl (I.gamma fun p hp => by
    rcases List.mem_append.mp hp with hp | hp
    · exact g p hp
    · exact I.gam p hp)
end
end Mine
end
section
open PySem PySem.W PyProof.Rows PySem.Spec PySem.Calls
set_option Elab.async false
set_option maxRecDepth 100000
set_option maxHeartbeats 8000000
set_option linter.unusedVariables false
namespace Mine

/-! expressions -/
def PV (loc : Loc) (Q : V → St → Prop) : Value → Gam → Loc → St → Prop := fun rv Γ' loc' σ' => ∃ v, Γ' = [(rv, v)] ∧ loc' = loc ∧ Q v σ'
def PL (loc : Loc) (Q : List V → St → Prop) : List Value → Gam → Loc → St → Prop := fun rvs Γ' loc' σ' => ∃ l, rvs.length = l.length ∧ Γ' = rvs.zip l ∧ loc' = loc ∧ Q l σ'
def PB (loc : Loc) (Q : Bool → St → Prop) : Bool → Gam → Loc → St → Prop := fun b Γ' loc' σ' => Γ' = [] ∧ loc' = loc ∧ Q b σ'

theorem rl_of_zip {h : Heap} : ∀ {rvs : List Value} {l : List V}, rvs.length = l.length → (∀ p ∈ rvs.zip l, RV h p.1 p.2) → RL h rvs l
  | [], [], _, _ => .nil
  | v :: vs, x :: l, e, g => .cons (g (v, x) (.head _)) (rl_of_zip (by simpa using e) fun p hp => g p (.tail _ hp))
  | [], x :: l, e, _ => by cases e
  | v :: vs, [], e, _ => by cases e
theorem zip_of_rl {h : Heap} : ∀ {rvs : List Value} {l : List V}, RL h rvs l → ∀ p ∈ rvs.zip l, RV h p.1 p.2
  | _, _, .nil, p, hp => nomatch hp
  | _, _, .cons a b, p, hp => by
    rcases List.mem_cons.mp hp with rfl | hp
    · exact a
    · exact zip_of_rl b p hp

def WE (w : World) (d : Nat) (env : Env) (e : Expr) (loc : Loc) (σ : St) (Q : V → St → Prop) (X : Str → St → Prop) : Prop := W w d env [] (eval e env) loc σ (PV loc Q) X
def WT (w : World) (d : Nat) (env : Env) (e : Expr) (loc : Loc) (σ : St) (Q : Bool → St → Prop) (X : Str → St → Prop) : Prop := W w d env [] (PySem.isTrue e env (eval e env)) loc σ (PB loc Q) X
def WL (w : World) (d : Nat) (env : Env) (es : List Expr) (loc : Loc) (σ : St) (Q : List V → St → Prop) (X : Str → St → Prop) : Prop := ∀ pos, W w d env [] (spliced (backTo pos (starEach es env))) loc σ (PL loc Q) X

section
variable {w : World} {d : Nat} {env : Env} {loc : Loc} {σ : St} {X : Str → St → Prop} {Γ : Gam}

theorem W.pv {t : Sem Value} {Q Q' : V → St → Prop} (h : W w d env Γ t loc σ (PV loc Q) X) (hq : ∀ v σ', Q v σ' → Q' v σ') : W w d env Γ t loc σ (PV loc Q') X :=
  h.mono (fun _ _ _ _ ⟨v, a, b, c⟩ => ⟨v, a, b, hq v _ c⟩) fun _ _ x => x

/-- a step that gives a value and reads the heap alone -/
theorem W.val {t : Sem Value} {Q : V → St → Prop} (v : V)
    (h : ∀ (A : Around) (base : Heap) (outer : List Env) (s : Shared) (QQ : Value → Shared → Prop) (EE : Value → Shared → Prop), Cx w d A base outer env → Inv w base outer env Γ loc σ s.heap →
      (∀ rv tk, RV s.heap rv v → QQ rv { s with toks := tk }) → wpAny (model PR w) A t QQ EE s) (q : Q v σ) : W w d env Γ t loc σ (PV loc Q) X :=
  W.calm fun A base outer s QQ EE C I hq => h A base outer s QQ EE C I fun rv tk r => hq rv [(rv, v)] tk ⟨v, rfl, rfl, q⟩ fun p hp => by cases List.mem_singleton.mp hp; exact r

theorem WE.int {i : Int} {k : Nat} {pos : Pos} {Q : V → St → Prop} (q : Q (.int i) σ) : WE w d env (.Constant (.int i) k pos) loc σ Q X :=
  W.val (.int i) (fun A base outer s QQ EE C I h => wpAny_mkInt (h _ _ .int)) q
theorem WE.str {x : Str} {k : Nat} {pos : Pos} {Q : V → St → Prop} (q : Q (.str x) σ) : WE w d env (.Constant (.str x) k pos) loc σ Q X :=
  W.val (.str x) (fun A base outer s QQ EE C I h => wpAny_mkText (h _ _ .str)) q
theorem WE.bool {b : Bool} {k : Nat} {pos : Pos} {Q : V → St → Prop} (q : Q (.bool b) σ) : WE w d env (.Constant (.bool b) k pos) loc σ Q X :=
  W.val (.bool b) (fun A base outer s QQ EE C I h => wpAny_pure (h _ s.toks .bool)) q
theorem WE.constNone {k : Nat} {pos : Pos} {Q : V → St → Prop} (q : Q .none σ) : WE w d env (.Constant .none k pos) loc σ Q X :=
  W.val .none (fun A base outer s QQ EE C I h => wpAny_pure (h _ s.toks .none)) q

theorem loadL {x : Str} {v : V} {Q : V → St → Prop} (hx : env.kindOf x = some .local) (hv : alook loc x = some v) (q : Q v σ) : W w d env Γ (loadName env x) loc σ (PV loc Q) X :=
  W.val v (fun A base outer s QQ EE C I h => by
    obtain ⟨cn, cs, L, a, ccd, cl, rfl, hk⟩ := C.shape
    obtain ⟨m, F, hm⟩ := I.fr
    obtain ⟨rv, h1, h2⟩ := hm x v hv
    exact wpAny_loadName_local hk hx F.ns h1 (h rv s.toks h2)) q
theorem loadC {x : Str} {v : V} {c : Addr} {Q : V → St → Prop} (hx : env.kindOf x = some .cell) (hc : env.cells.lookup x = some c) (hv : σ c = some (.cell (some v))) (q : Q v σ) : W w d env Γ (loadName env x) loc σ (PV loc Q) X :=
  W.val v (fun A base outer s QQ EE C I h => by
    obtain ⟨cn, cs, L, a, ccd, cl, rfl, hk⟩ := C.shape
    obtain ⟨o, rv, h1, h2, h3⟩ := I.objs _ _ hv
    exact wpAny_loadName_cell hk hx hc ⟨o, h1, h2⟩ (h rv s.toks h3)) q
theorem loadF {x : Str} {v : V} {c : Addr} {Q : V → St → Prop} (hx : env.kindOf x = some .free) (hc : env.cells.lookup x = some c) (hv : σ c = some (.cell (some v))) (hn : (x == ("__classdict__" : Str)) = false) (q : Q v σ) : W w d env Γ (loadName env x) loc σ (PV loc Q) X :=
  W.val v (fun A base outer s QQ EE C I h => by
    obtain ⟨cn, cs, L, a, ccd, cl, rfl, hk⟩ := C.shape
    obtain ⟨o, rv, h1, h2, h3⟩ := I.objs _ _ hv
    exact wpAny_loadName_free hk hx hc ⟨o, h1, h2⟩ (h rv s.toks h3) hn) q
theorem WE.ofLoad {x : Str} {pos : Pos} {Q : V → St → Prop} (h : W w d env [] (loadName env x) loc σ (PV loc Q) X) (hd : (x == ("__debug__" : Str)) = false) : WE w d env (.Name x pos) loc σ Q X :=
  fun A base outer s QQ EE C I hq hx => wpAny_Name (h A base outer s QQ EE C I hq hx) hd
theorem WE.name {x : Str} {pos : Pos} {v : V} {Q : V → St → Prop} (hx : env.kindOf x = some .local) (hv : alook loc x = some v) (q : Q v σ) (hd : (x == ("__debug__" : Str)) = false := by decide) : WE w d env (.Name x pos) loc σ Q X := WE.ofLoad (loadL hx hv q) hd
theorem WE.nameC {x : Str} {pos : Pos} {v : V} {c : Addr} {Q : V → St → Prop} (hx : env.kindOf x = some .cell) (hc : env.cells.lookup x = some c) (hv : σ c = some (.cell (some v))) (q : Q v σ) (hd : (x == ("__debug__" : Str)) = false := by decide) : WE w d env (.Name x pos) loc σ Q X := WE.ofLoad (loadC hx hc hv q) hd
theorem WE.nameF {x : Str} {pos : Pos} {v : V} {c : Addr} {Q : V → St → Prop} (hx : env.kindOf x = some .free) (hc : env.cells.lookup x = some c) (hv : σ c = some (.cell (some v))) (q : Q v σ) (hd : (x == ("__debug__" : Str)) = false := by decide) (hn : (x == ("__classdict__" : Str)) = false := by decide) : WE w d env (.Name x pos) loc σ Q X := WE.ofLoad (loadF hx hc hv hn q) hd
/-- a whole number of the top -/
theorem WE.top {x : Str} {pos : Pos} {i : Int} {t : Tok} {Q : V → St → Prop} (hx : env.kindOf x = some .globalImplicit) (e : nsIn (hd.heap_39 w.params) mainGlobals x = some (some (.int i t))) (q : Q (.int i) σ) (hd : (x == ("__debug__" : Str)) = false := by decide) : WE w d env (.Name x pos) loc σ Q X :=
  W.val (.int i) (fun A base outer s QQ EE C I h => by
    obtain ⟨cn, cs, L, a, ccd, cl, rfl, hk⟩ := C.shape
    obtain ⟨m, F, hm⟩ := I.fr
    obtain ⟨p, loose, mean, mg, mb, T⟩ := C.T
    exact nameX_K F C.K (topRead_of T) e (h _ s.toks .int) hk hx hd) q

/-! operators -/
def BinOk (op : Operator) (a b v : V) : Prop := ∀ (w : World) (A : Around) (s : Shared) (Q E : Value → Shared → Prop) (ra rb : Value), RV s.heap ra a → RV s.heap rb b → (∀ rv tk, RV s.heap rv v → Q rv { s with toks := tk }) → wpAny (model PR w) A (binaryOp op ra rb) Q E s
def AugOk (op : Operator) (a b v : V) : Prop := ∀ (w : World) (A : Around) (s : Shared) (Q E : Value → Shared → Prop) (ra rb : Value), RV s.heap ra a → RV s.heap rb b → (∀ rv tk, RV s.heap rv v → Q rv { s with toks := tk }) → wpAny (model PR w) A (inplaceOp op ra rb) Q E s

theorem small_bits {a : Int} (h1 : -(2 ^ 64) < a) (h2 : a < 2 ^ 64) (b : Int) : IntMulOk a b := .of_left (intBits_le_64 h1 h2)

theorem BinOk.add {a b : Int} : BinOk .Add (.int a) (.int b) (.int (a + b)) := fun w A s Q E ra rb x y h => by cases x; cases y; exact add_int (h _ _ .int)
theorem BinOk.sub {a b : Int} : BinOk .Sub (.int a) (.int b) (.int (a - b)) := fun w A s Q E ra rb x y h => by cases x; cases y; exact sub_int (h _ _ .int)
theorem BinOk.mul {a b : Int} (h1 : -(2 ^ 64) < a) (h2 : a < 2 ^ 64) : BinOk .Mult (.int a) (.int b) (.int (a * b)) := fun w A s Q E ra rb x y h => by cases x; cases y; exact mul_int (h _ _ .int) (small_bits h1 h2 b)
theorem BinOk.fdiv {a b : Int} (h0 : b ≠ 0) (h1 : b.natAbs.log2 < 9000) : BinOk .FloorDiv (.int a) (.int b) (.int (a.fdiv b)) := fun w A s Q E ra rb x y h => by cases x; cases y; exact floordiv_int h0 (h _ _ .int) (.inl (PyProof.noPylong_of_log2 h1))
theorem BinOk.fmod {a b : Int} (h0 : b ≠ 0) : BinOk .Mod (.int a) (.int b) (.int (a.fmod b)) := fun w A s Q E ra rb x y h => by cases x; cases y; exact mod_int' h0 (h _ _ .int)
theorem BinOk.pow {a n : Int} (h0 : 0 ≤ n) (h1 : n ≤ 1000000) (h2 : a.natAbs < 2 ^ 64) : BinOk .Pow (.int a) (.int n) (.int (a ^ n.toNat)) := fun w A s Q E ra rb x y h => by cases x; cases y; exact pow_int_small h0 h1 h2 (h _ _ .int)
theorem BinOk.shl {a n : Int} (h0 : 0 ≤ n) (h1 : n ≤ 1000000) (h2 : a.natAbs < 2 ^ 64) : BinOk .LShift (.int a) (.int n) (.int (a * 2 ^ n.toNat)) := fun w A s Q E ra rb x y h => by cases x; cases y; exact lshift_int_small h0 h1 h2 (h _ _ .int)
theorem BinOk.cat {a b : Str} (h1 : a.length + b.length ≤ sizeLine) : BinOk .Add (.str a) (.str b) (.str (a ++ b)) := fun w A s Q E ra rb x y h => by cases x; cases y; exact SBL.add (fun t' k _ => h _ _ .str) h1
theorem BinOk.rep {a : Str} {n : Int} (h1 : MulOk a n) : BinOk .Mult (.str a) (.int n) (.str (Txt.mul a n)) := fun w A s Q E ra rb x y h => by cases x; cases y; exact SB.mul h1 fun t' k => h _ _ .str
theorem AugOk.add {a b : Int} : AugOk .Add (.int a) (.int b) (.int (a + b)) := fun w A s Q E ra rb x y h => by cases x; cases y; exact iadd_int (h _ _ .int)
theorem AugOk.mul {a b : Int} (h1 : -(2 ^ 64) < a) (h2 : a < 2 ^ 64) : AugOk .Mult (.int a) (.int b) (.int (a * b)) := fun w A s Q E ra rb x y h => by cases x; cases y; exact imul_int (h _ _ .int) (small_bits h1 h2 b)

theorem W.binop {op : Operator} {ra rb : Value} {a b v : V} {Q : V → St → Prop} (ha : (ra, a) ∈ Γ) (hb : (rb, b) ∈ Γ) (ho : BinOk op a b v) (q : Q v σ) : W w d env Γ (binaryOp op ra rb) loc σ (PV loc Q) X :=
  W.val v (fun A base outer s QQ EE C I h => ho w A s QQ EE ra rb (I.gam _ ha) (I.gam _ hb) h) q

theorem WE.bin {op : Operator} {l r : Expr} {pos : Pos} {Q : V → St → Prop}
    (h : WE w d env l loc σ (fun a σ₁ => WE w d env r loc σ₁ (fun b σ₂ => ∃ v, BinOk op a b v ∧ Q v σ₂) X) X) : WE w d env (.BinOp l op r pos) loc σ Q X := by
  rw [WE, eval_BinOp]
  refine W.bind (h.mono (fun ra Γ₁ loc₁ σ₁ q => ?_) fun _ _ x => x)
  obtain ⟨a, rfl, rfl, q⟩ := q
  refine W.bind (W.holding (W.nil (q.mono (fun rb Γ₂ loc₂ σ₂ q => ?_) fun _ _ x => x)))
  obtain ⟨b, rfl, rfl, v, ho, q⟩ := q
  exact W.bind (W.standAt (W.operate (W.binop (by simp) (by simp) ho q)))

theorem WE.neg {x : Expr} {pos : Pos} {Q : V → St → Prop} (h : WE w d env x loc σ (fun a σ₁ => ∃ i, a = .int i ∧ Q (.int (-i)) σ₁) X) : WE w d env (.UnaryOp .USub x pos) loc σ Q X := by
  rw [WE, arm_eval_UnaryOp]
  refine W.bind (h.mono (fun ra Γ₁ loc₁ σ₁ q => ?_) fun _ _ x => x)
  obtain ⟨a, rfl, rfl, i, rfl, q⟩ := q
  refine W.bind (W.standAt (W.holding (W.val (.int (-i)) (fun A base outer s QQ EE C I h => ?_) q)))
  have := I.gam (ra, .int i) (by simp)
  cases this
  exact neg_int (h _ _ .int)
/-! comparisons -/
def CmpOk (w : World) (op : CmpOp) (σ : St) (a b : V) (r : Bool) : Prop :=
  ∀ (A : Around) (base : Heap) (outer : List Env) (env : Env) (Γ : Gam) (loc : Loc) (s : Shared) (Q E : Value → Shared → Prop) (ra rb : Value), RV s.heap ra a → RV s.heap rb b → Inv w base outer env Γ loc σ s.heap → A.units + 80 < cLine →
    (∀ tk, Q (.bool r) { s with toks := tk }) → wpAny (model PR w) A (compareOp op ra rb) Q E s
theorem CmpOk.eqI {a b : Int} : CmpOk w .Eq σ (.int a) (.int b) (a == b) := fun A base outer env Γ loc s Q E ra rb x y I u h => by cases x; cases y; exact eq_int (h s.toks)
theorem CmpOk.neI {a b : Int} : CmpOk w .NotEq σ (.int a) (.int b) (a != b) := fun A base outer env Γ loc s Q E ra rb x y I u h => by cases x; cases y; exact ne_int (h s.toks)
theorem CmpOk.ltI {a b : Int} : CmpOk w .Lt σ (.int a) (.int b) (decide (a < b)) := fun A base outer env Γ loc s Q E ra rb x y I u h => by cases x; cases y; exact lt_int (h s.toks)
theorem CmpOk.leI {a b : Int} : CmpOk w .LtE σ (.int a) (.int b) (decide (a ≤ b)) := fun A base outer env Γ loc s Q E ra rb x y I u h => by cases x; cases y; exact le_int (h s.toks)
theorem CmpOk.gtI {a b : Int} : CmpOk w .Gt σ (.int a) (.int b) (decide (a > b)) := fun A base outer env Γ loc s Q E ra rb x y I u h => by cases x; cases y; exact gt_int (h s.toks)
theorem CmpOk.geI {a b : Int} : CmpOk w .GtE σ (.int a) (.int b) (decide (a ≥ b)) := fun A base outer env Γ loc s Q E ra rb x y I u h => by cases x; cases y; exact ge_int (h s.toks)
theorem cps_eq (a b : Str) : (a.cps.toList == b.cps.toList) = (a == b) := by
  by_cases h : a = b
  · subst h; simp
  · rw [beq_eq_false_iff_ne.mpr h]
    refine beq_eq_false_iff_ne.mpr fun hl => h ?_
    cases a; cases b
    simp only [Str.mk.injEq]
    exact Array.toList_inj.mp hl
theorem CmpOk.eqS {a b : Str} : CmpOk w .Eq σ (.str a) (.str b) (a == b) := fun A base outer env Γ loc s Q E ra rb x y I u h => by cases x; cases y; exact eq_str (cps_eq a b ▸ h s.toks)
theorem CmpOk.neS {a b : Str} : CmpOk w .NotEq σ (.str a) (.str b) (a != b) := fun A base outer env Γ loc s Q E ra rb x y I u h => by
  cases x; cases y
  exact ne_str (h s.toks)

theorem W.cmp {op : CmpOp} {ra rb : Value} {a b : V} {r : Bool} {Q : V → St → Prop} (ha : (ra, a) ∈ Γ) (hb : (rb, b) ∈ Γ) (ho : CmpOk w op σ a b r) (q : Q (.bool r) σ) : W w d env Γ (compareOp op ra rb) loc σ (PV loc Q) X :=
  W.val (.bool r) (fun A base outer s QQ EE C I h => ho A base outer env Γ loc s QQ EE ra rb (I.gam _ ha) (I.gam _ hb) I (by have := C.units; omega) fun tk => h _ tk .bool) q

theorem WE.cmp1 {op : CmpOp} {l r : Expr} {pos : Pos} {Q : V → St → Prop}
    (h : WE w d env l loc σ (fun a σ₁ => WE w d env r loc σ₁ (fun b σ₂ => ∃ x, CmpOk w op σ₂ a b x ∧ Q (.bool x) σ₂) X) X) (hm : behindInMarks op r = false := by rfl) : WE w d env (.Compare l [op] [r] pos) loc σ Q X := by
  rw [WE, arm_eval_Compare]
  refine W.bind (h.mono (fun ra Γ₁ loc₁ σ₁ q => ?_) fun _ _ x => x)
  obtain ⟨a, rfl, rfl, q⟩ := q
  show W w d env _ (compareChain pos ra [op] [markedBehindIn op r (eval r env)]) _ _ _ _
  unfold markedBehindIn
  rw [hm]
  refine W.bind (W.holding (W.nil (q.mono (fun rb Γ₂ loc₂ σ₂ q => ?_) fun _ _ x => x)))
  obtain ⟨b, rfl, rfl, v, ho, q⟩ := q
  exact W.bind (W.standAt (W.operate (W.cmp (by simp) (by simp) ho q)))

theorem W.truthyB {r : Value} {b : Bool} {Q : Bool → St → Prop} (hr : (r, V.bool b) ∈ Γ) (q : Q b σ) : W w d env Γ (truthy r) loc σ (PB loc Q) X :=
  W.calm fun A base outer s QQ EE C I hq => by
    have := I.gam _ hr
    dsimp only at this
    cases this
    exact wpAny_truthy_bool (hq b [] s.toks ⟨rfl, rfl, q⟩ fun _ q => nomatch q)

theorem WT.cmp1 {op : CmpOp} {l r : Expr} {pos : Pos} {Q : Bool → St → Prop}
    (h : WE w d env l loc σ (fun a σ₁ => WE w d env r loc σ₁ (fun b σ₂ => ∃ x, CmpOk w op σ₂ a b x ∧ Q x σ₂) X) X) (hm : behindInMarks op r = false := by rfl) : WT w d env (.Compare l [op] [r] pos) loc σ Q X := by
  show W w d env [] (do testChain pos (← eval l env) [op] (markedEach [op] [r] (evalEach [r] env))) _ _ _ _
  refine W.bind (h.mono (fun ra Γ₁ loc₁ σ₁ q => ?_) fun _ _ x => x)
  obtain ⟨a, rfl, rfl, q⟩ := q
  show W w d env _ (testChain pos ra [op] [markedBehindIn op r (eval r env)]) _ _ _ _
  unfold markedBehindIn
  rw [hm]
  refine W.bind (W.holding (W.nil (q.mono (fun rb Γ₂ loc₂ σ₂ q => ?_) fun _ _ x => x)))
  obtain ⟨b, rfl, rfl, v, ho, q⟩ := q
  refine W.bind (W.standAt (W.bind ((W.operate (W.cmp (Q := fun v' σ' => v' = .bool v ∧ Q v σ') (by simp) (by simp) ho ⟨rfl, q⟩)).mono (fun rc Γ₃ loc₃ σ₃ q => ?_) fun _ _ x => x)))
  obtain ⟨c, rfl, rfl, rfl, q⟩ := q
  exact W.holding (W.truthyB (by simp) q)

/-- a chain of two -/
theorem WT.cmp2 {op op₂ : CmpOp} {l r r₂ : Expr} {pos : Pos} {Q : Bool → St → Prop}
    (h : WE w d env l loc σ (fun a σ₁ => WE w d env r loc σ₁ (fun b σ₂ => ∃ x, CmpOk w op σ₂ a b x ∧ if x = true then WE w d env r₂ loc σ₂ (fun c σ₃ => ∃ y, CmpOk w op₂ σ₃ b c y ∧ Q y σ₃) X else Q false σ₂) X) X)
    (hm : behindInMarks op₂ r₂ = false := by rfl) : WT w d env (.Compare l [op, op₂] [r, r₂] pos) loc σ Q X := by
  show W w d env [] (do testChain pos (← eval l env) [op, op₂] (markedEach [op, op₂] [r, r₂] (evalEach [r, r₂] env))) _ _ _ _
  refine W.bind (h.mono (fun ra Γ₁ loc₁ σ₁ q => ?_) fun _ _ x => x)
  obtain ⟨a, rfl, rfl, q⟩ := q
  show W w d env _ (testChain pos ra [op, op₂] [eval r env, markedBehindIn op₂ r₂ (eval r₂ env)]) _ _ _ _
  unfold markedBehindIn
  rw [hm]
  refine W.bind (W.holding (W.nil (q.mono (fun rb Γ₂ loc₂ σ₂ q => ?_) fun _ _ x => x)))
  obtain ⟨b, rfl, rfl, v, ho, q⟩ := q
  refine W.bind (W.standAt (W.bind ((W.holding (W.cmp (Q := fun v' σ' => v' = .bool v ∧ σ' = σ₂) (by simp) (by simp) ho ⟨rfl, rfl⟩)).mono (fun rc Γ₃ loc₃ σ₃ q' => ?_) fun _ _ x => x)))
  obtain ⟨c, rfl, rfl, rfl, rfl⟩ := q'
  refine W.bind (W.release (W.bind ((W.holding (W.truthyB (Q := fun v' σ' => v' = v ∧ σ' = σ₃) (by simp) ⟨rfl, rfl⟩)).mono (fun t Γ₄ loc₄ σ₄ q' => ?_) fun _ _ x => x)))
  obtain ⟨rfl, rfl, rfl, rfl⟩ := q'
  cases t with
  | false => exact W.pure ⟨rfl, rfl, q⟩
  | true =>
    simp only [if_true] at q ⊢
    show W w d env _ (testChain pos rb [op₂] [eval r₂ env]) _ _ _ _
    refine W.bind (W.holding (W.start (q.mono (fun rc₂ Γ₅ loc₅ σ₅ q => ?_) fun _ _ x => x) (fun _ q => nomatch q) fun _ _ e => e))
    obtain ⟨c, rfl, rfl, y, ho₂, q⟩ := q
    refine W.bind (W.standAt (W.bind ((W.operate (W.cmp (Q := fun v' σ' => v' = .bool y ∧ Q y σ') (by simp) (by simp) ho₂ ⟨rfl, q⟩)).mono (fun rc Γ₃ loc₃ σ₃ q => ?_) fun _ _ x => x)))
    obtain ⟨c, rfl, rfl, rfl, q⟩ := q
    exact W.holding (W.truthyB (by simp) q)
theorem WT.not {x : Expr} {pos : Pos} {Q : Bool → St → Prop} (h : WT w d env x loc σ (fun b σ' => Q (!b) σ') X) : WT w d env (.UnaryOp .Not x pos) loc σ Q X := by
  show W w d env [] (do return !(← PySem.isTrue x env (eval x env))) _ _ _ _
  refine W.bind (h.mono (fun b Γ₁ loc₁ σ₁ q => ?_) fun _ _ x => x)
  obtain ⟨rfl, rfl, q⟩ := q
  exact W.pure ⟨rfl, rfl, q⟩
theorem WT.or2 {x y : Expr} {pos : Pos} {Q : Bool → St → Prop} (h : WT w d env x loc σ (fun b σ₁ => if b = true then Q true σ₁ else WT w d env y loc σ₁ Q X) X) : WT w d env (.BoolOp .Or [x, y] pos) loc σ Q X := by
  show W w d env [] (allTrue .Or [x, y] env) _ _ _ _
  unfold allTrue
  refine W.bind (h.mono (fun b Γ₁ loc₁ σ₁ q => ?_) fun _ _ x => x)
  obtain ⟨rfl, rfl, q⟩ := q
  cases b with
  | true => exact W.pure ⟨rfl, rfl, q⟩
  | false =>
    simp only [Bool.false_eq_true, if_false] at q
    show W w d env _ (allTrue .Or [y] env) _ _ _ _
    unfold allTrue
    refine W.bind (W.nil (q.mono (fun b Γ₁ loc₁ σ₁ q => ?_) fun _ _ x => x))
    obtain ⟨rfl, rfl, q⟩ := q
    cases b with
    | true => exact W.pure ⟨rfl, rfl, q⟩
    | false => exact W.pure ⟨rfl, rfl, q⟩
theorem WT.or3 {x y z : Expr} {pos : Pos} {Q : Bool → St → Prop} (h : WT w d env x loc σ (fun b σ₁ => if b = true then Q true σ₁ else WT w d env (.BoolOp .Or [y, z] pos) loc σ₁ Q X) X) : WT w d env (.BoolOp .Or [x, y, z] pos) loc σ Q X := by
  show W w d env [] (allTrue .Or [x, y, z] env) _ _ _ _
  unfold allTrue
  refine W.bind (h.mono (fun b Γ₁ loc₁ σ₁ q => ?_) fun _ _ x => x)
  obtain ⟨rfl, rfl, q⟩ := q
  cases b with
  | true => exact W.pure ⟨rfl, rfl, q⟩
  | false =>
    simp only [Bool.false_eq_true, if_false] at q
    exact W.nil q
theorem WT.and2 {x y : Expr} {pos : Pos} {Q : Bool → St → Prop} (h : WT w d env x loc σ (fun b σ₁ => if b = true then WT w d env y loc σ₁ Q X else Q false σ₁) X) : WT w d env (.BoolOp .And [x, y] pos) loc σ Q X := by
  show W w d env [] (allTrue .And [x, y] env) _ _ _ _
  unfold allTrue
  refine W.bind (h.mono (fun b Γ₁ loc₁ σ₁ q => ?_) fun _ _ x => x)
  obtain ⟨rfl, rfl, q⟩ := q
  cases b with
  | false => exact W.pure ⟨rfl, rfl, q⟩
  | true =>
    simp only [if_true] at q
    show W w d env _ (allTrue .And [y] env) _ _ _ _
    unfold allTrue
    refine W.bind (W.nil (q.mono (fun b Γ₁ loc₁ σ₁ q => ?_) fun _ _ x => x))
    obtain ⟨rfl, rfl, q⟩ := q
    cases b with
    | true => exact W.pure ⟨rfl, rfl, q⟩
    | false => exact W.pure ⟨rfl, rfl, q⟩
/-- and | or as a value, of tests that give bools -/
theorem WE.and2 {x y : Expr} {pos : Pos} {Q : V → St → Prop} (h : WE w d env x loc σ (fun v σ₁ => ∃ b, v = .bool b ∧ if b = true then WE w d env y loc σ₁ Q X else Q (.bool false) σ₁) X) : WE w d env (.BoolOp .And [x, y] pos) loc σ Q X := by
  show W w d env [] (boolOp pos .And [eval x env, eval y env]) _ _ _ _
  unfold boolOp
  refine W.bind (h.mono (fun rv Γ₁ loc₁ σ₁ q => ?_) fun _ _ x => x)
  obtain ⟨v, rfl, rfl, b, rfl, q⟩ := q
  refine W.bind (W.standAt (W.bind ((W.holding (W.truthyB (Q := fun v' σ' => v' = b ∧ σ' = σ₁) (by simp) ⟨rfl, rfl⟩)).mono (fun t Γ₄ loc₄ σ₄ q' => ?_) fun _ _ x => x)))
  obtain ⟨rfl, rfl, rfl, rfl⟩ := q'
  cases t with
  | false => exact W.val (.bool false) (fun A base outer s QQ EE C I h => wpAny_pure (h rv s.toks (I.gam (rv, .bool false) (by simp)))) q
  | true =>
    simp only [if_true] at q
    show W w d env _ (boolOp pos .And [eval y env]) _ _ _ _
    exact W.nil q
theorem WT.plain {e : Expr} {Q : Bool → St → Prop} (h : WE w d env e loc σ (fun v σ₁ => ∃ b, v = .bool b ∧ Q b σ₁) X)
    (hp : ∀ whole, PySem.isTrue e env whole = (do let v ← whole; standAt e.pos; holding [v] (truthy v)) := by intros; rfl) : WT w d env e loc σ Q X := by
  rw [WT, hp]
  refine W.bind (h.mono (fun rv Γ₁ loc₁ σ₁ q => ?_) fun _ _ x => x)
  obtain ⟨v, rfl, rfl, b, rfl, q⟩ := q
  exact W.bind (W.standAt (W.holding (W.truthyB (by simp) q)))
theorem WE.ifexp {t x y : Expr} {pos : Pos} {Q : V → St → Prop} (h : WT w d env t loc σ (fun b σ₁ => if b = true then WE w d env x loc σ₁ Q X else WE w d env y loc σ₁ Q X) X) : WE w d env (.IfExp t x y pos) loc σ Q X := by
  rw [WE, eval_IfExp]
  refine W.bind (h.mono (fun b Γ₁ loc₁ σ₁ q => ?_) fun _ _ x => x)
  obtain ⟨rfl, rfl, q⟩ := q
  cases b with
  | true => simp only [if_true] at q ⊢; exact q
  | false => simp only [Bool.false_eq_true, if_false] at q ⊢; exact q

/-! displays -/
theorem WL.nil {Q : List V → St → Prop} (q : Q [] σ) : WL w d env [] loc σ Q X := fun pos => W.pure ⟨[], rfl, rfl, rfl, q⟩
theorem WL.cons {e : Expr} {es : List Expr} {Q : List V → St → Prop} (h : WE w d env e loc σ (fun v σ₁ => WL w d env es loc σ₁ (fun l σ₂ => Q (v :: l) σ₂) X) X) (he : starEach (e :: es) env = (false, eval e env) :: starEach es env := by rfl) : WL w d env (e :: es) loc σ Q X := by
  intro pos
  rw [he]
  show W w d env [] (spliced ((false, eval e env) :: backTo pos (starEach es env))) _ _ _ _
  unfold spliced
  refine W.bind (h.mono (fun rv Γ₁ loc₁ σ₁ q => ?_) fun _ _ x => x)
  obtain ⟨v, rfl, rfl, q⟩ := q
  simp only [Bool.false_eq_true, if_false]
  refine W.bind (W.pure (W.bind ((W.holding (W.nil (q pos))).mono (fun rvs Γ₂ loc₂ σ₂ q2 => ?_) fun _ _ x => x)))
  obtain ⟨l, hl, rfl, rfl, q3⟩ := q2
  refine W.calm fun A base outer s QQ EE C I hq => wpAny_pure (hq _ ((rv :: rvs).zip (v :: l)) s.toks ⟨v :: l, by simp [hl], rfl, rfl, q3⟩ fun p hp => ?_)
  rw [List.zip_cons_cons] at hp
  rcases List.mem_cons.mp hp with rfl | hp
  · exact I.gam (rv, v) (by simp)
  · exact I.gam p (List.mem_append_left _ hp)
end
end Mine
end
section
open PySem PySem.W PyProof.Rows PySem.Spec PySem.Calls
set_option Elab.async false
set_option maxRecDepth 100000
set_option maxHeartbeats 8000000
set_option linter.unusedVariables false
namespace Mine

/-! changes of the heap -/
theorem frames_on {base h h' : Heap} : ∀ {l : List Env}, h.FunFrames base l → (∀ b ∈ frs l, ∀ o, h.get? b = some o → ∃ o', h'.get? b = some o' ∧ o'.data = o.data) → h'.FunFrames base l
  | [], _, _ => trivial
  | env :: rest, ⟨hk, ⟨L, o, hf, hn, ho, hd⟩, hr⟩, k => by
    have hm : L ∈ frs (env :: rest) := by rw [frs, List.filterMap_cons, hf]; exact .head _
    obtain ⟨o', ho', hd'⟩ := k L hm o ho
    refine ⟨hk, ⟨L, o', hf, hn, ho', fun vs => hd' ▸ hd vs⟩, frames_on hr fun b hb => k b ?_⟩
    rw [frs, List.filterMap_cons, hf]
    exact .tail _ hb

section
variable {w : World} {d : Nat} {base : Heap} {outer : List Env} {env : Env} {Γ : Gam} {loc : Loc} {σ : St} {h h' : Heap} {X : Str → St → Prop}

theorem Inv.none_of (I : Inv w base outer env Γ loc σ h) {b : Addr} (hb : h.get? b = none) : base.get? b = none ∧ b ≠ env.locals ∧ b ∉ frs outer ∧ ¬ Own σ b ∧ σ b = none := by
  refine ⟨?_, fun q => ?_, fun q => ?_, fun q => ?_, ?_⟩
  · cases q : base.get? b with
    | none => rfl
    | some o => have := I.stays b o q; rw [hb] at this; cases this
  · obtain ⟨m, ⟨o, _, _, e, _⟩, _⟩ := I.ns
    rw [← q, hb] at e; cases e
  · obtain ⟨_, o, e, _⟩ := I.frames.mem q
    rw [hb] at e; cases e
  · obtain ⟨o, e⟩ := Own.isSome I q
    rw [hb] at e; cases e
  · cases q : σ b with
    | none => rfl
    | some o =>
      have hm : b ∈ own b o := by cases o <;> exact .head _
      obtain ⟨ob, e⟩ := Own.isSome I ⟨b, o, q, hm⟩
      rw [hb] at e; cases e

theorem Inv.grown (I : Inv w base outer env Γ loc σ h) (k : ∀ b ob, b ≠ env.locals → h.get? b = some ob → h'.get? b = some ob) (kL : ∀ m, h.Ns env.locals m → h'.Ns env.locals m) :
    Inv w base outer env Γ loc σ h' ∧ Ext env outer σ σ h h' ∧ TupK h h' := by
  have kt : TupK h h' := fun b vs t => by
    obtain ⟨n1, n2⟩ := I.tup_off t
    obtain ⟨ob, e, z⟩ := t
    exact ⟨ob, k b ob n2 e, z⟩
  refine ⟨⟨fun b ob e => k b ob (fun q => ?_) (I.stays b ob e), frames_on I.frames fun b hb ob e => ⟨ob, k b ob (fun q => I.off (q ▸ hb)) e, rfl⟩, I.above, I.off, ?_, fun b ob e => (I.objs b ob e).mono (fun c hc oc ec => k c oc (I.apart c ⟨b, ob, e, hc⟩).2.1 ec) kt, I.sep, I.apart, fun p hp => (I.gam p hp).mono kt⟩,
    ⟨fun b ob e n1 _ => ⟨ob.slots, k b ob n1 e, fun _ => rfl⟩, fun b q => .inl q, fun b ob e => ?_⟩, kt⟩
  · have := Heap.lt_size e; rw [q] at this; exact absurd (Nat.lt_of_lt_of_le this I.above) (Nat.lt_irrefl _)
  · obtain ⟨m, hn, hm⟩ := I.ns
    refine ⟨m, kL m hn, fun x v hx => ?_⟩
    obtain ⟨rv, h1, h2⟩ := hm x v hx
    exact ⟨rv, h1, h2.mono kt⟩
  · by_cases q : b = env.locals
    · obtain ⟨m, hn, _⟩ := I.ns
      obtain ⟨o2, _, _, e2, _⟩ := kL m hn
      rw [q]; exact ⟨o2, e2⟩
    · exact ⟨ob, k b ob q e⟩
theorem Inv.alloc' {a : Addr} {o : O} (I : Inv w base outer env Γ loc σ h) (k : ∀ b ob, b ≠ env.locals → h.get? b = some ob → h'.get? b = some ob) (kL : ∀ m, h.Ns env.locals m → h'.Ns env.locals m) (r : TupK h h' → RO w h' a o) (f : ∀ b ∈ own a o, h.get? b = none) :
    Inv w base outer env Γ loc (upd σ a o) h' ∧ Ext env outer σ (upd σ a o) h h' ∧ σ a = none := by
  obtain ⟨I', x, kt⟩ := I.grown k kL
  have r := r kt
  have hm : a ∈ own a o := by cases o <;> exact .head _
  have fr : ∀ b ∈ own a o, ¬ Own σ b := fun b hb => (I.none_of (f b hb)).2.2.2.1
  have na := (I.none_of (f a hm)).2.2.2.2
  refine ⟨⟨I'.stays, I'.frames, I'.above, I'.off, I'.ns, fun b ob e => ?_, fun a₁ o₁ a₂ o₂ b e₁ e₂ m₁ m₂ => ?_, ?_, I'.gam⟩, ⟨x.keep, ?_, x.ex⟩, na⟩
  · unfold upd at e
    split at e
    · rename_i q; cases e; rw [q]; exact r
    · exact I'.objs b ob e
  · unfold upd at e₁ e₂
    split at e₁ <;> split at e₂
    · rename_i q₁ q₂; rw [q₁, q₂]
    · rename_i q₁ q₂; cases e₁; rw [q₁] at m₁; exact absurd ⟨a₂, o₂, e₂, m₂⟩ (fr b m₁)
    · rename_i q₁ q₂; cases e₂; rw [q₂] at m₂; exact absurd ⟨a₁, o₁, e₁, m₁⟩ (fr b m₂)
    · exact I.sep a₁ o₁ a₂ o₂ b e₁ e₂ m₁ m₂
  · rintro b ⟨a₁, o₁, e₁, m₁⟩
    unfold upd at e₁
    split at e₁
    · rename_i q; cases e₁; rw [q] at m₁
      have := I.none_of (f b m₁)
      exact ⟨this.1, this.2.1, this.2.2.1⟩
    · exact I.apart b ⟨a₁, o₁, e₁, m₁⟩
  · rintro b ⟨a₁, o₁, e₁, m₁⟩
    unfold upd at e₁
    split at e₁
    · rename_i q; cases e₁; rw [q] at m₁; exact .inr (f b m₁)
    · exact .inl ⟨a₁, o₁, e₁, m₁⟩
theorem Inv.alloc {a : Addr} {o : O} (I : Inv w base outer env Γ loc σ h) (k : ∀ b ob, h.get? b = some ob → h'.get? b = some ob) (r : RO w h' a o) (f : ∀ b ∈ own a o, h.get? b = none) :
    Inv w base outer env Γ loc (upd σ a o) h' ∧ Ext env outer σ (upd σ a o) h h' ∧ σ a = none := I.alloc' (fun b ob _ e => k b ob e) (fun m hn => hn.keeps k) (fun _ => r) f

theorem Inv.change {a ad : Addr} {o o' : O} (I : Inv w base outer env Γ loc σ h) (ha : σ a = some o) (hd : ad ∈ own a o) (ho : own a o' = own a o) (k : ∀ b ob, b ≠ ad → b ≠ env.locals → h.get? b = some ob → h'.get? b = some ob)
    (kL : ∀ m, h.Ns env.locals m → h'.Ns env.locals m) (ex : ∃ ob, h'.get? ad = some ob) (r : TupK h h' → RO w h' a o') :
    Inv w base outer env Γ loc (upd σ a o') h' ∧ Ext env outer σ (upd σ a o') h h' := by
  have hown : Own σ ad := ⟨a, o, ha, hd⟩
  have hap := I.apart ad hown
  have kt : TupK h h' := fun b vs t => by
    obtain ⟨n1, n2⟩ := I.tup_off t
    obtain ⟨ob, e, z⟩ := t
    exact ⟨ob, k b ob (fun q => n1 (q ▸ hown)) n2 e, z⟩
  have exs : ∀ b ob, h.get? b = some ob → ∃ ob', h'.get? b = some ob' := fun b ob e => by
    by_cases q : b = ad
    · rw [q]; exact ex
    · by_cases q2 : b = env.locals
      · obtain ⟨m, hn, _⟩ := I.ns
        obtain ⟨o2, _, _, e2, _⟩ := kL m hn
        rw [q2]; exact ⟨o2, e2⟩
      · exact ⟨ob, k b ob q q2 e⟩
  have ownE : ∀ b, Own (upd σ a o') b → Own σ b := by
    rintro b ⟨a₁, o₁, e₁, m₁⟩
    unfold upd at e₁
    split at e₁
    · rename_i q; cases e₁; rw [q, ho] at m₁; exact ⟨a, o, ha, m₁⟩
    · exact ⟨a₁, o₁, e₁, m₁⟩
  refine ⟨⟨fun b ob e => k b ob (fun q => ?_) (fun q => ?_) (I.stays b ob e), frames_on I.frames fun b hb ob e => ⟨ob, k b ob (fun q => ?_) (fun q => ?_) e, rfl⟩, I.above, I.off, ?_, fun b ob e => ?_, fun a₁ o₁ a₂ o₂ b e₁ e₂ m₁ m₂ => ?_, fun b q => I.apart b (ownE b q), fun p hp => (I.gam p hp).mono kt⟩,
    ⟨fun b ob e n1 n2 => ⟨ob.slots, k b ob (fun q => n2 (q ▸ hown)) n1 e, fun _ => rfl⟩, fun b q => .inl (ownE b q), exs⟩⟩
  · rw [q, hap.1] at e; cases e
  · have := Heap.lt_size e; rw [q] at this; exact absurd (Nat.lt_of_lt_of_le this I.above) (Nat.lt_irrefl _)
  · exact hap.2.2 (q ▸ hb)
  · exact I.off (q ▸ hb)
  · obtain ⟨m, hn, hm⟩ := I.ns
    refine ⟨m, kL m hn, fun x v hx => ?_⟩
    obtain ⟨rv, h1, h2⟩ := hm x v hx
    exact ⟨rv, h1, h2.mono kt⟩
  · unfold upd at e
    split at e
    · rename_i q; cases e; rw [q]; exact r kt
    · rename_i q
      refine (I.objs b ob e).mono (fun c hc oc ec => k c oc (fun z => q (I.sep b ob a o c e ha hc (z ▸ hd))) (I.apart c ⟨b, ob, e, hc⟩).2.1 ec) kt
  · unfold upd at e₁ e₂
    split at e₁ <;> split at e₂
    · rename_i q₁ q₂; rw [q₁, q₂]
    · rename_i q₁ q₂; cases e₁; rw [q₁, ho] at m₁; rw [q₁]; exact I.sep _ _ _ _ b ha e₂ m₁ m₂
    · rename_i q₁ q₂; cases e₂; rw [q₂, ho] at m₂; rw [q₂]; exact I.sep _ _ _ _ b e₁ ha m₁ m₂
    · exact I.sep a₁ o₁ a₂ o₂ b e₁ e₂ m₁ m₂
theorem Inv.change1 {a ad : Addr} {o o' : O} (I : Inv w base outer env Γ loc σ h) (ha : σ a = some o) (hd : ad ∈ own a o) (ho : own a o' = own a o) (k : Heap.SameBut ad h h') (ex : ∃ ob, h'.get? ad = some ob) (r : TupK h h' → RO w h' a o') :
    Inv w base outer env Γ loc (upd σ a o') h' ∧ Ext env outer σ (upd σ a o') h h' :=
  I.change ha hd ho (fun b ob n _ e => (k.2 b n).trans e) (fun m hn => hn.sameBut k (Ne.symm (I.apart ad ⟨a, o, ha, hd⟩).2.1)) ex r

/-- all that is not the frame's names, not in the base, and not at ad -/
def rest (base h : Heap) (L ad : Addr) : List (Addr × Obj) := (List.range h.objs.size).filterMap fun b => if base.get? b = none ∧ b ≠ L ∧ b ≠ ad then (h.get? b).map (b, ·) else none
theorem mem_rest {base h : Heap} {L ad : Addr} {p : Addr × Obj} : p ∈ rest base h L ad ↔ h.get? p.1 = some p.2 ∧ base.get? p.1 = none ∧ p.1 ≠ L ∧ p.1 ≠ ad := by
  unfold rest
  rw [List.mem_filterMap]
  constructor
  · rintro ⟨b, hb, e⟩
    split at e
    · rename_i q
      obtain ⟨ob, e1, e2⟩ := Option.map_eq_some_iff.mp e
      subst e2
      exact ⟨e1, q⟩
    · cases e
  · rintro ⟨e, q⟩
    refine ⟨p.1, List.mem_range.mpr (Heap.lt_size e), ?_⟩
    rw [if_pos q, e]
    rfl
theorem Inv.news (I : Inv w base outer env Γ loc σ h) {ad : Addr} {ob : Obj} (e : h.get? ad = some ob) (n1 : base.get? ad = none) (n2 : ad ≠ env.locals) : News base env.locals h ((ad, ob) :: rest base h env.locals ad) := fun p hp => by
  rcases List.mem_cons.mp hp with rfl | hp
  · exact ⟨e, n2, n1⟩
  · obtain ⟨a, b, c, _⟩ := mem_rest.mp hp
    exact ⟨a, c, b⟩
theorem Inv.news0 (I : Inv w base outer env Γ loc σ h) : News base env.locals h (rest base h env.locals h.objs.size) := fun p hp => by
  obtain ⟨a, b, c, _⟩ := mem_rest.mp hp
  exact ⟨a, c, b⟩
theorem rest_keeps {L ad : Addr} {m : Str → Option Value} {l : List (Addr × Obj)} (F : Fr base L h' m) (N : News base L h' l) (hs : ∀ p ∈ rest base h L ad, p ∈ l) (kb : base.StaysIn h) : ∀ b ob, b ≠ ad → b ≠ L → h.get? b = some ob → h'.get? b = some ob := fun b ob n1 n2 e => by
  cases q : base.get? b with
  | some o =>
    have := kb b o q
    rw [e] at this
    cases this
    exact F.keep b _ q
  | none => exact (N (b, ob) (hs _ (mem_rest.mpr ⟨e, q, n2, n1⟩))).1

/-- a step that adds to the heap and tracks nothing new -/
theorem W.grow {α : Type} {t : Sem α} {Q : α → Gam → Loc → St → Prop}
    (h : ∀ (A : Around) (base : Heap) (outer : List Env) (s : Shared) (QQ : α → Shared → Prop) (EE : Value → Shared → Prop), Cx w d A base outer env → Inv w base outer env Γ loc σ s.heap →
      (∀ a Γ' h' tk, Q a Γ' loc σ → (∀ b o, s.heap.get? b = some o → h'.get? b = some o) → (∀ p ∈ Γ', RV h' p.1 p.2) → QQ a { s with heap := h', toks := tk }) → wpAny (model PR w) A t QQ EE s) : W w d env Γ t loc σ Q X :=
  fun A base outer s QQ EE C I hq _ => h A base outer s QQ EE C I fun a Γ' h' tk q k g => hq a Γ' loc σ h' tk q (.of_keeps k) ((I.keeps k).gamma fun p hp => by
    rcases List.mem_append.mp hp with hp | hp
    · exact g p hp
    · exact (I.keeps k).gam p hp)
/-- a step that makes a thing that is tracked -/
theorem W.made {t : Sem Value} {Q : V → St → Prop} {o : O}
    (h : ∀ (A : Around) (base : Heap) (outer : List Env) (s : Shared) (QQ : Value → Shared → Prop) (EE : Value → Shared → Prop), Cx w d A base outer env → Inv w base outer env Γ loc σ s.heap →
      (∀ a h' tk, (∀ b ob, s.heap.get? b = some ob → h'.get? b = some ob) → (∀ b ∈ own a o, s.heap.get? b = none) → RO w h' a o → QQ (.ref a) { s with heap := h', toks := tk }) → wpAny (model PR w) A t QQ EE s)
    (q : ∀ a, σ a = none → Q (.ref a) (upd σ a o)) : W w d env Γ t loc σ (PV loc Q) X :=
  fun A base outer s QQ EE C I hq _ => h A base outer s QQ EE C I fun a h' tk k f r => by
    obtain ⟨i, x, n⟩ := I.alloc k r f
    exact hq (.ref a) [(.ref a, .ref a)] loc _ h' tk ⟨.ref a, rfl, rfl, q a n⟩ x (i.cons .ref)
/-- things tracked may be let go at the end -/
theorem W.shed {α : Type} {t : Sem α} {Q : α → Gam → Loc → St → Prop} (h : W w d env Γ t loc σ (fun a Γ' loc' σ' => ∃ σ'', (∀ b o, σ'' b = some o → σ' b = some o) ∧ Q a Γ' loc' σ'') X) : W w d env Γ t loc σ Q X :=
  fun A base outer s QQ EE C I hq hx => h A base outer s QQ EE C I (fun a Γ₂ loc₂ σ₂ h₂ tk₂ ⟨σ₃, le, q⟩ x i => hq a Γ₂ loc₂ σ₃ h₂ tk₂ q ⟨x.keep, fun b ⟨a, o, e, hb⟩ => x.new b ⟨a, o, le a o e, hb⟩, x.ex⟩ (i.drop le)) hx

theorem upd_self {σ : St} {a : Addr} {o : O} : upd σ a o a = some o := if_pos rfl
theorem upd_ne {σ : St} {a b : Addr} {o : O} (n : b ≠ a) : upd σ a o b = σ b := if_neg n
theorem le_upd {σ : St} {a : Addr} {o : O} (n : σ a = none) : ∀ b ob, σ b = some ob → upd σ a o b = some ob := fun b ob e => by
  rw [upd_ne]; exact e
  intro q; rw [q, n] at e; cases e

/-! displays -/
theorem WE.tup {es : List Expr} {k : Nat} {pos : Pos} {Q : V → St → Prop} (h : WL w d env es loc σ (fun l σ₁ => l.length ≤ 1000 ∧ Q (.tup l) σ₁) X) : WE w d env (.Tuple es k pos) loc σ Q X := by
  rw [WE, arm_eval_Tuple]
  refine W.bind (W.standAt (W.bind ((W.nil (h pos)).mono (fun rvs Γ₁ loc₁ σ₁ q => ?_) fun _ _ x => x)))
  obtain ⟨l, hl, rfl, rfl, hn, q⟩ := q
  refine W.grow fun A base outer s QQ EE C I hq => ?_
  have k : ∀ b ob, s.heap.get? b = some ob → (s.heap.push { cls := .type "tuple", data := .seq rvs.toArray }).get? b = some ob := fun b ob e => Heap.get?_push_of_some _ e
  refine wpAny_newObj_type (hq _ [(.ref s.heap.objs.size, .tup l)] _ s.toks ⟨_, rfl, rfl, q⟩ k fun p hp => ?_) (by show rvs.toArray.size ≤ sizeLine; rw [List.size_toArray, sizeLine_eq]; omega)
  cases List.mem_singleton.mp hp
  exact .tup (IsTup.new _ _) (rl_of_zip hl fun p hp => (I.gam p (by simp [hp])).mono (tupK_of k))
theorem WE.list {es : List Expr} {pos : Pos} {Q : V → St → Prop} (h : WL w d env es loc σ (fun l σ₁ => l.length ≤ 1000 ∧ ∀ a, σ₁ a = none → Q (.ref a) (upd σ₁ a (.list l))) X) : WE w d env (.List es pos) loc σ Q X := by
  rw [WE, arm_eval_List]
  refine W.bind (W.standAt (W.bind ((W.nil (h pos)).mono (fun rvs Γ₁ loc₁ σ₁ q => ?_) fun _ _ x => x)))
  obtain ⟨l, hl, rfl, rfl, hn, q⟩ := q
  refine W.made (o := .list l) (fun A base outer s QQ EE C I hq => ?_) q
  have k : ∀ b ob, s.heap.get? b = some ob → (s.heap.push { cls := .type "list", data := .seq rvs.toArray }).get? b = some ob := fun b ob e => Heap.get?_push_of_some _ e
  refine wpAny_newObj_type (hq s.heap.objs.size _ s.toks k (fun b hb => ?_) ⟨_, _, Heap.get?_push_size _ rfl, ?_⟩) (by show rvs.toArray.size ≤ sizeLine; rw [List.size_toArray, sizeLine_eq]; omega)
  · cases List.mem_singleton.mp hb; exact Heap.get?_none_of_le (Nat.le_refl _)
  · exact rl_of_zip hl fun p hp => (I.gam p (by simp [hp])).mono (tupK_of k)
end
end Mine
end
section
open PySem PySem.W PyProof.Rows PySem.Spec PySem.Calls
set_option Elab.async false
set_option maxRecDepth 100000
set_option maxHeartbeats 8000000
set_option linter.unusedVariables false
namespace Mine
section
variable {w : World} {d : Nat} {base : Heap} {outer : List Env} {env : Env} {Γ : Gam} {loc : Loc} {σ : St} {h h' : Heap} {X : Str → St → Prop}

/-! items -/
def ItemOk (w : World) (σ : St) (o i v : V) : Prop :=
  ∀ (A : Around) (base : Heap) (outer : List Env) (env : Env) (Γ : Gam) (loc : Loc) (s : Shared) (Q E : Value → Shared → Prop) (ro ri : Value), RV s.heap ro o → RV s.heap ri i → Inv w base outer env Γ loc σ s.heap → A.units + 80 < cLine →
    (∀ rv tk, RV s.heap rv v → Q rv { s with toks := tk }) → (∃ T id, s.TypeIs ro T ∧ typeLookup (.type T) (Str.ofString "__getitem__") = pure (some (.builtin id))) ∧ wpAny (model PR w) A (getItem ro ri) Q E s

theorem seqIdx {k : Int} {n : Nat} (h0 : 0 ≤ k) (h1 : k.toNat < n) : seqIndex? k n = some k.toNat := by
  have e : (if k < 0 then k + (n : Int) else k) = k := if_neg (by omega)
  unfold seqIndex?
  dsimp only
  rw [e, if_pos]
  simp only [Bool.and_eq_true, decide_eq_true_eq]
  omega
theorem ItemOk.tup {l : List V} {k : Int} {x : V} (h0 : 0 ≤ k) (h1 : k < 1000) (hx : l[k.toNat]? = some x) : ItemOk w σ (.tup l) (.int k) x := fun A base outer env Γ loc s Q E ro ri a b I u h => by
  cases b
  cases a with
  | @tup ad vs _ t r =>
    obtain ⟨v, h2, h3⟩ := r.get hx
    refine ⟨⟨"tuple", _, t.typeIs, slot_tuple_getitem.lookup⟩, ?_⟩
    exact PyProof.Rows.getItem_tuple t (j := k.toNat) (by omega) (by omega) (seqIdx h0 (by have := (List.getElem?_eq_some_iff.mp h2).1; simpa using this)) (by simpa using h2) (h v s.toks h3)
theorem listOf_is {a : Addr} {vs : Array Value} {n : Nat} (e : h.get? a = some (PySem.W.listOf vs n)) : h.IsList a vs := ⟨_, e, rfl, n, rfl⟩
theorem ItemOk.list {a : Addr} {l : List V} {k : Int} {x : V} (ha : σ a = some (.list l)) (h0 : 0 ≤ k) (h1 : k < 2 ^ 63) (hx : l[k.toNat]? = some x) : ItemOk w σ (.ref a) (.int k) x := fun A base outer env Γ loc s Q E ro ri a b I u h => by
  cases b
  cases a
  obtain ⟨vs, n, hl, r⟩ := I.objs _ _ ha
  replace hl := listOf_is hl
  obtain ⟨v, h2, h3⟩ := r.get hx
  exact ⟨⟨"list", _, hl.typeIs, slot_list_getitem.lookup⟩, wpAny_getItem_list hl h0 h1 (by simpa using h2) (h v s.toks h3)⟩
theorem ItemOk.str {x : Str} {k : Int} (h0 : -(x.length : Int) ≤ k) (h1 : k < (x.length : Int)) (hn : x.length ≤ 16777216) : ItemOk w σ (.str x) (.int k) (.str (Txt.item x k)) := fun A base outer env Γ loc s Q E ro ri a b I u h => by
  cases b
  cases a
  obtain ⟨T, id, h1, h2, h3⟩ := SB.item (prog := PR) (w := w) (A := A) (E := E) (s := s) (Q := Q) (x := x) (i := k) (fitsSsize_of (N := 9223372036854775808) (by omega) (by omega) (Int.le_refl _)) (charAt_isSome h0 h1) (h _ _ .str)
  exact ⟨⟨T, id, h2, h1⟩, h3⟩
theorem RD.get : ∀ {kvs : List (Str × Value)} {l : List (Str × V)} {k : Str} {x : V}, RD h kvs l → alook l k = some x → ∃ v, valueAt kvs k = some v ∧ RV h v x
  | _, _, k, x, .nil, e => by cases e
  | _, _, k, x, @RD.cons _ k' v x' vs l r rr, e => by
    unfold alook at e
    unfold valueAt
    rw [List.find?_cons]
    by_cases q : k = k'
    · rw [if_pos q] at e; cases e
      rw [decide_eq_true q.symm]
      exact ⟨v, rfl, r⟩
    · rw [if_neg q] at e
      rw [decide_eq_false (fun z => q z.symm)]
      exact rr.get e
theorem RD.miss : ∀ {kvs : List (Str × Value)} {l : List (Str × V)} {k : Str}, RD h kvs l → alook l k = none → valueAt kvs k = none
  | _, _, k, .nil, e => rfl
  | _, _, k, @RD.cons _ k' v x' vs l r rr, e => by
    unfold alook at e
    unfold valueAt
    rw [List.find?_cons]
    by_cases q : k = k'
    · rw [if_pos q] at e; cases e
    · rw [if_neg q] at e
      rw [decide_eq_false (fun z => q z.symm)]
      exact rr.miss e
theorem RD.length : ∀ {kvs : List (Str × Value)} {l : List (Str × V)}, RD h kvs l → kvs.length = l.length
  | _, _, .nil => rfl
  | _, _, .cons _ b => by rw [List.length_cons, List.length_cons, b.length]
theorem ItemOk.dict {a : Addr} {l : List (Str × V)} {k : Str} {x : V} (ha : σ a = some (.dict l)) (hx : alook l k = some x) : ItemOk w σ (.ref a) (.str k) x := fun A base outer env Γ loc s Q E ro ri a b I u h => by
  cases b
  cases a
  obtain ⟨kvs, hd, r, _⟩ := I.objs _ _ ha
  obtain ⟨v, h2, h3⟩ := r.get hx
  exact ⟨⟨"dict", _, hd.typeIs, slot_dict_getitem.lookup⟩, wpAny_getItem_of (strKind_is _ _ _ _) hd.mapOf h2 (h v _ h3)⟩

/-- an item; what is not needed behind it is let go -/
theorem WE.sub {value slice : Expr} {pos : Pos} {Q : V → St → Prop} (h : WE w d env value loc σ (fun o σ₁ => WE w d env slice loc σ₁ (fun i σ₂ => ∃ v, ItemOk w σ₂ o i v ∧ Q v σ₂) X) X)
    (hs : ∀ o i, subscripted slice false o i = operate [o, i] (getItem o i) := by intros; rfl) : WE w d env (.Subscript value slice pos) loc σ Q X :=
  fun A base outer s QQ EE C I hq hx => Subscript_ (h A base outer s _ EE C I (fun ro Γ₁ loc₁ σ₁ h₁ tk₁ ⟨o, eΓ, eL, q1⟩ x₁ i₁ => by
    subst eΓ eL
    refine W.nil (Γ := [(ro, o)]) q1 A base outer _ _ EE C i₁ (fun ri Γ₂ loc₂ σ₂ h₂ tk₂ ⟨i, eΓ, eL, v, ok, q2⟩ x₂ i₂ => ?_) fun c e loc₂ σ₂ h₂ tk₂ a b c f => hx _ _ _ _ _ _ a (x₁.trans b) c (f.older x₁.ex)
    subst eΓ eL
    have g1 := i₂.gam (ro, o) (by simp)
    have g2 := i₂.gam (ri, i) (by simp)
    obtain ⟨⟨T, id, hT, hl⟩, hw⟩ := ok A base outer env _ _ { s with heap := h₂, toks := tk₂ } QQ EE ro ri g1 g2 i₂ (by have := C.units; omega) fun rv tk r => hq rv [(rv, v)] _ _ h₂ tk ⟨v, rfl, rfl, q2⟩ (x₁.trans x₂) ((i₂.gamma (fun p hp => absurd hp List.not_mem_nil)).cons r)
    exact tail_any hT hl hw (hs ro ri)) hx)

theorem fr_ns {h₀ h₁ : Heap} {L : Addr} {m : Str → Option Value} (F : Fr h₀ L h m) (F' : Fr h₁ L h' m) : ∀ m', h.Ns L m' → h'.Ns L m' := fun m' hn => by
  have e : m' = m := by
    obtain ⟨o, es, ep, h1, h2, _, h3⟩ := hn
    obtain ⟨o', es', ep', g1, g2, _, g3⟩ := F.ns
    rw [h1] at g1; cases g1
    rw [h2] at g2; cases g2
    funext x
    rw [← h3, ← g3]
  exact e ▸ F'.ns
theorem slice_obj {A : Around} {s : Shared} {E : Value → Shared → Prop} {j : Int} {k : Nat} {p1 p2 : Pos} {Q : Value → Shared → Prop}
    (h : Q (.ref s.heap.objs.size) { s with heap := s.heap.push { cls := .type "slice", data := .fields #[.none, .int j s.toks, .none] }, toks := s.toks + 1 }) : wpAny (model PR w) A (eval (.Slice none (some (.Constant (.int j) k p1)) none p2) env) Q E s :=
  wpAny_Slice (wpAny_pure (show wpAny _ _ (mkInt j) _ _ _ from wpAny_mkInt (wpAny_pure h)))
/-- the first signs of a text -/
theorem WE.subS {value : Expr} {j : Int} {k : Nat} {p1 p2 pos : Pos} {Q : V → St → Prop} (h : WE w d env value loc σ (fun o σ₁ => ∃ x, o = .str x ∧ x.length ≤ 16777216 ∧ Q (.str (Txt.slice x none (some j))) σ₁) X)
    (hs : ∀ o i, subscripted (.Slice none (some (.Constant (.int j) k p1)) none p2) false o i = operate [i, o] (getItem o i) := by intros; rfl) : WE w d env (.Subscript value (.Slice none (some (.Constant (.int j) k p1)) none p2) pos) loc σ Q X :=
  fun A base outer s QQ EE C I hq hx => Subscript_ (h A base outer s _ EE C I (fun ro Γ₁ loc₁ σ₁ h₁ tk₁ ⟨o, eΓ, eL, x, ex, hn, q1⟩ x₁ i₁ => by
    subst eΓ eL ex
    have g1 := i₁.gam (ro, .str x) (by simp)
    refine slice_obj ?_
    dsimp only at g1 ⊢
    cases g1
    have kt : KeptH fun hp => ∀ b o, h₁.get? b = some o → hp.get? b = some o := fun hp ob k b o e => Heap.get?_push_of_some _ (k b o e)
    obtain ⟨T, id, e1, e2, e3⟩ := SBH.sliceItem_ns (prog := PR) (w := w) (A := A) (E := EE) (s := ⟨h₁, s.gens, s.drawn, tk₁ + 1, s.os⟩) (x := x) (j := j) (uj := tk₁) (Q := QQ) kt (fun _ _ e => e)
      (fun h' t' k kp => hq _ [(_, .str (Txt.slice x none (some j)))] loc₁ σ₁ h' k ⟨_, rfl, rfl, q1⟩ (x₁.trans (.of_keeps kp)) (((i₁.keeps kp).gamma (fun p hp => absurd hp List.not_mem_nil)).cons .str)) (by rw [sizeLine_eq]; exact hn)
    exact tail_any e2 e1 e3 (hs _ _)) hx)
theorem pick_upto {vs : Array Value} {y : Int} (h : 0 ≤ y) : (slicePick vs none (some y) none).toList = vs.toList.take y.toNat := by
  have e : sliceBounds none (some y) none vs.size = (((0 : Nat) : Int), ((min y.toNat vs.size : Nat) : Int), 1) := by
    simp only [sliceBounds, Option.getD_none, show (1 : Int) > 0 by decide, if_true, if_neg (show ¬ (y < 0) by omega)]
    congr 1
    congr 1
    omega
  rw [kmk_pick_nat _ e]
  show (vs.toList.drop 0).take (min y.toNat vs.size - 0) = _
  rw [List.drop_zero, Nat.sub_zero, ← Array.length_toList, kmk_take_min]
theorem RL.take : ∀ {vs : List Value} {l : List V} (n : Nat), RL h vs l → RL h (vs.take n) (l.take n)
  | _, _, 0, _ => by rw [List.take_zero, List.take_zero]; exact .nil
  | _, _, n + 1, .nil => .nil
  | _, _, n + 1, .cons a b => .cons a (b.take n)
end
end Mine
end
section
open PySem PySem.W PyProof.Rows PySem.Spec PySem.Calls
set_option Elab.async false
set_option maxRecDepth 100000
set_option maxHeartbeats 8000000
set_option linter.unusedVariables false
namespace Mine
section
variable {w : World} {d : Nat} {base : Heap} {outer : List Env} {env : Env} {Γ : Gam} {loc : Loc} {σ : St} {h h' : Heap} {X : Str → St → Prop}

theorem WE.shed {e : Expr} {Q : V → St → Prop} (h : WE w d env e loc σ (fun v σ' => ∃ σ'', (∀ b o, σ'' b = some o → σ' b = some o) ∧ Q v σ'') X) : WE w d env e loc σ Q X :=
  W.shed (h.mono (fun rv Γ' loc' σ' ⟨v, a, b, σ'', c, q⟩ => ⟨σ'', c, v, a, b, q⟩) fun _ _ x => x)
theorem WE.drop {e : Expr} {σ' : St} {Q : V → St → Prop} (h : WE w d env e loc σ' Q X) (s : ∀ a o, σ' a = some o → σ a = some o) : WE w d env e loc σ Q X := W.drop h s

theorem Cx.big {A : Around} (C : Cx w d A base outer env) : 3 < base.objs.size := by
  obtain ⟨p, loose, mean, mg, mb, T⟩ := C.T
  exact T.g.lt
theorem Inv.big {A : Around} (C : Cx w d A base outer env) (I : Inv w base outer env Γ loc σ h) : (h.objs.size == sysModules) = false := by
  have h1 := C.big
  have h2 := I.above
  obtain ⟨m, hn, _⟩ := I.ns
  have h3 := hn.lt
  rw [beq_eq_false_iff_ne]
  intro q
  rw [q] at h3
  exact absurd (Nat.lt_trans (Nat.lt_of_lt_of_le h1 h2) h3) (by decide)

/-! dicts -/
theorem WE.dict0 {pos : Pos} {Q : V → St → Prop} (q : ∀ a, σ a = none → Q (.ref a) (upd σ a (.dict []))) : WE w d env (.Dict [] [] pos) loc σ Q X := by
  rw [WE, eval_Dict_empty]
  refine W.bind (W.standAt (W.made (o := .dict []) (fun A base outer s QQ EE C I hq => ?_) q))
  refine wpAny_newObj_type (hq s.heap.objs.size _ s.toks (fun b ob e => Heap.get?_push_of_some _ e) (fun b hb => ?_) ⟨[], Heap.DictOf.new _, .nil, I.big C⟩) 
  cases List.mem_singleton.mp hb; exact Heap.get?_none_of_le (Nat.le_refl _)

theorem aset_miss : ∀ {l : List (Str × V)} {k : Str} {x : V}, alook l k = none → aset l k x = l ++ [(k, x)]
  | [], _, _, _ => rfl
  | (k', y) :: r, k, x, e => by
    unfold alook at e
    by_cases q : k = k'
    · rw [if_pos q] at e; cases e
    · rw [if_neg q] at e
      unfold aset
      rw [if_neg q, aset_miss e]; rfl
theorem aset_len : ∀ (l : List (Str × V)) (k : Str) (x : V), (aset l k x).length ≤ l.length + 1
  | [], _, _ => Nat.le_refl _
  | (k', y) :: r, k, x => by
    unfold aset
    split
    · exact Nat.le_succ _
    · exact Nat.succ_le_succ (aset_len r k x)
theorem RD.put : ∀ {kvs : List (Str × Value)} {l : List (Str × V)} {k : Str} {v : Value} {x : V}, RD h kvs l → (kvs.map (·.1)).Nodup → RV h v x → RD h (stored kvs k v) (aset l k x)
  | _, _, k, v, x, .nil, _, r => .cons r .nil
  | _, _, k, v, x, @RD.cons _ k' v' x' vs l r' rr, nd, r => by
    rw [List.map_cons, List.nodup_cons] at nd
    by_cases q : k = k'
    · have e1 : stored ((k', v') :: vs) k v = (k', v) :: vs := by
        unfold stored
        rw [if_pos (by simp [q]), List.map_cons, if_pos q.symm, map_store_of_not_mem vs k v (by rw [q]; exact nd.1)]
      rw [e1]
      unfold aset
      rw [if_pos q]
      exact .cons r rr
    · have e1 : stored ((k', v') :: vs) k v = (k', v') :: stored vs k v := by
        unfold stored
        rw [List.any_cons, decide_eq_false (fun z => q z.symm), Bool.false_or]
        split
        · rw [List.map_cons, if_neg (fun z => q z.symm)]
        · rfl
      rw [e1]
      unfold aset
      rw [if_neg q]
      exact .cons r' (rr.put nd.2 r)
/-- d[k] = v -/
theorem W.setDict {a : Addr} {l : List (Str × V)} {k : Str} {x : V} {ro rk rv : Value} {Q : Unit → Gam → Loc → St → Prop} (ha : σ a = some (.dict l)) (ho : (ro, V.ref a) ∈ Γ) (hk : (rk, V.str k) ∈ Γ) (hv : (rv, x) ∈ Γ) (hl : l.length ≤ 100000)
    (q : Q () [] loc (upd σ a (.dict (aset l k x)))) : W w d env Γ (setItem ro rk rv) loc σ Q X :=
  fun A base outer s QQ EE C I hq _ => by
    have g1 := I.gam _ ho
    have g2 := I.gam _ hk
    have g3 := I.gam _ hv
    dsimp only at g1 g2 g3
    cases g1; cases g2
    obtain ⟨kvs, hd, r, lo⟩ := I.objs _ _ ha
    refine wpAny_setItem_pairs (strKind_is _ _ _ _) hd (fun h' hd' hs => ?_) (by rw [sizeLine_eq, r.length]; omega)
    obtain ⟨i, x⟩ := I.change1 (o' := .dict (aset l k x)) ha (.head _) rfl hs (by obtain ⟨o, _, _, e, _⟩ := hd'; exact ⟨o, e⟩) fun kt => ⟨_, hd', (r.mono kt).put (by obtain ⟨_, _, _, _, _, _, _, _, nd⟩ := hd; exact nd) (g3.mono kt), lo⟩
    exact hq () [] loc _ h' _ q x i
/-- k in d -/
theorem CmpOk.inD {a : Addr} {l : List (Str × V)} {k : Str} (ha : σ a = some (.dict l)) : CmpOk w .In σ (.str k) (.ref a) (alook l k).isSome := fun A base outer env Γ loc s Q E ra rb x y I u h => by
  cases x; cases y
  obtain ⟨kvs, hd, r, lo⟩ := I.objs _ _ ha
  refine wpAny_in_of (strKind_is _ _ _ _) lo hd.mapOf ?_
  cases e : alook l k with
  | none => rw [r.miss e]; rw [e] at h; exact h _
  | some x => obtain ⟨v, h1, _⟩ := r.get e; rw [h1]; rw [e] at h; exact h _
/-- d.get(k, e) -/
theorem WE.get {o e₁ e₂ : Expr} {apos pos : Pos} {Q : V → St → Prop}
    (h : WE w d env o loc σ (fun ov σ₁ => ∃ a, ov = .ref a ∧ (∃ l, σ₁ a = some (.dict l)) ∧ WE w d env e₁ loc σ₁ (fun k σ₂ => WE w d env e₂ loc σ₂ (fun dv σ₃ => ∃ l x, k = .str x ∧ σ₃ a = some (.dict l) ∧ Q ((alook l x).getD dv) σ₃) X) X) X)
    (hbase : attributeBase o "get" env (eval o env) = eval o env := by rfl) (hs : starEach [e₁, e₂] env = [(false, eval e₁ env), (false, eval e₂ env)] := by rfl) (hline : (apos.endLine == pos.line) = true := by rfl) :
    WE w d env (.Call (.Attribute o "get" apos) [e₁, e₂] [] pos) loc σ Q X :=
  fun A base outer s QQ EE C I hq hx => wpAny_Call_method_lateS hbase (by rw [hs]; rfl) hline (h A base outer s _ EE C I (fun ro Γ₁ loc₁ σ₁ h₁ tk₁ ⟨ov, eΓ, eL, a, ea, ⟨l₀, hl₀⟩, q1⟩ x₁ i₁ => by
    subst eΓ eL ea
    have g1 := i₁.gam (ro, .ref a) (by simp)
    dsimp only at g1
    cases g1
    obtain ⟨kvs₀, hd₀, _, lo⟩ := i₁.objs _ _ hl₀
    refine ⟨"dict", _, PySem.F.plainAttrs_dict, PySem.F.slot_dict_get, PySem.F.type_dict_get, hd₀.typeIs, hd₀.mapOf.noDict, ?_⟩
    rw [hs]
    refine wpAny_dict_get2 (knd := PySem.strKind PR w) lo ?_
    refine W.nil q1 A base outer _ _ EE C i₁ (fun rk Γ₂ loc₂ σ₂ h₂ tk₂ ⟨k, eΓ, eL, q2⟩ x₂ i₂ => ?_) fun c e loc₂ σ₂ h₂ tk₂ a b c f => hx _ _ _ _ _ _ a (x₁.trans b) c (f.older x₁.ex)
    subst eΓ eL
    refine W.nil q2 A base outer _ _ EE C i₂ (fun rd Γ₃ loc₃ σ₃ h₃ tk₃ ⟨dv, eΓ, eL, l, x, ek, hl, q3⟩ x₃ i₃ => ?_) fun c e loc₂ σ₂ h₂ tk₂ a b c f => hx _ _ _ _ _ _ a ((x₁.trans x₂).trans b) c (f.older (x₁.trans x₂).ex)
    subst eΓ eL ek
    have g2 := i₃.gam (rk, .str x) (by simp)
    have g3 := i₃.gam (rd, dv) (by simp)
    dsimp only at g2 g3
    cases g2
    obtain ⟨kvs, hd, r, _⟩ := i₃.objs _ _ hl
    refine ⟨x, _, strKind_is _ _ _ _, hd.mapOf, ?_⟩
    cases e : alook l x with
    | none => rw [r.miss e]; rw [e] at q3; exact hq _ [(rd, dv)] _ _ h₃ _ ⟨_, rfl, rfl, q3⟩ ((x₁.trans x₂).trans x₃) ((i₃.gamma (fun p hp => absurd hp List.not_mem_nil)).cons g3)
    | some y =>
      obtain ⟨v, e1, e2⟩ := r.get e
      rw [e1]; rw [e] at q3
      exact hq _ [(v, y)] _ _ h₃ _ ⟨_, rfl, rfl, q3⟩ ((x₁.trans x₂).trans x₃) ((i₃.gamma (fun p hp => absurd hp List.not_mem_nil)).cons e2)) hx)

/-! attributes of the world -/
theorem RE.get : ∀ {es : List DictEntry} {l : List (Str × V)} {k : Str} {x : V}, RE h es l → alook l k = some x → ∃ v, getL k es = some (some v) ∧ RV h v x
  | _, _, k, x, .nil, e => by cases e
  | _, _, k, x, @RE.cons _ hs k' t v x' vs l r rr, e => by
    unfold alook at e
    unfold getL
    rw [List.find?_cons]
    by_cases q : k = k'
    · rw [if_pos q] at e; cases e
      have : Value.isStr (.str k' t) k = true := by rw [q]; simp [Value.isStr]
      rw [this]
      exact ⟨v, rfl, r⟩
    · rw [if_neg q] at e
      have : Value.isStr (.str k' t) k = false := by
        simp only [Value.isStr, beq_eq_false_iff_ne]
        exact fun z => q z.symm
      rw [this]
      obtain ⟨v, h1, h2⟩ := rr.get e
      refine ⟨v, ?_, h2⟩
      unfold getL at h1
      dsimp only
      split at h1
      · rename_i q1; rw [q1]; exact h1
      · split at h1 <;> cases h1
theorem RE.norefs : ∀ {es : List DictEntry} {l : List (Str × V)}, RE h es l → es.any (·.refKey) = false
  | _, _, .nil => rfl
  | _, _, .cons _ b => by rw [List.any_cons, b.norefs]; rfl
theorem RE.some (r : RE h es l) (k : Str) : (getL k es).isSome = true := by
  unfold getL
  split
  · rfl
  · rw [r.norefs]; rfl
theorem RE.length : ∀ {es : List DictEntry} {l : List (Str × V)}, RE h es l → es.length = l.length
  | _, _, .nil => rfl
  | _, _, .cons _ b => by rw [List.length_cons, List.length_cons, b.length]
theorem RE.put : ∀ {es : List DictEntry} {l : List (Str × V)} {k : Str} {v : Value} {x : V} {hs : Int} {t : Tok}, RE h es l → RV h v x → RE h (putL k hs (.str k t) v es) (aset l k x)
  | _, _, k, v, x, hs, t, .nil, r => .cons r .nil
  | _, _, k, v, x, hs, t, @RE.cons _ hs' k' t' v' x' vs l r' rr, r => by
    unfold putL aset
    by_cases q : k = k'
    · have : Value.isStr (.str k' t') k = true := by rw [q]; simp [Value.isStr]
      rw [if_pos q, if_pos this]
      exact .cons r rr
    · have : ¬ Value.isStr (.str k' t') k = true := by
        simp only [Value.isStr, beq_iff_eq]
        exact fun z => q z.symm
      rw [if_neg q, if_neg this]
      exact .cons r' (rr.put r)
theorem RV.handed {v : Value} {x : V} (r : RV h v x) : handedIn v = true := by cases r <;> rfl

/-- a name that the class World does not have -/
def AttrFree (w : World) (name : Str) : Prop := plainGet (hd.heap_39 w.params) 139 name = true ∧ findIn (hd.heap_39 w.params) (.ref 139) name = some none
structure WorldCls (w : World) : Prop where
  dict : hasDictIn (hd.heap_39 w.params) 139 = true
  setattr : findIn (hd.heap_39 w.params) (.ref 139) "__setattr__" = some (some (.builtin "object.__setattr__"))
  plain : plainOver (hd.heap_39 w.params) 139 = true

theorem W.attr {a dx : Addr} {l : List (Str × V)} {name : Str} {v : V} {ro : Value} {b : Bool} {Q : V → St → Prop} (WC : WorldCls w) (hf : AttrFree w name) (ho : (ro, V.ref a) ∈ Γ) (ha : σ a = some (.inst dx l)) (hv : alook l name = some v) (q : Q v σ) :
    W w d env Γ (getAttr ro name b) loc σ (PV loc Q) X :=
  W.val v (fun A base outer s QQ EE C I h => by
    have g1 := I.gam _ ho
    dsimp only at g1
    cases g1
    obtain ⟨m, F, hm⟩ := I.fr
    obtain ⟨e1, es, n, e2, r⟩ := I.objs _ _ ha
    obtain ⟨rv, h1, h2⟩ := r.get hv
    exact get_own F C.K ⟨e1, rfl, rfl, e2⟩ hf.1 WC.dict hf.2 rfl h1 h2.handed (h rv _ h2)) q
theorem W.setAttr {a dx : Addr} {l : List (Str × V)} {name : Str} {v : V} {ro rv : Value} {Q : Unit → Gam → Loc → St → Prop} (WC : WorldCls w) (hf : AttrFree w name) (ho : (ro, V.ref a) ∈ Γ) (hv : (rv, v) ∈ Γ) (ha : σ a = some (.inst dx l)) (hl : l.length ≤ 100)
    (q : Q () [] loc (upd σ a (.inst dx (aset l name v)))) : W w d env Γ (setAttr ro name rv) loc σ Q X :=
  fun A base outer s QQ EE C I hq _ => by
    have g1 := I.gam _ ho
    have g2 := I.gam _ hv
    dsimp only at g1 g2
    cases g1
    obtain ⟨m, F, hm⟩ := I.fr
    obtain ⟨e1, es, n, e2, r⟩ := I.objs _ _ ha
    have hap := I.apart dx ⟨a, _, ha, .tail _ (.head _)⟩
    refine set_dict F C.K (I.news e2 hap.1 hap.2.1) ⟨e1, rfl, rfl, e2⟩ rfl WC.setattr WC.plain (by unfold takerIn; rw [hf.2]; rfl) WC.dict (r.some name) rfl (.head fun p hp => (mem_rest.mp hp).2.2.2) (by rw [(r.put g2).length]; have := aset_len l name v; omega) fun h' F' N' => ?_
    have kp := rest_keeps F' N' (fun p hp => .tail _ hp) I.stays
    obtain ⟨i, x⟩ := I.change (o' := .inst dx (aset l name v)) ha (.tail _ (.head _)) rfl kp (fr_ns F F') ⟨_, (N' _ (.head _)).1⟩ fun kt => ⟨kp _ _ (fun z => by rw [z, e2] at e1; cases e1) (I.apart a ⟨a, _, ha, .head _⟩).2.1 e1, _, _, (N' _ (.head _)).1, (r.mono kt).put (g2.mono kt)⟩
    exact hq () [] loc _ h' _ q x i
end
end Mine
end
section
open PySem PySem.W PyProof.Rows PySem.Spec PySem.Calls
set_option Elab.async false
set_option maxRecDepth 100000
set_option maxHeartbeats 8000000
set_option linter.unusedVariables false
namespace Mine
section
variable {w : World} {d : Nat} {base : Heap} {outer : List Env} {env : Env} {Γ : Gam} {loc : Loc} {σ : St} {h h' : Heap} {X : Str → St → Prop}

/-! equality -/
inductive Pl : V → PyData → Prop
  | none : Pl .none .none
  | int (i : Int) : Pl (.int i) (.int i)
  | str (x : Str) : Pl (.str x) (.str x)
  | pair (a b : Int) : Pl (.tup [.int a, .int b]) (.tuple [.int a, .int b])
theorem Pl.reads {v : V} {dt : PyData} (p : Pl v dt) {rv : Value} (r : RV h rv v) : Reads h rv dt [] := by
  cases p with
  | none => cases r; exact .none
  | int i => cases r; exact .int _ _
  | str x => cases r; exact .str _ _
  | pair a b =>
    cases r with
    | @tup ad vs _ t l =>
      obtain ⟨ob, e, hc, n, hd⟩ := t
      refine .tuple e hc hd ?_
      generalize vs.toList = l' at l
      cases l with
      | cons x y =>
        cases y with
        | cons y z =>
          cases z; cases x; cases y
          exact .cons (as := []) (bs := []) (.int _ _) (.cons (as := []) (bs := []) (.int _ _) .nil)
theorem Pl.shaped {v : V} {dt : PyData} (p : Pl v dt) (n : ∀ x, v ≠ .str x) : SeqAt.shaped dt = true := by
  cases p with
  | str x => exact absurd rfl (n x)
  | none => rfl
  | int i => rfl
  | pair a b => rfl
theorem Pl.noMix {v : V} {dt : PyData} (p : Pl v dt) : SeqAt.noMix dt dt = true := by cases p <;> rfl
theorem Pl.same {v : V} {dt : PyData} (p : Pl v dt) : PySem.Spec.same dt dt = true := by cases p <;> simp [PySem.Spec.same, PySem.Spec.sameAll]
theorem Pl.eqv {v : V} {dt : PyData} (p : Pl v dt) : PyData.eqv dt dt = true := by rw [← SeqAt.same_eq_eqv dt dt p.noMix]; exact p.same
def Plain (v : V) : Prop := ∃ dt, Pl v dt
theorem CmpOk.neRefl {v : V} (p : Plain v) : CmpOk w .NotEq σ v v false := fun A base outer env Γ loc s Q E ra rb x y I u h => by
  obtain ⟨dt, p⟩ := p
  by_cases q : ∃ x, v = .str x
  · obtain ⟨z, rfl⟩ := q
    have e : (z != z) = false := by simp
    exact CmpOk.neS A base outer env Γ loc s Q E ra rb x y I u (e ▸ h)
  · have n : ∀ x, v ≠ .str x := fun x e => q ⟨x, e⟩
    exact ne_dataH_same (p.reads x) (p.reads y) (p.shaped n) (p.shaped n) (by omega) p.noMix (by rw [p.same]; exact h s.toks)
theorem EqAt.refl {A : Around} {s : Shared} {v : V} (p : Plain v) {ra rb : Value} (x : RV s.heap ra v) (y : RV s.heap rb v) (hu : A.units + 66 < cLine) : SeqAt.EqAt A.in1 s ra rb true := by
  obtain ⟨dt, p⟩ := p
  by_cases q : ∃ x, v = .str x
  · obtain ⟨z, rfl⟩ := q
    cases x; cases y
    have e : (z == z) = true := by simp
    rw [← e]
    exact SeqAt.EqAt.str_str (A := A.in1) (s := s) z _ z _
  · have n : ∀ x, v ≠ .str x := fun x e => q ⟨x, e⟩
    rw [← p.eqv]
    exact keq_at (p.reads x) (p.reads y) (p.shaped n) (p.shaped n) (by show A.units + 1 + 64 < cLine; omega)
theorem CmpOk.neB {a b : Bool} : CmpOk w .NotEq σ (.bool a) (.bool b) (a != b) := fun A base outer env Γ loc s Q E ra rb x y I u h => by
  cases x; cases y
  refine ne_dataH_same (.bool a) (.bool b) rfl rfl (by omega) rfl ?_
  have : (!PySem.Spec.same (.bool a) (.bool b)) = (a != b) := by cases a <;> cases b <;> rfl
  rw [this]; exact h s.toks

theorem keq_refl {A : Around} {s : Shared} : ∀ {ka kb : List (Str × Value)} {l la : List (Str × V)}, RD s.heap ka la → RD s.heap kb l → (∀ k x, (k, x) ∈ la → alook l k = some x) → (∀ p ∈ l, Plain p.2) → A.units + 66 < cLine → KeqHits A.in1 s kb ka true
  | _, _, _, _, .nil, _, _, _, _ => .nil
  | _, _, l, _, @RD.cons _ k v x vs la r rr, b, m, pl, hu => by
    have e := m k x (.head _)
    obtain ⟨y, h1, h2⟩ := b.get e
    have pv : Plain x := by
      clear b m h1 h2 rr r
      induction l with
      | nil => cases e
      | cons p l ih =>
        obtain ⟨k', x'⟩ := p
        unfold alook at e
        split at e
        · cases e; exact pl _ (.head _)
        · exact ih (fun p hp => pl p (.tail _ hp)) e
    exact .hit (e := true) (b := true) h1 (EqAt.refl pv r h2 hu) (keq_refl rr b (fun k x hm => m k x (.tail _ hm)) pl hu)
theorem alook_self : ∀ {l : List (Str × V)}, (l.map (·.1)).Nodup → ∀ k x, (k, x) ∈ l → alook l k = some x
  | (k', y) :: r, nd, k, x, hm => by
    rw [List.map_cons, List.nodup_cons] at nd
    unfold alook
    rcases List.mem_cons.mp hm with e | hm
    · cases e; rw [if_pos rfl]
    · rw [if_neg fun q => nd.1 (List.mem_map.mpr ⟨(k, x), hm, q⟩)]
      exact alook_self nd.2 k x hm
theorem RD.keys : ∀ {kvs : List (Str × Value)} {l : List (Str × V)}, RD h kvs l → kvs.map (·.1) = l.map (·.1)
  | _, _, .nil => rfl
  | _, _, .cons _ b => by rw [List.map_cons, List.map_cons, b.keys]
/-- two dicts that hold the same -/
theorem CmpOk.neD {a b : Addr} {l : List (Str × V)} (ha : σ a = some (.dict l)) (hb : σ b = some (.dict l)) (pl : ∀ p ∈ l, Plain p.2) : CmpOk w .NotEq σ (.ref a) (.ref b) false := fun A base outer env Γ loc s Q E ra rb x y I u h => by
  cases x; cases y
  obtain ⟨ka, da, r1, lo1⟩ := I.objs _ _ ha
  obtain ⟨kb, db, r2, lo2⟩ := I.objs _ _ hb
  have nd : (l.map (·.1)).Nodup := by
    obtain ⟨_, _, _, _, _, _, _, _, nd⟩ := da
    rw [← r1.keys]; exact nd
  refine keq_ne lo1 lo2 da db (by omega) (fun _ => keq_refl r1 r2 (alook_self nd) pl (by omega)) ?_
  rw [r1.length, r2.length]
  simpa using h s.toks
/-- two lists of texts that hold the same -/
theorem CmpOk.eqLs {a b : Addr} {l : List V} (ha : σ a = some (.list l)) (hb : σ b = some (.list l)) (pl : ∀ p ∈ l, Plain p) : CmpOk w .Eq σ (.ref a) (.ref b) true := fun A base outer env Γ loc s Q E ra rb x y I u h => by
  cases x; cases y
  obtain ⟨va, n1, la, r1⟩ := I.objs _ _ ha
  obtain ⟨vb, n2, lb, r2⟩ := I.objs _ _ hb
  replace la := listOf_is la
  replace lb := listOf_is lb
  have e1 : va.size = l.length := by rw [← Array.length_toList, r1.length]
  have e2 : vb.size = l.length := by rw [← Array.length_toList, r2.length]
  refine SeqAt.eq_listAt (e := fun _ => true) la lb (by rw [e1, e2]) (by omega) (fun j h1 h2 => ?_) ?_
  · have hj : j < l.length := by rw [← e1]; exact h1
    obtain ⟨v1, g1, g2⟩ := r1.get (i := j) (x := l[j]) (List.getElem?_eq_getElem hj)
    obtain ⟨v2, g3, g4⟩ := r2.get (i := j) (x := l[j]) (List.getElem?_eq_getElem hj)
    have q1 : va[j] = v1 := by
      have : va.toList[j]? = some va[j] := by simp [h1]
      rw [g1] at this; exact (Option.some.inj this).symm
    have q2 : vb[j] = v2 := by
      have : vb.toList[j]? = some vb[j] := by simp [h2]
      rw [g3] at this; exact (Option.some.inj this).symm
    rw [q1, q2]
    exact EqAt.refl (pl _ (List.getElem_mem hj)) g2 g4 (by omega)
  · rw [List.all_eq_true.mpr (fun _ _ => rfl)]; exact h s.toks

/-! lists -/
theorem W.catList {a b : Addr} {l m : List V} {ra rb : Value} {Q : V → St → Prop} (h1 : (ra, V.ref a) ∈ Γ) (h2 : (rb, V.ref b) ∈ Γ) (ha : σ a = some (.list l)) (hb : σ b = some (.list m)) (hn : l.length + m.length ≤ 16777216)
    (q : ∀ c, σ c = none → Q (.ref c) (upd σ c (.list (l ++ m)))) : W w d env Γ (binaryOp .Add ra rb) loc σ (PV loc Q) X :=
  fun A base outer s QQ EE C I hq _ => by
    have g1 := I.gam _ h1
    have g2 := I.gam _ h2
    dsimp only at g1 g2
    cases g1; cases g2
    obtain ⟨va, n1, la, r1⟩ := I.objs _ _ ha
    obtain ⟨vb, n2, lb, r2⟩ := I.objs _ _ hb
    replace la := listOf_is la
    replace lb := listOf_is lb
    obtain ⟨mm, F, hm⟩ := I.fr
    refine add_lists (hsz := by rw [r1.length, r2.length, sizeLine_eq]; exact hn) (vs := va.toList) (ws := vb.toList) F I.news0 (by rw [Array.toArray_toList]; exact la) (by rw [Array.toArray_toList]; exact lb) fun h' F' N' => ?_
    have kp := rest_keeps F' N' (fun p hp => .tail _ hp) I.stays
    obtain ⟨i, x, n⟩ := I.alloc' (a := s.heap.objs.size) (o := .list (l ++ m)) (fun b ob n e => kp b ob (Nat.ne_of_lt (Heap.lt_size e)) n e) (fr_ns F F') (fun kt => ⟨_, _, (N' _ (.head _)).1, (r1.mono kt).append (r2.mono kt)⟩) (fun b hb => by cases List.mem_singleton.mp hb; exact Heap.get?_none_of_le (Nat.le_refl _))
    exact hq _ [(_, .ref s.heap.objs.size)] loc _ h' s.toks ⟨_, rfl, rfl, q _ n⟩ x (i.cons .ref)
theorem WE.cat {l r : Expr} {pos : Pos} {Q : V → St → Prop}
    (h : WE w d env l loc σ (fun a σ₁ => WE w d env r loc σ₁ (fun b σ₂ => ∃ aa bb la lb, a = .ref aa ∧ b = .ref bb ∧ σ₂ aa = some (.list la) ∧ σ₂ bb = some (.list lb) ∧ la.length + lb.length ≤ 16777216 ∧ ∀ c, σ₂ c = none → Q (.ref c) (upd σ₂ c (.list (la ++ lb)))) X) X) : WE w d env (.BinOp l .Add r pos) loc σ Q X := by
  rw [WE, eval_BinOp]
  refine W.bind (h.mono (fun ra Γ₁ loc₁ σ₁ q => ?_) fun _ _ x => x)
  obtain ⟨a, rfl, rfl, q⟩ := q
  refine W.bind (W.holding (W.nil (q.mono (fun rb Γ₂ loc₂ σ₂ q => ?_) fun _ _ x => x)))
  obtain ⟨b, rfl, rfl, aa, bb, la, lb, rfl, rfl, h1, h2, h3, q⟩ := q
  exact W.bind (W.standAt (W.operate (W.catList (by simp) (by simp) h1 h2 h3 q)))
/-- l[i] = v -/
theorem W.setList {a : Addr} {l : List V} {k : Int} {x : V} {ro rk rv : Value} {Q : Unit → Gam → Loc → St → Prop} (ha : σ a = some (.list l)) (ho : (ro, V.ref a) ∈ Γ) (hk : (rk, V.int k) ∈ Γ) (hv : (rv, x) ∈ Γ) (h0 : 0 ≤ k) (h1 : k < (l.length : Int)) (h2 : k < 2 ^ 63)
    (q : Q () [] loc (upd σ a (.list (l.set k.toNat x)))) : W w d env Γ (setItem ro rk rv) loc σ Q X :=
  fun A base outer s QQ EE C I hq _ => by
    have g1 := I.gam _ ho
    have g2 := I.gam _ hk
    have g3 := I.gam _ hv
    dsimp only at g1 g2 g3
    cases g1; cases g2
    obtain ⟨vs, n, hl, r⟩ := I.objs _ _ ha
    refine ki_setAt hl h0 h2 (by rw [← Array.length_toList, r.length]; exact h1) ?_
    obtain ⟨n', hd'⟩ := Obj.data_mapSeq (o := PySem.W.listOf vs n) rfl (·.setIfInBounds k.toNat rv)
    have hl' : (s.heap.update a (Obj.mapSeq (·.setIfInBounds k.toNat rv))).get? a = some (PySem.W.listOf (vs.setIfInBounds k.toNat rv) n') := by
      rw [Heap.get?_update_self _ hl (Obj.isFreed_of_seq hd')]
      show some (PySem.W.listOf _ _) = _
      cases hd'
      rfl
    obtain ⟨i, xx⟩ := I.change1 (o' := .list (l.set k.toNat x)) ha (.head _) rfl (Heap.SameBut.update ..) ⟨_, hl'⟩ fun kt => ⟨_, _, hl', by
      rw [Array.toList_setIfInBounds]
      exact (r.mono kt).set (g3.mono kt)⟩
    exact hq () [] loc _ _ _ q xx i
/-- l.append(v) -/
theorem WE.append {o e₁ : Expr} {apos pos : Pos} {Q : V → St → Prop}
    (h : WE w d env o loc σ (fun ov σ₁ => ∃ a, ov = .ref a ∧ (∃ l, σ₁ a = some (.list l)) ∧ WE w d env e₁ loc σ₁ (fun v σ₂ => ∃ l, σ₂ a = some (.list l) ∧ l.length ≤ 16777216 ∧ Q .none (upd σ₂ a (.list (l ++ [v])))) X) X)
    (hbase : attributeBase o "append" env (eval o env) = eval o env := by rfl) (hs : starEach [e₁] env = [(false, eval e₁ env)] := by rfl) (hline : (apos.endLine == pos.line) = true := by rfl) :
    WE w d env (.Call (.Attribute o "append" apos) [e₁] [] pos) loc σ Q X :=
  fun A base outer s QQ EE C I hq hx => wpAny_Call_append hbase (by rw [hs]; rfl) hline (by rw [hs]; rfl) (h A base outer s _ EE C I (fun ro Γ₁ loc₁ σ₁ h₁ tk₁ ⟨ov, eΓ, eL, a, ea, ⟨l₀, hl₀⟩, q1⟩ x₁ i₁ => by
    subst eΓ eL ea
    have g1 := i₁.gam (ro, .ref a) (by simp)
    dsimp only at g1
    cases g1
    obtain ⟨vs₀, n₀, ho₀, _⟩ := i₁.objs _ _ hl₀
    refine ⟨a, vs₀, rfl, ⟨_, n₀, ho₀, rfl, rfl, rfl⟩, ?_⟩
    refine W.nil q1 A base outer _ _ EE C i₁ (fun rk Γ₂ loc₂ σ₂ h₂ tk₂ ⟨k, eΓ, eL, l, hl, hn, q2⟩ x₂ i₂ => ?_) fun c e loc₂ σ₂ h₂ tk₂ a b c f => hx _ _ _ _ _ _ a (x₁.trans b) c (f.older x₁.ex)
    subst eΓ eL
    have g2 := i₂.gam (rk, k) (by simp)
    obtain ⟨vs, n, hp, r⟩ := i₂.objs _ _ hl
    have hap := i₂.apart a ⟨a, _, hl, .head _⟩
    obtain ⟨m, F, hm⟩ := i₂.fr
    refine append_K F (i₂.news hp hap.1 hap.2.1) (.head fun p hp => (mem_rest.mp hp).2.2.2) (fun h' F' N' => ?_) (by rw [← Array.length_toList, r.length, sizeLine_eq]; exact hn)
    have kp := rest_keeps F' N' (fun p hp => .tail _ hp) i₂.stays
    obtain ⟨i, xx⟩ := i₂.change (o' := .list (l ++ [k])) hl (.head _) rfl kp (fr_ns F F') ⟨_, (N' _ (.head _)).1⟩ fun kt => ⟨_, _, (N' _ (.head _)).1, by
      rw [Array.toList_push]
      exact (r.mono kt).append (.cons (g2.mono kt) .nil)⟩
    exact hq _ [(_, .none)] _ _ h' _ ⟨_, rfl, rfl, q2⟩ ((x₁.trans x₂).trans xx) ((i.gamma (fun p hp => absurd hp List.not_mem_nil)).cons .none)) hx)
end
end Mine
end
section
open PySem PySem.W PyProof.Rows PySem.Spec PySem.Calls
set_option Elab.async false
set_option maxRecDepth 100000
set_option maxHeartbeats 8000000
set_option linter.unusedVariables false
namespace Mine
section
variable {w : World} {d : Nat} {base : Heap} {outer : List Env} {env : Env} {Γ : Gam} {loc : Loc} {σ : St} {h h' : Heap} {X : Str → St → Prop}

/-! dict displays -/
inductive KA : List (Value × Value) → List (Str × V) → Prop
  | nil : KA [] []
  | cons {k : Str} {t : Tok} {v : Value} {x : V} {vs : List (Value × Value)} {l : List (Str × V)} : KA vs l → KA ((.str k t, v) :: vs) ((k, x) :: l)
structure PItem where
  k : Str
  n : Nat
  p : Pos
  e : Expr
def pairsOf (pos : Pos) (env : Env) (l : List PItem) : List (Sem Value × Sem Value) := l.map fun i => (eval (.Constant (.str i.k) i.n i.p) env, do let x ← eval i.e env; standAt pos; pure x)
def WPs (w : World) (d : Nat) (env : Env) (l : List PItem) (loc : Loc) (σ : St) (Q : List (Str × V) → St → Prop) (X : Str → St → Prop) : Prop :=
  ∀ pos, W w d env [] (evalPairs (pairsOf pos env l)) loc σ (fun rvs Γ' loc' σ' => ∃ l', KA rvs l' ∧ Γ' = (rvs.map (·.2)).zip (l'.map (·.2)) ∧ loc' = loc ∧ Q l' σ') X
theorem WPs.nil {Q : List (Str × V) → St → Prop} (q : Q [] σ) : WPs w d env [] loc σ Q X := fun pos => W.pure ⟨[], .nil, rfl, rfl, q⟩
theorem WPs.cons {k : Str} {n : Nat} {p : Pos} {e : Expr} {l : List PItem} {Q : List (Str × V) → St → Prop} (h : WE w d env e loc σ (fun v σ₁ => WPs w d env l loc σ₁ (fun l' σ₂ => Q ((k, v) :: l') σ₂) X) X) : WPs w d env (⟨k, n, p, e⟩ :: l) loc σ Q X := by
  intro pos
  show W w d env [] (evalPairs ((eval (.Constant (.str k) n p) env, (do let x ← eval e env; standAt pos; pure x)) :: pairsOf pos env l)) _ _ _ _
  rw [evalPairs]
  refine W.bind ((show W w d env [] (mkText k) loc σ (fun rv Γ' loc' σ' => (∃ t, rv = .str k t) ∧ Γ' = [] ∧ loc' = loc ∧ σ' = σ) X from W.calm fun A base outer s QQ EE C I hq => wpAny_mkText (hq _ [] _ ⟨⟨_, rfl⟩, rfl, rfl, rfl⟩ fun _ q => nomatch q)).mono (fun rk Γ₁ loc₁ σ₁ q => ?_) fun _ _ x => x)
  obtain ⟨⟨t, rfl⟩, rfl, rfl, rfl⟩ := q
  refine W.bind (W.holding (W.bind ((W.nil h).mono (fun rv Γ₂ loc₂ σ₂ q => ?_) fun _ _ x => x)))
  obtain ⟨v, rfl, rfl, q⟩ := q
  refine W.bind (W.standAt (W.calm fun A base outer s QQ EE C I hq => wpAny_pure (hq rv [(rv, v)] s.toks ?_ fun p hp => I.gam p (by cases List.mem_singleton.mp hp; simp))))
  refine W.bind ((W.holding (W.nil (q pos))).mono (fun rvs Γ₃ loc₃ σ₃ q2 => ?_) fun _ _ x => x)
  obtain ⟨l', hk, rfl, rfl, q3⟩ := q2
  refine W.calm fun A base outer s QQ EE C I hq => wpAny_pure (hq _ ((rv, v) :: (rvs.map (·.2)).zip (l'.map (·.2))) s.toks ⟨(k, v) :: l', .cons hk, rfl, rfl, q3⟩ fun p hp => ?_)
  rcases List.mem_cons.mp hp with rfl | hp
  · exact I.gam (rv, v) (by simp)
  · exact I.gam p (List.mem_append_left _ hp)
theorem KA.rd : ∀ {rvs : List (Value × Value)} {l : List (Str × V)}, KA rvs l → (∀ p ∈ (rvs.map (·.2)).zip (l.map (·.2)), RV h p.1 p.2) → ∃ kvs, Carries (PySem.strKind PR w) rvs kvs ∧ RD h kvs l
  | _, _, .nil, _ => ⟨[], trivial, .nil⟩
  | _, _, @KA.cons k t v x vs l r, g => by
    obtain ⟨kvs, h1, h2⟩ := r.rd fun p hp => g p (by rw [List.map_cons, List.map_cons, List.zip_cons_cons]; exact .tail _ hp)
    exact ⟨(k, v) :: kvs, ⟨strKind_is _ _ _ _, rfl, h1⟩, .cons (g (v, x) (by rw [List.map_cons, List.map_cons, List.zip_cons_cons]; exact .head _)) h2⟩
theorem stored_nodup (kvs : List (Str × Value)) (k : Str) (v : Value) (nd : (kvs.map (·.1)).Nodup) : ((stored kvs k v).map (·.1)).Nodup := by
  unfold stored
  split
  · have : (kvs.map fun kv => if kv.1 = k then (kv.1, v) else kv).map (·.1) = kvs.map (·.1) := by
      rw [List.map_map]
      refine List.map_congr_left fun p _ => ?_
      show (if p.1 = k then (p.1, v) else p).1 = p.1
      split <;> rfl
    rw [this]; exact nd
  · rename_i q
    rw [List.map_append, List.nodup_append]
    refine ⟨nd, by simp, fun a ha b hb => ?_⟩
    intro e
    obtain ⟨p, hp, rfl⟩ := List.mem_map.mp ha
    rw [List.mem_singleton.mp hb] at e
    exact q (List.any_eq_true.mpr ⟨p, hp, by simpa using e⟩)
theorem RD.merge : ∀ {kvs : List (Str × Value)} {l : List (Str × V)} {acc : List (Str × Value)} {la : List (Str × V)}, RD h kvs l → RD h acc la → (acc.map (·.1)).Nodup → RD h (merged acc kvs) (l.foldl (fun x p => aset x p.1 p.2) la)
  | _, _, acc, la, .nil, a, nd => a
  | _, _, acc, la, @RD.cons _ k v x vs l r rr, a, nd => by
    have := rr.merge (a.put (k := k) nd r) (stored_nodup acc k v nd)
    simpa [merged] using this
/-- a dict display of written text keys -/
theorem WE.dict {keys : List (Option Expr)} {values : List Expr} {pos : Pos} {items : List PItem} {Q : V → St → Prop}
    (h : ∀ a, σ a = none → WPs w d env items loc (upd σ a (.dict [])) (fun l σ' => σ' a = some (.dict []) ∧ Q (.ref a) (upd σ' a (.dict (l.foldl (fun x p => aset x p.1 p.2) [])))) X)
    (hshape : (evalEachOpt keys env).zip ((evalEach values env).map fun v => do let x ← v; standAt pos; pure x) = (pairsOf pos env items).map fun p => (some p.1, p.2) := by rfl) (h0 : pairsOf pos env items ≠ [] := by intro h; cases h) (hlen : (pairsOf pos env items).length ≤ 15 := by decide) :
    WE w d env (.Dict keys values pos) loc σ Q X :=
  fun A base outer s QQ EE C I hq hx => wpAny_Dict_pairs (knd := PySem.strKind PR w) hshape h0 hlen (by
    obtain ⟨i, x, n⟩ := I.alloc (a := s.heap.objs.size) (o := .dict []) (h' := s.heap.push { cls := .type "dict", data := .dict #[] }) (fun b ob e => Heap.get?_push_of_some _ e) ⟨[], Heap.DictOf.new _, .nil, I.big C⟩ (fun b hb => by cases List.mem_singleton.mp hb; exact Heap.get?_none_of_le (Nat.le_refl _))
    refine h _ n pos A base outer _ _ EE C i (fun rvs Γ₁ loc₁ σ₁ h₁ tk₁ ⟨l, hk, eΓ, eL, ha, q⟩ x₁ i₁ => ?_) fun c e loc₂ σ₂ h₂ tk₂ a b c f => hx _ _ _ _ _ _ a (x.trans b) c (f.older x.ex)
    subst eΓ eL
    obtain ⟨kvs, hc, hr⟩ := hk.rd (w := w) (h := h₁) fun p hp => i₁.gam p (List.mem_append_left _ hp)
    obtain ⟨kv0, hd, hr0, lo⟩ := i₁.objs _ _ ha
    have e0 : kv0 = [] := by cases hr0; rfl
    subst e0
    refine ⟨kvs, hc, hd, fun h' hd' hs => ?_⟩
    obtain ⟨i2, x2⟩ := i₁.change1 (o' := .dict (l.foldl (fun x p => aset x p.1 p.2) [])) ha (.head _) rfl hs (by obtain ⟨o, _, _, e, _⟩ := hd'; exact ⟨o, e⟩) fun kt => ⟨_, hd', (hr.mono kt).merge .nil .nil, lo⟩
    exact hq _ [(_, .ref s.heap.objs.size)] _ _ h' _ ⟨_, rfl, rfl, q⟩ ((x.trans x₁).trans x2) ((i2.gamma (fun p hp => absurd hp List.not_mem_nil)).cons .ref))

/-! calls -/
/-- what a call of a value upon values does, from any frame -/
def CT (w : World) (d : Nat) (f : Value) (l : List V) (σ : St) (Q : V → St → Prop) (X : Str → St → Prop) : Prop :=
  ∀ env loc (rvs : List Value), rvs.length = l.length → W w d env (rvs.zip l) (call f rvs) loc σ (PV loc Q) X

theorem WE.attr {value : Expr} {name : Str} {pos : Pos} {Q : V → St → Prop} (h : WE w d env value loc σ (fun o σ₁ => ∃ a dx l v, o = .ref a ∧ WorldCls w ∧ AttrFree w name ∧ σ₁ a = some (.inst dx l) ∧ alook l name = some v ∧ Q v σ₁) X)
    (hb : attributeBase value name env (eval value env) = eval value env := by rfl) : WE w d env (.Attribute value name pos) loc σ Q X := by
  rw [WE, arm_eval_Attribute, hb]
  refine W.bind (h.mono (fun ro Γ₁ loc₁ σ₁ q => ?_) fun _ _ x => x)
  obtain ⟨o, rfl, rfl, a, dx, l, v, rfl, WC, hf, ha, hv, q⟩ := q
  refine W.bind (W.standAt (W.bind ((W.holding (W.attr (Q := fun v' σ' => v' = v ∧ σ' = σ₁) WC hf (by simp) ha hv ⟨rfl, rfl⟩)).mono (fun rv Γ₂ loc₂ σ₂ q2 => ?_) fun _ _ x => x)))
  obtain ⟨v', rfl, rfl, rfl, rfl⟩ := q2
  refine W.bind (W.letTemp (W.val v' (fun A base outer s QQ EE C I h => wpAny_pure (h rv s.toks (I.gam (rv, v') (by simp)))) q))

theorem any_plain {pos : Pos} : ∀ {es : List Expr}, (starEach es env).any (·.1) = false → (backTo pos (starEach es env)).any (·.1) = false := fun {es} h => by
  unfold backTo
  rw [List.any_map]
  exact h
/-- a call of a def or class of the text, by its name -/
theorem WE.callK {x : Str} {p pos : Pos} {e : Expr} {rest : List Expr} {f : Value} {Q : V → St → Prop} (hx : env.kindOf x = some .globalImplicit) (en : nsIn (hd.heap_39 w.params) mainGlobals x = some (some f)) (hk : keepIn (hd.heap_39 w.params) f = true)
    (h : WL w d env (e :: rest) loc σ (fun l σ₁ => CT w d f l σ₁ Q X) X) (hdd : (x == ("__debug__" : Str)) = false := by decide) (he : starEach (e :: rest) env = (false, eval e env) :: starEach rest env := by rfl) (hplain : (backTo pos (starEach rest env)).any (·.1) = false := by rfl)
    (hne : ∀ args kw, eval (.Call (.Name x p) args kw pos) env = (do callWith pos (← eval (.Name x p) env) [] (backTo pos (starEach args env)) (backToKw pos (keywordEach kw env))) := by intros; rfl) :
    WE w d env (.Call (.Name x p) (e :: rest) [] pos) loc σ Q X := by
  rw [WE, hne]
  intro A base outer s QQ EE C I hq hX
  have C' := C
  obtain ⟨cn, cs, L, a, ccd, cl, rfl, hkf⟩ := C'.shape
  obtain ⟨m, F, hm⟩ := I.fr
  obtain ⟨p, loose, mean, mg, mb, T⟩ := C.T
  refine wpAny_bind (nameX_K F C.K (topRead_of T) en ?_ hkf hx hdd)
  refine callWith_K C.K hk ?_ he hplain
  refine h pos A base outer s _ EE C I (fun rvs Γ₁ loc₁ σ₁ h₁ tk₁ ⟨l, hl, eΓ, eL, q⟩ x₁ i₁ => ⟨C.K.keeps i₁.stays, ?_⟩) hX
  subst eΓ eL
  refine q _ loc₁ rvs hl A base outer _ _ EE C (i₁.gamma fun p hp => i₁.gam p (List.mem_append_left _ hp)) (fun rv Γ₂ loc₂ σ₂ h₂ tk₂ ⟨v, eΓ, eL, q2⟩ x₂ i₂ => hq rv [(rv, v)] loc₂ σ₂ h₂ tk₂ ⟨v, rfl, eL, q2⟩ (x₁.trans x₂) (i₂.gamma fun p hp => i₂.gam p (by rw [eΓ]; simp at hp ⊢; exact .inl hp))) fun c e loc₂ σ₂ h₂ tk₂ a b c f => hX _ _ _ _ _ _ a (x₁.trans b) c (f.older x₁.ex)
/-- a call of a built-in, by its name -/
theorem WE.callB {x : Str} {p pos : Pos} {e : Expr} {rest : List Expr} {f : Value} {Q : V → St → Prop} (hx : env.kindOf x = some .globalImplicit) (en : nsIn (hd.heap_39 w.params) mainGlobals x = some none) (hv : bootBuiltins x = some f) (hn : x ≠ "__name__") (hf : keeperOf f = pure .machine)
    (h : WL w d env (e :: rest) loc σ (fun l σ₁ => CT w d f l σ₁ Q X) X) (hdd : (x == ("__debug__" : Str)) = false := by decide) (he : starEach (e :: rest) env = (false, eval e env) :: starEach rest env := by rfl) (hplain : (backTo pos (starEach rest env)).any (·.1) = false := by rfl)
    (hne : ∀ args kw, eval (.Call (.Name x p) args kw pos) env = (do callWith pos (← eval (.Name x p) env) [] (backTo pos (starEach args env)) (backToKw pos (keywordEach kw env))) := by intros; rfl) :
    WE w d env (.Call (.Name x p) (e :: rest) [] pos) loc σ Q X := by
  rw [WE, hne]
  intro A base outer s QQ EE C I hq hX
  have C' := C
  obtain ⟨cn, cs, L, a, ccd, cl, rfl, hkf⟩ := C'.shape
  obtain ⟨m, F, hm⟩ := I.fr
  obtain ⟨p, loose, mean, mg, mb, T⟩ := C.T
  refine wpAny_bind (nameX_B F C.K (topRead_of T) en hv hn ?_ hkf hx hdd)
  have hL := h pos
  rw [he] at hL ⊢
  refine callWith_of (P := fun _ => True) (by show ((false || (backTo pos (starEach rest _)).any (·.1)) || false) = false; rw [hplain]; rfl) (fun h _ => ⟨.machine, .inr (.inl rfl), Looks.of_pure hf⟩) ?_
  refine evalArgs_plain ?_
  refine hL A base outer s _ EE C I (fun rvs Γ₁ loc₁ σ₁ h₁ tk₁ ⟨l, hl, eΓ, eL, q⟩ x₁ i₁ => ⟨trivial, ?_⟩) hX
  subst eΓ eL
  refine q _ loc₁ rvs hl A base outer _ _ EE C (i₁.gamma fun p hp => i₁.gam p (List.mem_append_left _ hp)) (fun rv Γ₂ loc₂ σ₂ h₂ tk₂ ⟨v, eΓ, eL, q2⟩ x₂ i₂ => hq rv [(rv, v)] loc₂ σ₂ h₂ tk₂ ⟨v, rfl, eL, q2⟩ (x₁.trans x₂) (i₂.gamma fun p hp => i₂.gam p (by rw [eΓ]; simp at hp ⊢; exact .inl hp))) fun c e loc₂ σ₂ h₂ tk₂ a b c f => hX _ _ _ _ _ _ a (x₁.trans b) c (f.older x₁.ex)
end
end Mine
end
section
open PySem PySem.W PyProof.Rows PySem.Spec PySem.Calls
set_option Elab.async false
set_option maxRecDepth 100000
set_option maxHeartbeats 8000000
set_option linter.unusedVariables false
namespace Mine
section
variable {w : World} {d : Nat} {base : Heap} {outer : List Env} {env : Env} {Γ : Gam} {loc : Loc} {σ : St} {h h' : Heap} {X : Str → St → Prop}

/-! built-ins -/
theorem CT.val {f : Value} {l : List V} {Q : V → St → Prop} (v : V)
    (h : ∀ (A : Around) (base : Heap) (outer : List Env) (env : Env) (Γ : Gam) (loc : Loc) (s : Shared) (QQ : Value → Shared → Prop) (EE : Value → Shared → Prop) (rvs : List Value), RL s.heap rvs l → A.units + 40 * d + 100 < cLine → Inv w base outer env Γ loc σ s.heap →
      (∀ rv tk, RV s.heap rv v → QQ rv { s with toks := tk }) → wpAny (model PR w) A (call f rvs) QQ EE s) (q : Q v σ) : CT w d f l σ Q X :=
  fun env loc rvs hl => W.val v (fun A base outer s QQ EE C I hq => h A base outer env _ loc s QQ EE rvs (rl_of_zip hl I.gam) C.units I hq) q
theorem one {h : Heap} {rvs : List Value} {x : V} (r : RL h rvs [x]) : ∃ v, rvs = [v] ∧ RV h v x := by cases r with | cons a b => cases b; exact ⟨_, rfl, a⟩
theorem two {h : Heap} {rvs : List Value} {x y : V} (r : RL h rvs [x, y]) : ∃ v u, rvs = [v, u] ∧ RV h v x ∧ RV h u y := by cases r with | cons a b => cases b with | cons b c => cases c; exact ⟨_, _, rfl, a, b⟩
theorem three {h : Heap} {rvs : List Value} {x y z : V} (r : RL h rvs [x, y, z]) : ∃ v u t, rvs = [v, u, t] ∧ RV h v x ∧ RV h u y ∧ RV h t z := by cases r with | cons a b => cases b with | cons b c => cases c with | cons c e => cases e; exact ⟨_, _, _, rfl, a, b, c⟩
theorem CT.lenS {x : Str} {Q : V → St → Prop} (hx : x.length ≤ 16777216) (q : Q (.int x.length) σ) : CT w d (.builtin "len") [.str x] σ Q X :=
  CT.val (.int x.length) (fun A base outer env Γ loc s QQ EE rvs r u I h => by
    obtain ⟨v, rfl, rr⟩ := one r
    cases rr
    exact len_str (by omega) (h _ _ .int)) q
theorem CT.lenL {a : Addr} {l : List V} {Q : V → St → Prop} (ha : σ a = some (.list l)) (hl : l.length ≤ 16777216) (q : Q (.int l.length) σ) : CT w d (.builtin "len") [.ref a] σ Q X :=
  CT.val (.int l.length) (fun A base outer env Γ loc s QQ EE rvs r u I h => by
    obtain ⟨v, rfl, rr⟩ := one r
    cases rr
    obtain ⟨vs, n, e, r2⟩ := I.objs _ _ ha
    have e1 : vs.size = l.length := by rw [← Array.length_toList, r2.length]
    exact call_len_list (listOf_is e) (by omega) (e1 ▸ h _ _ .int)) q
theorem CT.abs {i : Int} {Q : V → St → Prop} (q : Q (.int (if i < 0 then -i else i)) σ) : CT w d (.builtin "abs") [.int i] σ Q X :=
  CT.val (.int (if i < 0 then -i else i)) (fun A base outer env Γ loc s QQ EE rvs r u I h => by
    obtain ⟨v, rfl, rr⟩ := one r
    cases rr
    exact call_abs_int fun _ _ => h _ _ .int) q
theorem CT.strI {i : Int} {Q : V → St → Prop} (hi : i.natAbs < 2 ^ 64) (q : Q (.str (Str.ofString (toString i))) σ) : CT w d (.type "str") [.int i] σ Q X :=
  CT.val (.str (Str.ofString (toString i))) (fun A base outer env Γ loc s QQ EE rvs r u I h => by
    obtain ⟨v, rfl, rr⟩ := one r
    cases rr
    refine P.str_of_int ?_ (h _ _ .str)
    by_cases z : i.natAbs = 0
    · rw [z]; decide
    · have := (Nat.log2_lt z (k := 64)).mpr hi
      omega) q
def isS : V → Bool | .str _ => true | _ => false
def isTp : V → Bool | .tup _ => true | _ => false
theorem CT.isStr {v : V} {Q : V → St → Prop} (p : Plain v) (hn : v ≠ .none) (q : Q (.bool (isS v)) σ) : CT w d (.builtin "isinstance") [v, .ty "str"] σ Q X :=
  CT.val (.bool (isS v)) (fun A base outer env Γ loc s QQ EE rvs r u I h => by
    obtain ⟨v1, v2, rfl, r1, r2⟩ := two r
    cases r2
    obtain ⟨dt, p⟩ := p
    cases p with
    | none => exact absurd rfl hn
    | int i => cases r1; exact IsiPair.int_str (h _ _ .bool)
    | str x => cases r1; exact IsiPair.str_str (h _ s.toks .bool)
    | pair a b => cases r1 with | tup t _ => obtain ⟨o, e, c, _⟩ := t; exact IsiPair.tuple_str e c (h _ _ .bool)) q
theorem CT.isTup {v : V} {Q : V → St → Prop} (p : Plain v) (hn : v ≠ .none) (q : Q (.bool (isTp v)) σ) : CT w d (.builtin "isinstance") [v, .ty "tuple"] σ Q X :=
  CT.val (.bool (isTp v)) (fun A base outer env Γ loc s QQ EE rvs r u I h => by
    obtain ⟨v1, v2, rfl, r1, r2⟩ := two r
    cases r2
    obtain ⟨dt, p⟩ := p
    cases p with
    | none => exact absurd rfl hn
    | int i => cases r1; exact IsiPair.int_tuple (h _ _ .bool)
    | str x => cases r1; exact IsiPair.str_tuple (h _ _ .bool)
    | pair a b => cases r1 with | tup t _ => obtain ⟨o, e, c, _⟩ := t; exact IsiPair.tuple_tuple e c (h _ s.toks .bool)) q
theorem CT.dictOf {a : Addr} {l : List (Str × V)} {Q : V → St → Prop} (ha : σ a = some (.dict l)) (hl : l.length ≤ 100000) (q : ∀ b, σ b = none → Q (.ref b) (upd σ b (.dict l))) : CT w d (.type "dict") [.ref a] σ Q X :=
  fun env loc rvs hl' => W.made (o := .dict l) (fun A base outer s QQ EE C I hq => by
    obtain ⟨v, rfl, rr⟩ := one (rl_of_zip hl' I.gam)
    cases rr
    obtain ⟨kvs, hd, r, lo⟩ := I.objs _ _ ha
    refine kt_call_dict lo hd (by rw [r.length, sizeLine_eq]; omega) fun h' hd' hs => ?_
    have kp : ∀ b ob, s.heap.get? b = some ob → h'.get? b = some ob := fun b ob e => (hs.2 b (Nat.ne_of_lt (Heap.lt_size e))).trans (Heap.get?_push_of_some _ e)
    exact hq s.heap.objs.size h' s.toks kp (fun b hb => by cases List.mem_singleton.mp hb; exact Heap.get?_none_of_le (Nat.le_refl _)) ⟨kvs, hd', r.mono (tupK_of kp), I.big C⟩) q

theorem WE.tyName {x : Str} {pos : Pos} {n : String} {Q : V → St → Prop} (hx : env.kindOf x = some .globalImplicit) (en : nsIn (hd.heap_39 w.params) mainGlobals x = some none) (hv : bootBuiltins x = some (.type n)) (hn : x ≠ "__name__") (q : Q (.ty n) σ) (hdd : (x == ("__debug__" : Str)) = false := by decide) : WE w d env (.Name x pos) loc σ Q X :=
  W.val (.ty n) (fun A base outer s QQ EE C I h => by
    obtain ⟨cn, cs, L, a, ccd, cl, rfl, hk⟩ := C.shape
    obtain ⟨m, F, hm⟩ := I.fr
    obtain ⟨p, loose, mean, mg, mb, T⟩ := C.T
    exact nameX_B F C.K (topRead_of T) en hv hn (h _ s.toks .ty) hk hx hdd) q
end
end Mine
end
section
open PySem PySem.W PyProof.Rows PySem.Spec PySem.Calls
set_option Elab.async false
set_option maxRecDepth 100000
set_option maxHeartbeats 8000000
set_option linter.unusedVariables false
namespace Mine

/-! statements -/
inductive Fl where
  | next
  | ret (v : V)
def PU (Q : Loc → St → Prop) : Unit → Gam → Loc → St → Prop := fun _ Γ' loc' σ' => Γ' = [] ∧ Q loc' σ'
def PX (N : Loc → St → Prop) (R : V → St → Prop) : Flow → Gam → Loc → St → Prop := fun fl Γ' loc' σ' => match fl with
  | .next => Γ' = [] ∧ N loc' σ'
  | .ret rv => ∃ v, Γ' = [(rv, v)] ∧ R v σ'
  | _ => False
def WX (w : World) (d : Nat) (env : Env) (st : Stmt) (loc : Loc) (σ : St) (N : Loc → St → Prop) (R : V → St → Prop) (X : Str → St → Prop) : Prop := W w d env [] (exec st env) loc σ (PX N R) X
def WS (w : World) (d : Nat) (env : Env) (st : List Stmt) (loc : Loc) (σ : St) (N : Loc → St → Prop) (R : V → St → Prop) (X : Str → St → Prop) : Prop := W w d env [] (execs st env) loc σ (PX N R) X
def WA (w : World) (d : Nat) (env : Env) (t : Expr) (v : V) (loc : Loc) (σ : St) (Q : Loc → St → Prop) (X : Str → St → Prop) : Prop := ∀ Γ rv, (rv, v) ∈ Γ → W w d env Γ (assign t env rv) loc σ (PU Q) X
def WAs (w : World) (d : Nat) (env : Env) (ts : List Expr) (vs : List V) (loc : Loc) (σ : St) (Q : Loc → St → Prop) (X : Str → St → Prop) : Prop := ∀ Γ rvs, rvs.length = vs.length → (∀ p ∈ rvs.zip vs, p ∈ Γ) → W w d env Γ (assignInOrder ((assignEach ts env).map (·.2)) rvs) loc σ (PU Q) X

section
variable {w : World} {d : Nat} {base : Heap} {outer : List Env} {env : Env} {Γ : Gam} {loc : Loc} {σ : St} {h h' : Heap} {X : Str → St → Prop} {N : Loc → St → Prop} {R : V → St → Prop}

theorem WS.nil (q : N loc σ) : WS w d env [] loc σ N R X := W.pure ⟨rfl, q⟩
theorem WS.cons {st : Stmt} {rest : List Stmt} (h : WX w d env st loc σ (fun loc₁ σ₁ => WS w d env rest loc₁ σ₁ N R X) R X) : WS w d env (st :: rest) loc σ N R X := by
  unfold WS
  rw [show execs (st :: rest) env = (do match ← exec st env with | .next => execs rest env | f => pure f) from rfl]
  refine W.bind (h.mono (fun fl Γ₁ loc₁ σ₁ q => ?_) fun _ _ x => x)
  cases fl with
  | next => obtain ⟨rfl, q⟩ := q; exact W.nil q
  | ret rv =>
    obtain ⟨v, rfl, q⟩ := q
    exact W.calm fun A base outer s QQ EE C I hq => wpAny_pure (hq _ [(rv, v)] s.toks ⟨v, rfl, q⟩ fun p hp => I.gam p (by cases List.mem_singleton.mp hp; simp))
  | brk => exact q.elim
  | cont => exact q.elim
theorem WS.drop {st : List Stmt} {σ' : St} (h : WS w d env st loc σ' N R X) (s : ∀ a o, σ' a = some o → σ a = some o) : WS w d env st loc σ N R X := W.drop h s
/-- fewer names may be known -/
theorem WS.less {st : List Stmt} {loc' : Loc} (h : WS w d env st loc' σ N R X) (s : ∀ x v, alook loc' x = some v → alook loc x = some v) : WS w d env st loc σ N R X := W.start h (fun _ q => q) s
theorem WS.mono {st : List Stmt} {N' : Loc → St → Prop} {R' : V → St → Prop} (h : WS w d env st loc σ N R X) (hN : ∀ l s, N l s → N' l s) (hR : ∀ v s, R v s → R' v s) : WS w d env st loc σ N' R' X :=
  W.mono h (fun fl Γ' loc' σ' q => by
    cases fl with
    | next => exact ⟨q.1, hN _ _ q.2⟩
    | ret rv => obtain ⟨v, a, b⟩ := q; exact ⟨v, a, hR _ _ b⟩
    | brk => exact q
    | cont => exact q) fun _ _ x => x
theorem WX.pass {pos : Pos} (q : N loc σ) : WX w d env (.Pass pos) loc σ N R X := W.bind (W.standAt (W.pure ⟨rfl, q⟩))
theorem WX.ret {e : Expr} {pos : Pos} (h : WE w d env e loc σ R X) : WX w d env (.Return (some e) pos) loc σ N R X := by
  show W w d env [] (do PySem.standAt pos; return Flow.ret (← eval e env)) _ _ _ _
  refine W.bind (W.standAt (W.bind (h.mono (fun rv Γ₁ loc₁ σ₁ q => ?_) fun _ _ x => x)))
  obtain ⟨v, rfl, rfl, q⟩ := q
  exact W.calm fun A base outer s QQ EE C I hq => wpAny_pure (hq _ [(rv, v)] s.toks ⟨v, rfl, q⟩ fun p hp => I.gam p (by cases List.mem_singleton.mp hp; simp))
theorem WX.if {t : Expr} {body orelse : List Stmt} {pos : Pos} (h : WT w d env t loc σ (fun b σ₁ => if b = true then WS w d env body loc σ₁ N R X else WS w d env orelse loc σ₁ N R X) X) : WX w d env (.If t body orelse pos) loc σ N R X := by
  show W w d env [] (do standAt pos; if ← PySem.isTrue t env (eval t env) then execs body env else execs orelse env) _ _ _ _
  refine W.bind (W.standAt (W.bind (h.mono (fun b Γ₁ loc₁ σ₁ q => ?_) fun _ _ x => x)))
  obtain ⟨rfl, rfl, q⟩ := q
  cases b with
  | true => simp only [if_true] at q ⊢; exact q
  | false => simp only [Bool.false_eq_true, if_false] at q ⊢; exact q

/-! storing a name -/
theorem Inv.setL {x : Str} {rv : Value} {v : V} {m : Str → Option Value} (I : Inv w base outer env Γ loc σ h) (hn : h.Ns env.locals m) (hn' : h'.Ns env.locals (fun y => if y = x then some rv else m y)) (hs : Heap.SameBut env.locals h h') (r : RV h rv v) :
    Inv w base outer env Γ ((x, v) :: loc) σ h' ∧ Ext env outer σ σ h h' := by
  have kt : TupK h h' := fun b vs t => by
    obtain ⟨n1, n2⟩ := I.tup_off t
    obtain ⟨ob, e, z⟩ := t
    exact ⟨ob, (hs.2 b n2).trans e, z⟩
  refine ⟨⟨fun b ob e => (hs.2 b (fun q => ?_)).trans (I.stays b ob e), frames_on I.frames fun b hb ob e => ⟨ob, (hs.2 b (fun q => I.off (q ▸ hb))).trans e, rfl⟩, I.above, I.off, ?_, fun b ob e => (I.objs b ob e).mono (fun c hc oc ec => (hs.2 c (I.apart c ⟨b, ob, e, hc⟩).2.1).trans ec) kt, I.sep, I.apart, fun p hp => (I.gam p hp).mono kt⟩,
    ⟨fun b ob e n1 _ => ⟨ob.slots, (hs.2 b n1).trans e, fun _ => rfl⟩, fun b q => .inl q, fun b ob e => ?_⟩⟩
  · have := Heap.lt_size e; rw [q] at this; exact absurd (Nat.lt_of_lt_of_le this I.above) (Nat.lt_irrefl _)
  · obtain ⟨m', hn2, hm⟩ := I.ns
    have em : m' = m := by
      obtain ⟨o, es, ep, h1, h2, _, h3⟩ := hn2
      obtain ⟨o', es', ep', g1, g2, _, g3⟩ := hn
      rw [h1] at g1; cases g1
      rw [h2] at g2; cases g2
      funext x
      rw [← h3, ← g3]
    subst em
    refine ⟨_, hn', fun y u hy => ?_⟩
    unfold alook at hy
    by_cases q : y = x
    · rw [if_pos q] at hy; cases hy
      exact ⟨rv, by rw [if_pos q], r.mono kt⟩
    · rw [if_neg q] at hy
      obtain ⟨rv', h1, h2⟩ := hm y u hy
      exact ⟨rv', by rw [if_neg q]; exact h1, h2.mono kt⟩
  · by_cases q : b = env.locals
    · obtain ⟨o2, _, _, e2, _⟩ := hn'
      rw [q]; exact ⟨o2, e2⟩
    · exact ⟨ob, (hs.2 b q).trans e⟩
theorem W.storeL {x : Str} {rv : Value} {v : V} {Q : Unit → Gam → Loc → St → Prop} (hx : env.kindOf x = some .local) (hv : (rv, v) ∈ Γ) (q : Q () [] ((x, v) :: loc) σ) : W w d env Γ (storeName env x rv) loc σ Q X :=
  fun A base outer s QQ EE C I hq _ => by
    have C' := C
    obtain ⟨cn, cs, L, a, ccd, cl, rfl, hk⟩ := C'.shape
    obtain ⟨m, hn, hm⟩ := I.ns
    refine wpAny_storeName_local hx hn (fun h' hn' hs => ?_) (by show (cs.kind == .class || (cs.kind == .module && L != mainGlobals)) = false; rw [hk]; rfl)
    obtain ⟨i, xx⟩ := I.setL hn hn' hs (I.gam _ hv)
    exact hq () [] _ σ h' _ q xx i
theorem W.storeC {x : Str} {c : Addr} {rv : Value} {v : V} {v₀ : Option V} {Q : Unit → Gam → Loc → St → Prop} (hx : env.kindOf x = some .cell) (hc : env.cells.lookup x = some c) (hσ : σ c = some (.cell v₀)) (hv : (rv, v) ∈ Γ) (q : Q () [] loc (upd σ c (.cell (some v)))) : W w d env Γ (storeName env x rv) loc σ Q X :=
  fun A base outer s QQ EE C I hq _ => by
    have C' := C
    obtain ⟨cn, cs, L, a, ccd, cl, rfl, hk⟩ := C'.shape
    have hcell : ∃ u, s.heap.IsCell c u := by
      have r := I.objs _ _ hσ
      cases v₀ with
      | none => obtain ⟨o, e, hd⟩ := r; exact ⟨_, o, e, hd⟩
      | some z => obtain ⟨o, rz, e, hd, _⟩ := r; exact ⟨_, o, e, hd⟩
    obtain ⟨u, hcell⟩ := hcell
    refine wpAny_storeName_cell hk hx hc hcell fun h' hc' hs => ?_
    obtain ⟨o, e, hd⟩ := hc'
    obtain ⟨i, xx⟩ := I.change1 (o' := .cell (some v)) hσ (.head _) rfl hs ⟨o, e⟩ fun kt => ⟨o, rv, e, hd, (I.gam _ hv).mono kt⟩
    exact hq () [] _ _ h' _ q xx i
theorem bindW {x : Str} {rv : Value} {Q : Loc → St → Prop} (h : W w d env Γ (storeName env x rv) loc σ (PU Q) X) : W w d env Γ (bindName env x rv) loc σ (PU Q) X := by
  show W w d env Γ (do holding [rv] point; storeName env x rv; point) _ _ _ _
  refine W.bind (W.holding (W.point (W.bind (h.mono (fun _ Γ₁ loc₁ σ₁ q => ?_) fun _ _ x => x))))
  obtain ⟨rfl, q⟩ := q
  exact W.point ⟨rfl, q⟩
theorem WA.name {x : Str} {pos : Pos} {v : V} {Q : Loc → St → Prop} (hx : env.kindOf x = some .local) (q : Q ((x, v) :: loc) σ) : WA w d env (.Name x pos) v loc σ Q X := fun Γ rv hv => by
  show W w d env Γ (do standAt pos; bindName env x rv) _ _ _ _
  exact W.bind (W.standAt (bindW (W.storeL hx hv ⟨rfl, q⟩)))
theorem WA.nameC {x : Str} {pos : Pos} {c : Addr} {v : V} {v₀ : Option V} {Q : Loc → St → Prop} (hx : env.kindOf x = some .cell) (hc : env.cells.lookup x = some c) (hσ : σ c = some (.cell v₀)) (q : Q loc (upd σ c (.cell (some v)))) : WA w d env (.Name x pos) v loc σ Q X := fun Γ rv hv => by
  show W w d env Γ (do standAt pos; bindName env x rv) _ _ _ _
  exact W.bind (W.standAt (bindW (W.storeC hx hc hσ hv ⟨rfl, q⟩)))
theorem WA.attr {o : Expr} {name : Str} {pos : Pos} {v : V} {Q : Loc → St → Prop} (h : WE w d env o loc σ (fun ov σ₁ => ∃ a dx l, ov = .ref a ∧ WorldCls w ∧ AttrFree w name ∧ σ₁ a = some (.inst dx l) ∧ l.length ≤ 100 ∧ Q loc (upd σ₁ a (.inst dx (aset l name v)))) X) : WA w d env (.Attribute o name pos) v loc σ Q X := fun Γ rv hv => by
  show W w d env Γ (do let ov ← holding [rv] (eval o env); standAt pos.atName; holding [rv, ov] (setAttr ov name rv); release [rv, ov] []) _ _ _ _
  refine W.bind (W.holding ((W.nil h).mono (fun ro Γ₁ loc₁ σ₁ q => ?_) fun _ _ x => x))
  obtain ⟨ov, rfl, rfl, a, dx, l, rfl, WC, hf, ha, hl, q⟩ := q
  exact W.bind (W.standAt (W.bind (W.holding (W.setAttr WC hf (by simp) (by simp [hv]) ha hl (W.release ⟨rfl, q⟩)))))
theorem WA.sub {o i : Expr} {pos : Pos} {v : V} {Q : Loc → St → Prop}
    (h : WE w d env o loc σ (fun ov σ₁ => WE w d env i loc σ₁ (fun iv σ₂ =>
      (∃ a l k, ov = .ref a ∧ iv = .str k ∧ σ₂ a = some (.dict l) ∧ l.length ≤ 100000 ∧ Q loc (upd σ₂ a (.dict (aset l k v)))) ∨
      (∃ a l k, ov = .ref a ∧ iv = .int k ∧ σ₂ a = some (.list l) ∧ 0 ≤ k ∧ k < (l.length : Int) ∧ k < 2 ^ 63 ∧ Q loc (upd σ₂ a (.list (l.set k.toNat v))))) X) X) : WA w d env (.Subscript o i pos) v loc σ Q X := fun Γ rv hv => by
  rw [arm_assign_Subscript]
  refine W.bind (W.holding ((W.nil h).mono (fun ro Γ₁ loc₁ σ₁ q => ?_) fun _ _ x => x))
  obtain ⟨ov, rfl, rfl, q⟩ := q
  refine W.bind (W.holding ((W.nil q).mono (fun ri Γ₂ loc₂ σ₂ q => ?_) fun _ _ x => x))
  obtain ⟨iv, rfl, rfl, q⟩ := q
  rcases q with ⟨a, l, k, rfl, rfl, ha, hl, q⟩ | ⟨a, l, k, rfl, rfl, ha, h0, h1, h2, q⟩
  · exact W.bind (W.standAt (W.bind (W.holding (W.setDict ha (by simp) (by simp) (by simp [hv]) hl (W.release ⟨rfl, q⟩)))))
  · exact W.bind (W.standAt (W.bind (W.holding (W.setList ha (by simp) (by simp) (by simp [hv]) h0 h1 h2 (W.release ⟨rfl, q⟩)))))

theorem WAs.nil {Q : Loc → St → Prop} (q : Q loc σ) : WAs w d env [] [] loc σ Q X := fun Γ rvs hl hm => by
  cases rvs with
  | nil => exact W.pure ⟨rfl, q⟩
  | cons a b => cases hl
theorem WAs.cons {t : Expr} {ts : List Expr} {v : V} {vs : List V} {Q : Loc → St → Prop} (h : WA w d env t v loc σ (fun loc₁ σ₁ => WAs w d env ts vs loc₁ σ₁ Q X) X) (he : assignEach (t :: ts) env = (false, assign t env) :: assignEach ts env := by rfl) : WAs w d env (t :: ts) (v :: vs) loc σ Q X := fun Γ rvs hl hm => by
  cases rvs with
  | nil => cases hl
  | cons r rs =>
    rw [he]
    show W w d env Γ (do holding rs (assign t env r); assignInOrder ((assignEach ts env).map (·.2)) rs) _ _ _ _
    refine W.bind (W.holding ((h Γ r (hm _ (.head _))).mono (fun _ Γ₁ loc₁ σ₁ q => ?_) fun _ _ x => x))
    obtain ⟨rfl, q⟩ := q
    exact q _ rs (by simpa using hl) fun p hp => hm p (.tail _ hp)
theorem RL.zip_mem {Γ : Gam} {rvs : List Value} {l : List V} (r : RL h rvs l) : ∀ p ∈ rvs.zip l, p ∈ rvs.zip l ++ Γ := fun p hp => List.mem_append_left _ hp
theorem W.unpack {t : Value} {l : List V} {Q : List Value → Gam → Loc → St → Prop} (ht : (t, V.tup l) ∈ Γ) (q : ∀ rvs, rvs.length = l.length → Q rvs (rvs.zip l) loc σ) : W w d env Γ (unpackItems t l.length none) loc σ Q X :=
  W.grow fun A base outer s QQ EE C I hq => by
    have g := I.gam _ ht
    dsimp only at g
    cases g with
    | @tup a vs _ htt r =>
      have e : l.length = vs.size := by rw [← r.length]; simp
      rw [e]
      refine PyProof.Rows.unpackItems_tuple C.handled htt fun h' hs => ?_
      have kp : ∀ b ob, s.heap.get? b = some ob → h'.get? b = some ob := fun b ob e => hs b ob (Nat.ne_of_lt (Heap.lt_size e)) e
      exact hq vs.toList _ h' s.toks (q _ r.length) kp (zip_of_rl (r.mono (tupK_of kp)))
theorem WA.tup {ts : List Expr} {k : Nat} {pos : Pos} {l : List V} {Q : Loc → St → Prop} (hn : (assignEach ts env).length = l.length) (hstar : (assignEach ts env).findIdx? (·.1) = none) (h : WAs w d env ts l loc σ Q X) : WA w d env (.Tuple ts k pos) (.tup l) loc σ Q X := fun Γ rv hv => by
  show W w d env Γ (do standAt pos; unpack rv (assignEach ts env)) _ _ _ _
  refine W.bind (W.standAt ?_)
  unfold unpack
  rw [hn, hstar]
  exact W.bind (W.holding (W.unpack (by simp [hv]) fun rvs hl => h _ rvs hl fun p hp => List.mem_append_left _ hp))

theorem WX.assign {t value : Expr} {pos : Pos} (h : WE w d env value loc σ (fun v σ₁ => WA w d env t v loc σ₁ N X) X) (hs : swapsWithSole [t] value pos.line env = pure false := by rfl) (hw : swappedStores [t] value env = pure none := by rfl) (he : (assignEach [t] env).map (·.2) = [assign t env] := by rfl) :
    WX w d env (.Assign [t] value pos) loc σ N R X := by
  unfold WX
  rw [exec_Assign]
  refine W.bind (W.standAt ?_)
  rw [hs]
  refine W.bind (W.pure ?_)
  rw [if_neg (by decide)]
  refine W.bind (h.mono (fun rv Γ₁ loc₁ σ₁ q => ?_) fun _ _ x => x)
  obtain ⟨v, rfl, rfl, q⟩ := q
  rw [hw]
  refine W.bind (W.pure ?_)
  show W w d env _ (do assignAll rv ((assignEach [t] env).map (·.2)); Pure.pure Flow.next) _ _ _ _
  rw [he]
  refine W.bind ((q _ rv (by simp)).mono (fun _ Γ₂ loc₂ σ₂ q => ?_) fun _ _ x => x)
  obtain ⟨rfl, q⟩ := q
  exact W.pure ⟨rfl, q⟩
/-- names on one line: the last is stored first -/
theorem storesW : ∀ {ns : List Str} {vs : List V} {rvs : List Value} {loc : Loc} {Γ : Gam} {Q : Loc → St → Prop}, (∀ n ∈ ns, env.kindOf n = some .local) → rvs.length = vs.length → ns.length = vs.length → (∀ p ∈ rvs.zip vs, p ∈ Γ) → Q (((ns.zip vs).reverse) ++ loc) σ → W w d env Γ (assignInOrder (ns.map fun n => PySem.bindName env n) rvs) loc σ (PU Q) X
  | [], [], [], _, _, _, _, _, _, _, q => W.pure ⟨rfl, q⟩
  | n :: ns, v :: vs, r :: rs, loc, Γ, Q, hk, h1, h2, hm, q => by
    show W w d env Γ (do PySem.holding rs (PySem.bindName env n r); assignInOrder (ns.map fun n => PySem.bindName env n) rs) _ _ _ _
    refine W.bind (W.holding ((bindW (W.storeL (hk n (.head _)) (hm _ (.head _)) (Q := PU fun loc' σ' => (n, v) :: loc = loc' ∧ σ = σ') ⟨rfl, rfl, rfl⟩)).mono (fun _ Γ₁ loc₁ σ₁ q1 => ?_) fun _ _ x => x))
    obtain ⟨rfl, rfl, rfl⟩ := q1
    refine storesW (fun m hm' => hk m (.tail _ hm')) (by simpa using h1) (by simpa using h2) (fun p hp => hm p (.tail _ hp)) ?_
    rw [List.zip_cons_cons, List.reverse_cons, List.append_assoc] at q
    exact q
  | [], [], _ :: _, _, _, _, _, h1, _, _, _ => by cases h1
  | [], _ :: _, _, _, _, _, _, _, h2, _, _ => by cases h2
  | _ :: _, [], _, _, _, _, _, _, h2, _, _ => by cases h2
  | _ :: _, _ :: _, [], _, _, _, _, h1, _, _, _ => by cases h1
theorem WX.swap {elts : List Expr} {k : Nat} {tpos pos : Pos} {value : Expr} {names : List Str} (hw : swappedStores [.Tuple elts k tpos] value env = pure (some names)) (hk : ∀ n ∈ names, env.kindOf n = some .local)
    (h : WE w d env value loc σ (fun v σ₁ => ∃ l, v = .tup l ∧ l.length = names.length ∧ N ((names.reverse.zip l.reverse).reverse ++ loc) σ₁) X) (hs : swapsWithSole [.Tuple elts k tpos] value pos.line env = pure false := by rfl) :
    WX w d env (.Assign [.Tuple elts k tpos] value pos) loc σ N R X := by
  unfold WX
  rw [exec_Assign]
  refine W.bind (W.standAt ?_)
  rw [hs]
  refine W.bind (W.pure ?_)
  rw [if_neg (by decide)]
  refine W.bind (h.mono (fun rv Γ₁ loc₁ σ₁ q => ?_) fun _ _ x => x)
  obtain ⟨v, rfl, rfl, l, rfl, hl, q⟩ := q
  rw [hw]
  refine W.bind (W.pure ?_)
  show W w d env _ (do PySem.rule "assign.swapped-stores"; let items ← unpackItems rv names.length none; assignInOrder (names.reverse.map fun n => PySem.bindName env n) items.reverse; Pure.pure Flow.next) _ _ _ _
  refine W.bind (show W w d env _ (PySem.rule _) _ _ _ _ from W.calm fun A base outer s QQ EE C I hq => wpAny_rule (hq () [] s.toks ?_ fun _ q => nomatch q))
  rw [← hl]
  refine W.bind (W.unpack (by simp) fun rvs hr => ?_)
  refine W.bind ((storesW (vs := l.reverse) (Q := N) (fun n hn => hk n (by simpa using hn)) (by simp [hr]) (by simp [hl]) (fun p hp => ?_) q).mono (fun _ Γ₂ loc₂ σ₂ q => ?_) fun _ _ x => x)
  · refine List.mem_append_left _ ?_
    rw [List.zip_eq_zipWith, ← List.reverse_zipWith hr] at hp
    rw [List.zip_eq_zipWith]
    simpa using hp
  · obtain ⟨rfl, q⟩ := q
    exact W.pure ⟨rfl, q⟩
end
end Mine
end
section
open PySem PySem.W PyProof.Rows PySem.Spec PySem.Calls
set_option Elab.async false
set_option maxRecDepth 100000
set_option maxHeartbeats 8000000
set_option linter.unusedVariables false
namespace Mine
section
variable {w : World} {d : Nat} {base : Heap} {outer : List Env} {env : Env} {Γ : Gam} {loc : Loc} {σ : St} {h h' : Heap} {X : Str → St → Prop} {N : Loc → St → Prop} {R : V → St → Prop}

def Weak (l l' : Loc) : Prop := ∀ x v, alook l x = some v → alook l' x = some v
def Le (σ σ' : St) : Prop := ∀ a o, σ a = some o → σ' a = some o
theorem Weak.refl {l : Loc} : Weak l l := fun _ _ e => e
theorem Weak.nil {l : Loc} : Weak [] l := fun _ _ e => nomatch e
theorem Weak.cons {l r : Loc} {k : Str} {v : V} (e : alook l k = some v) (h : Weak r l) : Weak ((k, v) :: r) l := fun x u hx => by
  unfold alook at hx
  split at hx
  · rename_i q; cases hx; rw [q]; exact e
  · exact h x u hx
theorem Le.refl {σ : St} : Le σ σ := fun _ _ e => e
theorem Inv.less {loc' : Loc} {σ' : St} (I : Inv w base outer env Γ loc σ h) (hl : Weak loc' loc) (hs : Le σ' σ) : Inv w base outer env Γ loc' σ' h :=
  have I' : Inv w base outer env Γ loc' σ h := ⟨I.stays, I.frames, I.above, I.off, (by obtain ⟨m, hn, hm⟩ := I.ns; exact ⟨m, hn, fun x v e => hm x v (hl x v e)⟩), I.objs, I.sep, I.apart, I.gam⟩
  I'.drop hs
theorem Ext.less {σ₁ σ' : St} (x : Ext env outer σ σ₁ h h') (hs : Le σ' σ₁) : Ext env outer σ σ' h h' := ⟨x.keep, fun b ⟨a, o, e, hb⟩ => x.new b ⟨a, o, hs a o e, hb⟩, x.ex⟩
theorem W.aug {op : Operator} {ra rb : Value} {a b v : V} {Q : V → St → Prop} (ha : (ra, a) ∈ Γ) (hb : (rb, b) ∈ Γ) (ho : AugOk op a b v) (q : Q v σ) : W w d env Γ (inplaceOp op ra rb) loc σ (PV loc Q) X :=
  W.val v (fun A base outer s QQ EE C I h => ho w A s QQ EE ra rb (I.gam _ ha) (I.gam _ hb) h) q
theorem WX.aug {x : Str} {npos pos : Pos} {op : Operator} {value : Expr} {old : V} (hx : env.kindOf x = some .local) (ho : alook loc x = some old) (h : WE w d env value loc σ (fun v σ₁ => ∃ r, AugOk op old v r ∧ N ((x, r) :: loc) σ₁) X) :
    WX w d env (.AugAssign (.Name x npos) op value pos) loc σ N R X := by
  show W w d env [] (do PySem.standAt npos; let old ← loadName env x; let v ← PySem.holding [old] (eval value env); PySem.standAt pos; let new ← PySem.operate [old, v] (inplaceOp op old v); PySem.standAt npos; bindName env x new; Pure.pure Flow.next) _ _ _ _
  refine W.bind (W.standAt (W.bind ((loadL (Q := fun v σ' => v = old ∧ σ' = σ) hx ho ⟨rfl, rfl⟩).mono (fun ro Γ₁ loc₁ σ₁ q => ?_) fun _ _ x => x)))
  obtain ⟨v, rfl, rfl, rfl, rfl⟩ := q
  refine W.bind (W.holding ((W.nil h).mono (fun rv Γ₂ loc₂ σ₂ q => ?_) fun _ _ x => x))
  obtain ⟨u, rfl, rfl, r, hr, q⟩ := q
  refine W.bind (W.standAt (W.bind ((W.operate (W.aug (Q := fun v' σ' => v' = r ∧ σ' = σ₂) (by simp) (by simp) hr ⟨rfl, rfl⟩)).mono (fun rn Γ₃ loc₃ σ₃ q2 => ?_) fun _ _ x => x)))
  obtain ⟨v', rfl, rfl, rfl, rfl⟩ := q2
  refine W.bind (W.standAt (W.bind ((bindW (W.storeL (Q := PU N) hx (by simp) ⟨rfl, q⟩)).mono (fun _ Γ₄ loc₄ σ₄ q => ?_) fun _ _ x => x)))
  obtain ⟨rfl, q⟩ := q
  exact W.pure ⟨rfl, q⟩
theorem WX.augA {o : Expr} {name : Str} {tpos pos : Pos} {op : Operator} {value : Expr}
    (h : WE w d env o loc σ (fun ov σ₁ => ∃ a dx l old, ov = .ref a ∧ WorldCls w ∧ AttrFree w name ∧ σ₁ a = some (.inst dx l) ∧ alook l name = some old ∧ WE w d env value loc σ₁ (fun v σ₂ => ∃ l₂ r, AugOk op old v r ∧ σ₂ a = some (.inst dx l₂) ∧ l₂.length ≤ 100 ∧ N loc (upd σ₂ a (.inst dx (aset l₂ name r)))) X) X) :
    WX w d env (.AugAssign (.Attribute o name tpos) op value pos) loc σ N R X := by
  show W w d env [] (do PySem.standAt pos; let ov ← eval o env; let new ← PySem.holding [ov] (do PySem.standAt tpos.atName; let old ← getAttr ov name true; let v ← PySem.holding [old] (eval value env); PySem.standAt pos; PySem.operate [old, v] (inplaceOp op old v)); PySem.standAt tpos.atName; PySem.holding [new, ov] (PySem.setAttr ov name new); PySem.release [new, ov] []; Pure.pure Flow.next) _ _ _ _
  refine W.bind (W.standAt (W.bind (h.mono (fun ro Γ₁ loc₁ σ₁ q => ?_) fun _ _ x => x)))
  obtain ⟨ov, rfl, rfl, a, dx, l, old, rfl, WC, hf, ha, ho, q⟩ := q
  refine W.bind ((show W w d env _ _ loc₁ σ₁ (PV loc₁ fun r σ₂ => ∃ l₂, σ₂ a = some (.inst dx l₂) ∧ l₂.length ≤ 100 ∧ N loc₁ (upd σ₂ a (.inst dx (aset l₂ name r)))) X from ?_).mono (fun rn Γ₃ loc₃ σ₃ q2 => ?_) fun _ _ x => x)
  · refine W.holding (W.bind (W.standAt (W.bind ((W.attr (Q := fun v σ' => v = old ∧ σ' = σ₁) WC hf (by simp) ha ho ⟨rfl, rfl⟩).mono (fun rold Γ₄ loc₄ σ₄ q3 => ?_) fun _ _ x => x))))
    obtain ⟨v, rfl, rfl, rfl, rfl⟩ := q3
    refine W.bind (W.holding ((W.nil q).mono (fun rv Γ₂ loc₂ σ₂ q => ?_) fun _ _ x => x))
    obtain ⟨u, rfl, rfl, l₂, r, hr, h2, h3, q⟩ := q
    exact W.bind (W.standAt (W.operate (W.aug (by simp) (by simp) hr ⟨l₂, h2, h3, q⟩)))
  · obtain ⟨r, rfl, rfl, l₂, h2, h3, q⟩ := q2
    exact W.bind (W.standAt (W.bind (W.holding (W.setAttr WC hf (by simp) (by simp) h2 h3 (W.bind (W.release (W.pure ⟨rfl, q⟩)))))))
theorem WX.expr {e : Expr} {pos : Pos} (h : WE w d env e loc σ (fun v σ₁ => N loc σ₁) X) (hi : interactive env = false := by rfl) (hs : swapsWith e none pos.line env = Pure.pure false := by rfl) : WX w d env (.Expr e pos) loc σ N R X := by
  rw [WX, exec_Expr env e pos hi hs]
  refine W.bind (W.standAt (W.bind (h.mono (fun rv Γ₁ loc₁ σ₁ q => ?_) fun _ _ x => x)))
  obtain ⟨v, rfl, rfl, q⟩ := q
  exact W.calm fun A base outer s QQ EE C I hq => wpAny_dropValue (hq _ [] s.toks ⟨rfl, q⟩ fun _ q => nomatch q)

/-- a while, by what holds at each turn, of a measure; nothing is raised within -/
theorem WX.while {t : Expr} {body : List Stmt} {pos : Pos} (J : Nat → Loc → St → Prop) (n : Nat) {locJ : Loc} (hwJ : Weak locJ loc) (h0 : J n locJ σ)
    (turn : ∀ n loc₁ σ₁, J n loc₁ σ₁ → WT w d env t loc₁ σ₁ (fun b σ₂ => if b = true then WS w d env body loc₁ σ₂ (fun loc₃ σ₃ => ∃ m loc' σ', m < n ∧ Weak loc' loc₃ ∧ Le σ' σ₃ ∧ J m loc' σ') R (fun _ _ => False) else N loc₁ σ₂) (fun _ _ => False)) :
    WX w d env (.While t body [] pos) loc σ N R X :=
  fun A base outer s QQ EE C I hq hx => wpAny_While (codeAny_whileLoop (fun n s' => ∃ loc₁ σ₁ h₁ tk₁, s' = { s with heap := h₁, toks := tk₁ } ∧ J n loc₁ σ₁ ∧ Ext env outer σ σ₁ s.heap h₁ ∧ Inv w base outer env [] loc₁ σ₁ h₁) (fun n s' => by
    rintro ⟨loc₁, σ₁, h₁, tk₁, rfl, hJ, x₁, i₁⟩
    refine turn n loc₁ σ₁ hJ A base outer _ _ _ C i₁ (fun b Γ₂ loc₂ σ₂ h₂ tk₂ ⟨eΓ, eL, q⟩ x₂ i₂ => ?_) fun c e loc₂ σ₂ h₂ tk₂ q => q.elim
    subst eΓ eL
    cases b with
    | false =>
      simp only [Bool.false_eq_true, if_false] at q ⊢
      exact wpAny_execs_nil (hq _ [] _ _ h₂ tk₂ ⟨rfl, q⟩ (x₁.trans x₂) i₂)
    | true =>
      simp only [if_true] at q ⊢
      refine q A base outer _ _ _ C i₂ (fun fl Γ₃ loc₃ σ₃ h₃ tk₃ q x₃ i₃ => ?_) fun c e loc₂ σ₂ h₂ tk₂ q => q.elim
      cases fl with
      | next =>
        obtain ⟨rfl, m, loc', σ', hm, hw, hl, q⟩ := q
        exact ⟨m, hm, loc', σ', h₃, tk₃, rfl, q, ((x₁.trans x₂).trans x₃).less hl, i₃.less hw hl⟩
      | ret rv =>
        obtain ⟨v, rfl, q⟩ := q
        exact hq _ [(rv, v)] loc₃ _ h₃ tk₃ ⟨v, rfl, q⟩ ((x₁.trans x₂).trans x₃) i₃
      | brk => exact q.elim
      | cont => exact q.elim) n ⟨locJ, σ, s.heap, s.toks, rfl, h0, .refl, I.less hwJ Le.refl⟩)

/-! for over a range -/
theorem Inv.other {b : Addr} (I : Inv w base outer env Γ loc σ h) (h1 : base.get? b = none) (h2 : b ≠ env.locals) (h3 : b ∉ frs outer) (h4 : ¬ Own σ b) (h5 : ∀ vs, ¬ IsTup h b vs) (k : ∀ c o, c ≠ b → h.get? c = some o → h'.get? c = some o) : Inv w base outer env Γ loc σ h' := by
  have kt : TupK h h' := fun a vs t => by
    have n : a ≠ b := fun q => h5 vs (q ▸ t)
    obtain ⟨ob, e, z⟩ := t
    exact ⟨ob, k a ob n e, z⟩
  refine ⟨fun c ob e => k c ob (fun q => ?_) (I.stays c ob e), frames_on I.frames fun c hc ob e => ⟨ob, k c ob (fun q => h3 (q ▸ hc)) e, rfl⟩, I.above, I.off, I.ns.keeps (fun o e => k _ o (Ne.symm h2) e) kt, fun a o e => (I.objs a o e).mono (fun c hc oc ec => k c oc (fun q => h4 ⟨a, o, e, q ▸ hc⟩) ec) kt, I.sep, I.apart, fun p hp => (I.gam p hp).mono kt⟩
  rw [q, h1] at e; cases e
theorem Ext.other {b : Addr} {h₀ : Heap} {σ₀ : St} (x : Ext env outer σ₀ σ h₀ h) (hb : h₀.get? b = none) (k : ∀ c o, c ≠ b → h.get? c = some o → h'.get? c = some o) : Ext env outer σ₀ σ h₀ h' := by
  refine ⟨fun c o e n m => ?_, x.new, fun c o e => ?_⟩
  · obtain ⟨sl, e', f⟩ := x.keep c o e n m
    exact ⟨sl, k c _ (fun q => by rw [q, hb] at e; cases e) e', f⟩
  · obtain ⟨o', e'⟩ := x.ex c o e
    exact ⟨o', k c o' (fun q => by rw [q, hb] at e; cases e) e'⟩
theorem Inv.name {x : Str} {rv : Value} {v : V} {m : Str → Option Value} (I : Inv w base outer env Γ loc σ h) (r : RV h rv v) : Inv w base outer env ((rv, v) :: Γ) loc σ h := I.cons r

theorem WX.forRange {x : Str} {px p pos pos' : Pos} {e : Expr} {body : List Stmt} (J : Nat → Loc → St → Prop) (hx : env.kindOf x = some .local) (hr : env.kindOf "range" = some .globalImplicit) (en : nsIn (hd.heap_39 w.params) mainGlobals "range" = some none)
    (h : WE w d env e loc σ (fun v σ₁ => ∃ n : Nat, v = .int n ∧ n ≤ 1000 ∧ (∃ loc' σ', Weak loc' loc ∧ Le σ' σ₁ ∧ J 0 loc' σ') ∧
      (∀ i loc₁ σ₂, i < n → J i loc₁ σ₂ → WS w d env body ((x, .int i) :: loc₁) σ₂ (fun loc₃ σ₃ => ∃ loc' σ', Weak loc' loc₃ ∧ Le σ' σ₃ ∧ J (i + 1) loc' σ') R (fun _ _ => False)) ∧ ∀ loc₁ σ₂, J n loc₁ σ₂ → N loc₁ σ₂) X)
    (he : starEach [e] env = [(false, eval e env)] := by rfl) (hs : ∀ x, foldedSetIterable (.Call (.Name "range" p) [e] [] pos') env x = pure x := by intros; rfl)
    (hne : ∀ args kw, eval (.Call (.Name "range" p) args kw pos') env = (do callWith pos' (← eval (.Name "range" p) env) [] (backTo pos' (starEach args env)) (backToKw pos' (keywordEach kw env))) := by intros; rfl) :
    WX w d env (.For (.Name x px) (.Call (.Name "range" p) [e] [] pos') body [] pos) loc σ N R X := by
  intro A base outer s QQ EE C I hq hX
  have C' := C
  obtain ⟨cn, cs, L, a, ccd, cl, rfl, hkf⟩ := C'.shape
  obtain ⟨m, F, hm⟩ := I.fr
  obtain ⟨pg, loose, mean, mg, mb, T⟩ := C.T
  refine wpAny_For ?_ hs
  rw [hne]
  refine wpAny_bind (nameX_B F C.K (topRead_of T) en (by boot_fast) (by decide) ?_ hkf hr (by decide))
  rw [he]
  refine callWith_of (P := fun _ => True) rfl (fun h _ => ⟨.machine, .inr (.inl rfl), Looks.of_pure rfl⟩) ?_
  refine evalArgs_plain (spliced_cons (h A base outer s _ EE C I (fun rn Γ₁ loc₁ σ₁ h₁ tk₁ ⟨v, eΓ, eL, n, ev, hn, ⟨locJ, σJ, hwJ, hlJ, hJ0⟩, step, fin⟩ x₁ i₁ => spliced_nil ⟨trivial, ?_⟩) hX))
  subst eΓ eL ev
  have g1 := i₁.gam (rn, .int n) (by simp)
  dsimp only at g1
  cases g1
  obtain ⟨m₁, F₁, hm₁⟩ := i₁.fr
  refine range1_rows F₁ (News.nil) (fun h₂ tk₂ t₂ u₂ v₂ hr₂ F₂ N₂ k₂ => ?_)
  have x₂ := x₁.trans (.of_keeps k₂)
  have i₂ := i₁.keeps k₂
  have hsz : Builtin.Range.rangeSize 0 (n : Int) 1 = n := by
    unfold Builtin.Range.rangeSize
    rw [if_pos (by decide)]
    split <;> omega
  refine wpAny_pyIter_range hr₂ ?_ ?_
  · unfold Builtin.Range.small Builtin.Range.rangeFitsLong
    rw [hsz]
    simp
    omega
  rw [hsz]
  dsimp only
  have hfit : h₂.get? h₂.objs.size = none := Heap.get?_none_of_le (Nat.le_refl _)
  have hnone := i₂.none_of hfit
  generalize hI : h₂.objs.size = it at hfit hnone
  have hit0 : IsRangeIter (h₂.push { cls := .type "range_iterator", data := .fields #[rawInt 0, rawInt n, rawInt 1] }) it (0 : Nat) ((n : Int) - (0 : Nat)) 1 := by
    rw [← hI]
    simpa using Heap.get?_push_size h₂ (o := { cls := .type "range_iterator", data := .fields #[rawInt 0, rawInt n, rawInt 1] }) rfl
  have k3 : ∀ b ob, h₂.get? b = some ob → (h₂.push { cls := .type "range_iterator", data := .fields #[rawInt 0, rawInt n, rawInt 1] }).get? b = some ob := fun b ob e => Heap.get?_push_of_some _ e
  have x₃ := x₂.trans (.of_keeps k3)
  have i₃ := i₂.keeps k3
  have hsn : s.heap.get? it = none := by
    cases q : s.heap.get? it with
    | none => rfl
    | some o => obtain ⟨o', e'⟩ := x₂.ex _ _ q; rw [hfit] at e'; cases e'
  have ntup : ∀ {hh : Heap} {a b c : Int}, IsRangeIter hh it a b c → ∀ vs, ¬ IsTup hh it vs := fun {hh a b c} e vs t => by
    obtain ⟨ob, e2, hc, _⟩ := t
    rw [e] at e2; cases e2; exact ty_ne hc
  generalize (h₂.push { cls := .type "range_iterator", data := .fields #[rawInt 0, rawInt n, rawInt 1] }) = h₃ at hit0 x₃ i₃
  refine codeAny_forLoop (fun k s' => ∃ i loc₁ σ₂ h' tk', s' = { s with heap := h', toks := tk' } ∧ IsRangeIter h' it (i : Nat) ((n : Int) - (i : Nat)) 1 ∧ J i loc₁ σ₂ ∧ Ext (envX cn cs L a ccd cl) outer σ σ₂ s.heap h' ∧ Inv w base outer (envX cn cs L a ccd cl) [] loc₁ σ₂ h' ∧ ¬ Own σ₂ it ∧ i ≤ n ∧ k = n + 1 - i) (fun k s' => ?_) (n + 1) ⟨0, locJ, σJ, h₃, tk₂, rfl, hit0, hJ0, x₃.less hlJ, (i₃.gamma (fun p hp => absurd hp List.not_mem_nil)).less hwJ hlJ, fun ⟨a, o, e, hb⟩ => hnone.2.2.2.1 ⟨a, o, hlJ a o e, hb⟩, Nat.zero_le _, rfl⟩
  rintro ⟨i, loc₂, σ₂, h', tk', rfl, hit, hJ, x₄, i₄, hno, hi, rfl⟩
  by_cases hlt : i < n
  · refine wpAny_pyNext_range_item hit (by omega) fun h₅ hit₅ hs₅ => ?_
    have ke : ∀ c o, c ≠ it → h'.get? c = some o → h₅.get? c = some o := fun c o nc e => (hs₅.2 c nc).trans e
    have i₅ := i₄.other hnone.1 hnone.2.1 hnone.2.2.1 hno (ntup hit) ke
    have x₅ := x₄.other hsn ke
    show wpAny _ _ (PySem.assign (.Name x px) _ (.int i tk')) _ _ _
    have hA : WA w d (envX cn cs L a ccd cl) (.Name x px) (.int i) loc₂ σ₂ (fun loc₃ σ₃ => loc₃ = (x, .int i) :: loc₂ ∧ σ₃ = σ₂) (fun _ _ => False) := WA.name hx ⟨rfl, rfl⟩
    refine hA [(.int i tk', .int i)] (.int i tk') (.head _) A base outer _ _ _ C (i₅.cons .int) (fun _ Γ₆ loc₆ σ₆ h₆ tk₆ ⟨eΓ, eL, eσ⟩ x₆ i₆ => ?_) fun c e loc₂ σ₂ h₂ tk₂ q => q.elim
    subst eΓ eL eσ
    have hne : it ≠ L := hnone.2.1
    have hfr : it ∉ frs (envX cn cs L a ccd cl :: outer) := by
      rw [frs, List.filterMap_cons]
      intro q
      rcases List.mem_cons.mp q with q | q
      · exact hne q
      · exact hnone.2.2.1 q
    have hit₆ : IsRangeIter h₆ it ((i : Nat) + 1) ((n : Int) - (i : Nat) - 1) 1 := by
      obtain ⟨sl, e', f⟩ := x₆.keep _ _ hit₅ hne hno
      rw [f hfr] at e'
      exact e'
    refine step i loc₂ σ₆ hlt hJ A base outer _ _ _ C (i₆.gamma (fun _ q => nomatch q)) (fun fl Γ₇ loc₇ σ₇ h₇ tk₇ q x₇ i₇ => ?_) fun c e loc₂ σ₂ h₂ tk₂ q => q.elim
    cases fl with
    | next =>
      obtain ⟨rfl, loc', σ', hw, hl, q⟩ := q
      have hit₇ : IsRangeIter h₇ it ((i : Nat) + 1) ((n : Int) - (i : Nat) - 1) 1 := by
        obtain ⟨sl, e', f⟩ := x₇.keep _ _ hit₆ hne hno
        rw [f hfr] at e'
        exact e'
      refine ⟨n + 1 - (i + 1), by omega, i + 1, loc', σ', h₇, tk₇, rfl, ?_, q, ((x₅.trans x₆).trans x₇).less hl, i₇.less hw hl, fun ⟨a, o, e, hb⟩ => ?_, hlt, rfl⟩
      · have e2 : (n : Int) - ((i + 1 : Nat) : Int) = (n : Int) - (i : Int) - 1 := by push_cast; omega
        rw [e2]; push_cast; exact hit₇
      · rcases x₇.new it ⟨a, o, hl a o e, hb⟩ with z | z
        · exact hno z
        · rw [hit₆] at z; cases z
    | ret rv =>
      obtain ⟨v, rfl, q⟩ := q
      exact hq _ [(rv, v)] loc₇ _ h₇ tk₇ ⟨v, rfl, q⟩ ((x₅.trans x₆).trans x₇) i₇
    | brk => exact q.elim
    | cont => exact q.elim
  · have hin : i = n := by omega
    subst hin
    refine wpAny_pyNext_range_end C.handled hit (by omega) fun h₅ he₅ => wpAny_execs_nil ?_
    have ke : ∀ c o, c ≠ it → h'.get? c = some o → h₅.get? c = some o := fun c o nc e => he₅ c o nc e
    have i₅ := i₄.other hnone.1 hnone.2.1 hnone.2.2.1 hno (ntup hit) ke
    exact hq _ [] loc₂ σ₂ h₅ tk' ⟨rfl, fin _ _ hJ⟩ (x₄.other hsn ke) i₅
end
end Mine
end
section
open PySem PySem.W PyProof.Rows PySem.Spec PySem.Calls
set_option Elab.async false
set_option maxRecDepth 100000
set_option maxHeartbeats 8000000
set_option linter.unusedVariables false
namespace Mine
section
variable {w : World} {d : Nat} {base : Heap} {outer : List Env} {env : Env} {Γ : Gam} {loc : Loc} {σ : St} {h h' : Heap} {X : Str → St → Prop} {N : Loc → St → Prop} {R : V → St → Prop}

theorem RD.lookup : ∀ {kvs : List (Str × Value)} {l : List (Str × V)} {k : Str} {x : V}, RD h kvs l → alook l k = some x → ∃ v, kvs.lookup k = some v ∧ RV h v x
  | _, _, k, x, .nil, e => by cases e
  | _, _, k, x, @RD.cons _ k' v x' vs l r rr, e => by
    unfold alook at e
    rw [List.lookup_cons]
    by_cases q : k = k'
    · rw [if_pos q] at e; cases e
      rw [beq_iff_eq.mpr q]
      exact ⟨v, rfl, r⟩
    · rw [if_neg q] at e
      rw [beq_eq_false_iff_ne.mpr q]
      exact rr.lookup e

/-- the heap where all but two things stay, frames in their slots alone -/
def Moved (fs : List Addr) (e T : Addr) (h h' : Heap) : Prop := ∀ b o, h.get? b = some o → b ≠ e → b ≠ T → ∃ sl, h'.get? b = some { o with slots := sl } ∧ (b ∉ fs → sl = o.slots)
structure Aside (base : Heap) (fs : List Addr) (σ : St) (h : Heap) (e : Addr) : Prop where
  base : base.get? e = none
  frame : e ∉ fs
  own : ¬ Own σ e
  tup : ∀ vs, ¬ IsTup h e vs
theorem Inv.moved {e T : Addr} (I : Inv w base outer env Γ loc σ h) (hf : env.frame = some env.locals) (k : Moved (frs (env :: outer)) e T h h') (he : Aside base (frs (env :: outer)) σ h e) (hT : Aside base (frs (env :: outer)) σ h T) : Inv w base outer env Γ loc σ h' := by
  have kt : TupK h h' := fun a vs t => by
    have n1 : a ≠ e := fun q => he.tup vs (q ▸ t)
    have n2 : a ≠ T := fun q => hT.tup vs (q ▸ t)
    obtain ⟨ob, e, hc, n, hd⟩ := t
    obtain ⟨sl, e', _⟩ := k a ob e n1 n2
    exact ⟨_, e', hc, n, hd⟩
  have hLm : env.locals ∈ frs (env :: outer) := by rw [frs, List.filterMap_cons, hf]; exact .head _
  have sub : ∀ b ∈ frs outer, b ∈ frs (env :: outer) := fun b hb => by rw [frs, List.filterMap_cons, hf]; exact .tail _ hb
  refine ⟨fun b ob eb => ?_, frames_on I.frames fun b hb ob eb => ?_, I.above, I.off, ?_, fun a o ea => (I.objs a o ea).mono (fun c hc oc ec => ?_) kt, I.sep, I.apart, fun p hp => (I.gam p hp).mono kt⟩
  · obtain ⟨sl, e', f⟩ := k b ob (I.stays b ob eb) (fun q => by rw [q, he.base] at eb; cases eb) (fun q => by rw [q, hT.base] at eb; cases eb)
    rw [f (fun q => ?_)] at e'
    · exact e'
    · rw [frs, List.filterMap_cons, hf] at q
      rcases List.mem_cons.mp q with q | q
      · have := Heap.lt_size eb; rw [q] at this; exact absurd (Nat.lt_of_lt_of_le this I.above) (Nat.lt_irrefl _)
      · rw [(I.frames.mem q).1] at eb; cases eb
  · obtain ⟨sl, e', _⟩ := k b ob eb (fun q => he.frame (q ▸ sub b hb)) (fun q => hT.frame (q ▸ sub b hb))
    exact ⟨_, e', rfl⟩
  · obtain ⟨m, ⟨o, es, ep, eo, hd, r⟩, hm⟩ := I.ns
    obtain ⟨sl, e', _⟩ := k _ o eo (fun q => he.frame (q ▸ hLm)) (fun q => hT.frame (q ▸ hLm))
    refine ⟨m, ⟨_, es, ep, e', hd, r⟩, fun x v hx => ?_⟩
    obtain ⟨rv, h1, h2⟩ := hm x v hx
    exact ⟨rv, h1, h2.mono kt⟩
  · have ow : Own σ c := ⟨a, o, ea, hc⟩
    have ap := I.apart c ow
    obtain ⟨sl, e', f⟩ := k c oc ec (fun q => he.own (q ▸ ow)) (fun q => hT.own (q ▸ ow))
    rw [f (fun q => ?_)] at e'
    · exact e'
    · rw [frs, List.filterMap_cons, hf] at q
      rcases List.mem_cons.mp q with q | q
      · exact ap.2.1 q
      · exact ap.2.2 q
theorem Ext.moved {e T : Addr} {h₀ : Heap} {σ₀ : St} (x : Ext env outer σ₀ σ h₀ h) (k : Moved (frs (env :: outer)) e T h h') (he : h₀.get? e = none) (hT : h₀.get? T = none) : Ext env outer σ₀ σ h₀ h' := by
  have ne : ∀ b o, h₀.get? b = some o → b ≠ e ∧ b ≠ T := fun b o eb => ⟨fun q => (by rw [q, he] at eb; cases eb), fun q => (by rw [q, hT] at eb; cases eb)⟩
  refine ⟨fun b o eb n m => ?_, x.new, fun b o eb => ?_⟩
  · obtain ⟨s1, e1, f1⟩ := x.keep b o eb n m
    obtain ⟨s2, e2, f2⟩ := k b _ e1 (ne b o eb).1 (ne b o eb).2
    exact ⟨s2, e2, fun q => (f2 q).trans (f1 q)⟩
  · obtain ⟨o', e'⟩ := x.ex b o eb
    obtain ⟨s2, e2, _⟩ := k b _ e' (ne b o eb).1 (ne b o eb).2
    exact ⟨_, e2⟩
theorem aside_of {h₀ : Heap} {σ₀ : St} {e : Addr} (x : Ext env outer σ₀ σ h₀ h) (I₀ : Inv w base outer env Γ loc σ₀ h₀) (hf : env.frame = some env.locals) (he : h₀.get? e = none) (ho : ¬ Own σ e) (ht : ∀ vs, ¬ IsTup h e vs) : Aside base (frs (env :: outer)) σ h e := by
  have n := I₀.none_of he
  refine ⟨n.1, fun q => ?_, ho, ht⟩
  rw [frs, List.filterMap_cons, hf] at q
  rcases List.mem_cons.mp q with q | q
  · exact n.2.1 q
  · exact n.2.2.1 q
theorem fields_notup {e : Addr} {o : Obj} {vs : Array Value} (he : h.get? e = some o) (hd : o.data = .fields vs) : ∀ us, ¬ IsTup h e us := fun us t => by
  obtain ⟨ob, e2, _, n, hd2⟩ := t
  rw [he] at e2; cases e2; rw [hd] at hd2; cases hd2

/-- an error leaves a frame -/
theorem fly_leave {M : Model} {A : Around} {E : Value → Shared → Prop} {s : Shared} {h₀ : Heap} {σ₀ : St} {Γ₀ : Gam} {loc₀ : Loc} {e : Addr} {c : Str} {Q : Unit → Shared → Prop}
    (hA : A.frames = some (env :: outer)) (hf : env.frame = some env.locals) (hk : env.scope.kind = .function) (I₀ : Inv w base outer env Γ₀ loc₀ σ₀ h₀) (x : Ext env outer σ₀ σ h₀ s.heap) (I : Inv w base outer env Γ loc σ s.heap) (f : Fly σ h₀ s.heap e c)
    (hQ : ∀ h', Ext env outer σ₀ σ h₀ h' → Inv w base outer env Γ loc σ h' → Fly σ h₀ h' e c → Q () { s with heap := h' }) : wpAny M A (leaving env (.ref e)) Q E s := by
  have fr : s.heap.FunFrames base (env :: outer) := by
    obtain ⟨m, hn, _⟩ := I.ns
    refine .cons (by rw [hk]; decide) hf hn ?_ I.frames
    cases q : base.get? env.locals with
    | none => rfl
    | some o => exact absurd (Nat.lt_of_lt_of_le (Heap.lt_size q) I.above) (Nat.lt_irrefl _)
  have back : ∀ b, s.heap.get? b = none → h₀.get? b = none := fun b z => by
    cases q : h₀.get? b with
    | none => rfl
    | some o => obtain ⟨o', e'⟩ := x.ex b o q; rw [z] at e'; cases e'
  rcases f.body with ⟨oe, vs, D, oD, he, hc, hD, hd, h1, hDo, hDc, hDn⟩ | ⟨T, D, oD, tr, hDo, hDc, hT, hTo, hDn⟩
  · refine leave_first hA fr hf he hc hD hd h1 fun h' T' m n t' => ?_
    have as := aside_of x I₀ hf f.newE f.offE (fields_notup he hd)
    have mv : Moved (frs (env :: outer)) e e s.heap h' := fun b o eb n1 _ => m b o eb (by simpa using n1)
    have x' := x.moved mv f.newE f.newE
    have i' := I.moved hf mv as as
    have nT' := I.none_of n
    obtain ⟨⟨es, nn, hdD⟩, tk, hlk⟩ := hDc
    obtain ⟨sl, eD, _⟩ := mv D oD hDo (fun q => by rw [q, he] at hDo; cases hDo; rw [hd] at hdD; cases hdD) (fun q => by rw [q, he] at hDo; cases hDo; rw [hd] at hdD; cases hdD)
    exact hQ h' x' i' ⟨f.newE, f.offE, .inr ⟨T', D, _, t', eD, ⟨⟨es, nn, hdD⟩, tk, hlk⟩, back _ n, nT'.2.2.2.1, hDn⟩⟩
  · have tr' := tr
    obtain ⟨⟨oe, vs, he, hc, hD, hd, h1⟩, hne, oT, ts, hTo', hdT, h3⟩ := tr'
    refine leave_next hA fr hf tr fun h' T' m n t' => ?_
    have as := aside_of x I₀ hf f.newE f.offE (fields_notup he hd)
    have asT := aside_of x I₀ hf hT hTo (fields_notup hTo' hdT)
    have mv : Moved (frs (env :: outer)) e T s.heap h' := fun b o eb n1 n2 => m b o eb (by simp [n1, n2])
    have x' := x.moved mv f.newE hT
    have i' := I.moved hf mv as asT
    have nT' := I.none_of n
    obtain ⟨⟨es, nn, hdD⟩, tk, hlk⟩ := hDc
    obtain ⟨sl, eD, _⟩ := mv D oD hDo (fun q => by rw [q, he] at hDo; cases hDo; rw [hd] at hdD; cases hdD) (fun q => by rw [q, hTo'] at hDo; cases hDo; rw [hdT] at hdD; cases hdD)
    exact hQ h' x' i' ⟨f.newE, f.offE, .inr ⟨T', D, _, t', eD, ⟨⟨es, nn, hdD⟩, tk, hlk⟩, back _ n, nT'.2.2.2.1, hDn⟩⟩

/-- out of a callee's frame -/
theorem up {env' : Env} {h₁ : Heap} {σ₁ : St} {loc' : Loc} (I : Inv w base outer env Γ loc σ h) (hf : env.frame = some env.locals) (hf' : env'.frame = some env'.locals) (k : ∀ b o, h.get? b = some o → h₁.get? b = some o) (hL' : h.get? env'.locals = none)
    (x : Ext env' (env :: outer) σ σ₁ h₁ h') (i : Inv w base (env :: outer) env' [] loc' σ₁ h') : Ext env outer σ σ₁ h h' ∧ Inv w base outer env Γ loc σ₁ h' := by
  have hL : env.locals ∈ frs (env :: outer) := by rw [frs, List.filterMap_cons, hf]; exact .head _
  have sub : ∀ b ∈ frs outer, b ∈ frs (env :: outer) := fun b hb => by rw [frs, List.filterMap_cons, hf]; exact .tail _ hb
  have ne : ∀ b o, h.get? b = some o → b ≠ env'.locals := fun b o e q => by rw [q, hL'] at e; cases e
  have X' : Ext env outer σ σ₁ h h' := by
    refine ⟨fun b o e n m => ?_, fun b q => ?_, fun b o e => x.ex b o (k b o e)⟩
    · obtain ⟨sl, e', f⟩ := x.keep b o (k b o e) (ne b o e) m
      refine ⟨sl, e', fun q => f fun z => ?_⟩
      rw [frs, List.filterMap_cons, hf'] at z
      rcases List.mem_cons.mp z with z | z
      · exact ne b o e z
      · exact q z
    · rcases x.new b q with z | z
      · exact .inl z
      · right
        cases q : h.get? b with
        | none => rfl
        | some o => rw [k b o q] at z; cases z
  have kt := X'.tup I
  refine ⟨X', i.stays, i.frames.2.2, I.above, I.off, ?_, i.objs, i.sep, fun b q => ?_, fun p hp => (I.gam p hp).mono kt⟩
  · obtain ⟨m, ⟨o, es, ep, eo, hd, r⟩, hm⟩ := I.ns
    have hno : ¬ Own σ env.locals := fun q => (I.apart _ q).2.1 rfl
    obtain ⟨sl, e', _⟩ := x.keep _ o (k _ o eo) (ne _ o eo) hno
    refine ⟨m, ⟨_, es, ep, e', hd, r⟩, fun y v hy => ?_⟩
    obtain ⟨rv, h1, h2⟩ := hm y v hy
    exact ⟨rv, h1, h2.mono kt⟩
  · have ap := i.apart b q
    exact ⟨ap.1, fun z => ap.2.2 (z ▸ hL), fun z => ap.2.2 (sub b z)⟩

/-- a call of a def of the text -/
theorem CT.def {f : Addr} {vs : List V} {name qual : Str} {params : Arguments} {body : List Stmt} {scope : Scope} {dV kV doc pm cdv ct oc : Value} {an od : Option Addr} {osl : Array (Option Value)} {binds : List Value → List (Str × Value)} {loc0 : Loc} {Q : V → St → Prop}
    (ho : (hd.heap_39 w.params).lookup f = some ⟨oc, od, .func (fnOf name qual params body scope dV kV doc pm an cdv ct), osl⟩) (hcd : codeIn (hd.heap_39 w.params) cdv qual = true)
    (hbind : ∀ (s : Shared) rvs, rvs.length = vs.length → BindsTo s (fnOf name qual params body scope dV kV doc pm an cdv ct) ⟨rvs, []⟩ (binds rvs)) (hloc : ∀ rvs, ∀ y ∈ binds rvs, scope.names.lookup y.1 = some .local) (hcell : ∀ x ∈ scope.names, x.2 ≠ .cell)
    (hrd : ∀ (h : Heap) rvs, RL h rvs vs → RD h (binds rvs).reverse loc0)
    (h : ∀ L', WS w d (envX qual scope L' f cdv []) body loc0 σ (fun _ σ' => Q .none σ') Q X)
    (hco : scope.isCoroutine = false := by rfl) (hgen : scope.isGenerator = false := by rfl) (hk : scope.kind = .function := by rfl) : CT w (d + 1) (.ref f) vs σ Q X := by
  intro env loc rvs hl A base outer s QQ EE C I hq hX
  have C' := C
  obtain ⟨cn, cs, L, a, ccd, cl, rfl, hkf⟩ := C'.shape
  obtain ⟨pg, loose, mean, mg, mb, T⟩ := C.T
  obtain ⟨m, hn, hm⟩ := I.ns
  have fr : s.heap.FunFrames base (envX cn cs L a ccd cl :: outer) := by
    refine .cons (by show cs.kind ≠ _; rw [hkf]; decide) rfl hn ?_ I.frames
    cases q : base.get? L with
    | none => rfl
    | some o => exact absurd (Nat.lt_of_lt_of_le (Heap.lt_size q) I.above) (Nat.lt_irrefl _)
  have B : Below A base (envX cn cs L a ccd cl :: outer) s.heap := ⟨C.frames, I.stays, fr⟩
  have rl := rl_of_zip hl I.gam
  refine enter0 B C.K T ho hcd (by have := C.depth; omega) (hbind s rvs hl) (hloc rvs) hcell (fun L' h₁ F N _ _ hL' => ?_) hco hgen hk
  have C1 : Cx w d (A.deeper (envX qual scope L' f cdv [])) base (envX cn cs L a ccd cl :: outer) (envX qual scope L' f cdv []) :=
    ⟨Around.frames_deeper C.frames, C.handled, (by have := C.depth; show A.depth + 1 + 3 * d + 20 < _; omega), (by have := C.units; show A.units + 3 + 40 * d + 100 < _; omega), ⟨qual, scope, L', f, cdv, [], rfl, hk⟩, C.K, ⟨pg, loose, mean, mg, mb, T⟩⟩
  have kt : TupK s.heap h₁ := tupK_of F.keep
  have nL' := I.none_of hL'
  have hLlt : base.objs.size ≤ L' := Nat.le_trans (Nat.le_of_lt (Nat.lt_of_le_of_lt I.above hn.lt)) F.above
  have I1 : Inv w base (envX cn cs L a ccd cl :: outer) (envX qual scope L' f cdv []) [] loc0 σ h₁ := by
    refine ⟨fun b o e => F.keep b o (I.stays b o e), fr.of_keeps fun b o e _ => ⟨o, F.keep b o e, rfl⟩, hLlt, ?_, ⟨_, F.ns, fun x v hx => ?_⟩, fun b o e => (I.objs b o e).mono (fun c _ oc ec => F.keep c oc ec) kt, I.sep, fun b q => ⟨(I.apart b q).1, fun z => ?_, fun z => ?_⟩, fun _ q => nomatch q⟩
    · intro q
      rw [frs, List.filterMap_cons] at q
      rcases List.mem_cons.mp q with q | q
      · exact nL'.2.1 q
      · exact nL'.2.2.1 q
    · obtain ⟨rv, h1, h2⟩ := (hrd _ rvs rl).lookup hx
      exact ⟨rv, h1, h2.mono kt⟩
    · obtain ⟨o, e⟩ := Own.isSome I q
      rw [z] at e
      have : s.heap.get? L' = some o := e
      rw [hL'] at this; cases this
    · rw [frs, List.filterMap_cons] at z
      rcases List.mem_cons.mp z with z | z
      · exact (I.apart b q).2.1 z
      · exact (I.apart b q).2.2 z
  have old : ∀ b, h₁.get? b = none → s.heap.get? b = none := fun b z => by
    cases q : s.heap.get? b with
    | none => rfl
    | some o => rw [F.keep b o q] at z; cases z
  refine h L' _ _ _ _ _ _ C1 I1 (fun fl Γ₂ loc₂ σ₂ h₂ tk₂ q x₂ i₂ => ?_) fun c e loc₂ σ₂ h₂ tk₂ q x₂ i₂ f₂ => ?_
  · cases fl with
    | next =>
      obtain ⟨rfl, q⟩ := q
      obtain ⟨xx, ii⟩ := up I rfl rfl F.keep hL' x₂ (i₂.gamma fun _ q => nomatch q)
      exact hq _ [(_, .none)] loc _ h₂ tk₂ ⟨_, rfl, rfl, q⟩ xx (ii.cons .none)
    | ret rv =>
      obtain ⟨v, rfl, q⟩ := q
      obtain ⟨xx, ii⟩ := up I rfl rfl F.keep hL' x₂ (i₂.gamma fun _ q => nomatch q)
      exact hq _ [(rv, v)] loc _ h₂ tk₂ ⟨_, rfl, rfl, q⟩ xx (ii.cons (i₂.gam (rv, v) (by simp)))
    | brk => exact q.elim
    | cont => exact q.elim
  · refine fly_leave (s := { s with heap := h₂, toks := tk₂ }) C1.frames rfl hk I1 x₂ i₂ f₂ fun h₃ x₃ i₃ f₃ => ?_
    obtain ⟨xx, ii⟩ := up I rfl rfl F.keep hL' x₃ i₃
    refine hX c e loc σ₂ h₃ tk₂ q xx (ii.gamma fun _ q => nomatch q) (f₃.older fun b o e => ⟨o, F.keep b o e⟩)
end
end Mine
end
section
open PySem PySem.W PyProof.Rows PySem.Spec PySem.Calls
set_option Elab.async false
set_option maxRecDepth 100000
set_option maxHeartbeats 8000000
set_option linter.unusedVariables false
namespace Mine
section
variable {w : World} {d : Nat} {base : Heap} {outer : List Env} {env : Env} {Γ : Gam} {loc : Loc} {σ : St} {h h' : Heap} {X : Str → St → Prop} {N : Loc → St → Prop} {R : V → St → Prop}

theorem Inv.below {A : Around} {s : Shared} (C : Cx w d A base outer env) (I : Inv w base outer env Γ loc σ s.heap) : Below A base (env :: outer) s.heap := by
  have C' := C
  obtain ⟨cn, cs, L, a, ccd, cl, rfl, hkf⟩ := C'.shape
  obtain ⟨m, hn, hm⟩ := I.ns
  refine ⟨C.frames, I.stays, .cons (by show cs.kind ≠ _; rw [hkf]; decide) rfl hn ?_ I.frames⟩
  cases q : base.get? L with
  | none => rfl
  | some o => exact absurd (Nat.lt_of_lt_of_le (Heap.lt_size q) I.above) (Nat.lt_irrefl _)

theorem WX.raise1 {c : Str} {np cp cpos pos : Pos} {k : Nat} (hx : env.kindOf "BasicError" = some .globalImplicit) (en : nsIn (hd.heap_39 w.params) mainGlobals "BasicError" = some (some (.ref 34))) (q : X c σ) :
    WX w d env (.Raise (some (.Call (.Name "BasicError" np) [.Constant (.str c) k cp] [] cpos)) none pos) loc σ N R X := by
  intro A base outer s QQ EE C I hq hX
  have B := I.below C
  have C' := C
  obtain ⟨cn, cs, L, a, ccd, cl, rfl, hkf⟩ := C'.shape
  obtain ⟨m, F, hm⟩ := I.fr
  obtain ⟨pg, loose, mean, mg, mb, T⟩ := C.T
  obtain ⟨nm, q', bs, sn, sub, ab, col, dd, k0, k1, k2, k3, k5, hC⟩ := be_cls w
  rw [arm_exec_Raise]
  refine wpAny_bind (wpAny_standAt ?_)
  refine be_raiseStmt (C := 34) (nm := nm) (q := q') (N := 33) (bs := bs) (bm := [.type "Exception", .type "BaseException", .type "object"]) (hdct := true) (sn := sn) (sub := sub) (ab := ab) (col := col) (dd := dd) (k0 := k0) (k1 := k1) (k2 := k2) (k3 := k3) (k5 := k5) (newId := "Exception.__new__") (by decide) C.handled (wpAny_bind (wpAny_Call_ofName ?_))
  refine nameX_K F C.K (topRead_of T) en ?_ hkf hx
  unfold callWith
  refine wpAny_bind (wpAny_holding (evalArgs_plain (spliced_cons (Constant_str (k := k) (pos := cp) (spliced_nil (wpAny_bind (wpAny_standAt ?_)))))))
  refine wpAny_bind ?_
  have hC' := I.stays _ _ (C.K _ _ hC)
  obtain ⟨hp, gg, dr, tk, os⟩ := s
  refine wpAny_keeperOf_exc hC' ?_
  refine wpAny_bind (make_BE1 (s := ⟨hp, gg, dr, tk + 1, os⟩) B C.K T (by have := C.depth; omega) (by have := C.units; omega) fun h' tk' e D oD t1 a1 a2 a3 a4 a5 a6 => wpAny_bind (wpAny_holding (wpAny_point (wpAny_pure (wpAny_bind (wpAny_standAt (wpAny_pure ?_)))))))
  refine ⟨e, D, t1, rfl, a1 _ _ hC', a4, ?_⟩
  exact hX c e loc σ h' tk' q (.of_keeps a1) ((I.keeps a1).gamma fun _ q => nomatch q) ⟨a2, (I.none_of a2).2.2.2.1, .inl ⟨_, _, D, oD, a4, rfl, rfl, rfl, rfl, a5, a6, a3⟩⟩

theorem WX.raise2 {c c2 : Str} {np cp cp2 cpos pos : Pos} {k kk : Nat} (hx : env.kindOf "BasicError" = some .globalImplicit) (en : nsIn (hd.heap_39 w.params) mainGlobals "BasicError" = some (some (.ref 34))) (q : X c σ) :
    WX w d env (.Raise (some (.Call (.Name "BasicError" np) [.Constant (.str c) k cp, .Constant (.str c2) kk cp2] [] cpos)) none pos) loc σ N R X := by
  intro A base outer s QQ EE C I hq hX
  have B := I.below C
  have C' := C
  obtain ⟨cn, cs, L, a, ccd, cl, rfl, hkf⟩ := C'.shape
  obtain ⟨m, F, hm⟩ := I.fr
  obtain ⟨pg, loose, mean, mg, mb, T⟩ := C.T
  obtain ⟨nm, q', bs, sn, sub, ab, col, dd, k0, k1, k2, k3, k5, hC⟩ := be_cls w
  rw [arm_exec_Raise]
  refine wpAny_bind (wpAny_standAt ?_)
  refine be_raiseStmt (C := 34) (nm := nm) (q := q') (N := 33) (bs := bs) (bm := [.type "Exception", .type "BaseException", .type "object"]) (hdct := true) (sn := sn) (sub := sub) (ab := ab) (col := col) (dd := dd) (k0 := k0) (k1 := k1) (k2 := k2) (k3 := k3) (k5 := k5) (newId := "Exception.__new__") (by decide) C.handled (wpAny_bind (wpAny_Call_ofName ?_))
  refine nameX_K F C.K (topRead_of T) en ?_ hkf hx
  unfold callWith
  refine wpAny_bind (wpAny_holding (evalArgs_plain (spliced_cons (Constant_str (k := k) (pos := cp) (spliced_cons (Constant_str (k := kk) (pos := cp2) (spliced_nil (wpAny_bind (wpAny_standAt ?_)))))))))
  refine wpAny_bind ?_
  have hC' := I.stays _ _ (C.K _ _ hC)
  obtain ⟨hp, gg, dr, tk, os⟩ := s
  refine wpAny_keeperOf_exc hC' ?_
  refine wpAny_bind (make_BE2 (s := ⟨hp, gg, dr, tk + 1 + 1, os⟩) B C.K T (by have := C.depth; omega) (by have := C.units; omega) fun h' tk' e D oD t1 a1 a2 a3 a4 a5 a6 => wpAny_bind (wpAny_holding (wpAny_point (wpAny_pure (wpAny_bind (wpAny_standAt (wpAny_pure ?_)))))))
  refine ⟨e, D, t1, rfl, a1 _ _ hC', a4, ?_⟩
  exact hX c e loc σ h' tk' q (.of_keeps a1) ((I.keeps a1).gamma fun _ q => nomatch q) ⟨a2, (I.none_of a2).2.2.2.1, .inl ⟨_, _, D, oD, a4, rfl, rfl, rfl, rfl, a5, a6, a3⟩⟩
end
end Mine
end
section
open PySem PySem.W PyProof.Rows PySem.Spec PySem.Calls
set_option Elab.async false
set_option maxRecDepth 100000
set_option maxHeartbeats 8000000
set_option linter.unusedVariables false
namespace Mine
section
variable {w : World} {d : Nat} {σ : St} {X : Str → St → Prop}
theorem RD.app {h : Heap} : ∀ {a b : List (Str × Value)} {l m : List (Str × V)}, RD h a l → RD h b m → RD h (a ++ b) (l ++ m)
  | _, _, _, _, .nil, r => r
  | _, _, _, _, .cons x y, r => .cons x (y.app r)
theorem RD.rev {h : Heap} : ∀ {a : List (Str × Value)} {l : List (Str × V)}, RD h a l → RD h a.reverse l.reverse
  | _, _, .nil => .nil
  | _, _, .cons x y => by rw [List.reverse_cons, List.reverse_cons]; exact y.rev.app (.cons x .nil)
theorem RD.ofZip {h : Heap} : ∀ {names : List Str} {rvs : List Value} {vs : List V}, RL h rvs vs → RD h (names.zip rvs) (names.zip vs)
  | [], _, _, _ => by rw [List.zip_nil_left, List.zip_nil_left]; exact .nil
  | n :: ns, _, _, .nil => .nil
  | n :: ns, _, _, .cons a b => .cons a (RD.ofZip b)

theorem CT.defn {names : List Str} {f : Addr} {vs : List V} {name qual : Str} {params : Arguments} {body : List Stmt} {scope : Scope} {dV kV doc pm cdv ct oc : Value} {an od : Option Addr} {osl : Array (Option Value)} {Q : V → St → Prop}
    (ho : (hd.heap_39 w.params).lookup f = some ⟨oc, od, .func (fnOf name qual params body scope dV kV doc pm an cdv ct), osl⟩) (hcd : codeIn (hd.heap_39 w.params) cdv qual = true)
    (hbind : ∀ (s : Shared) rvs, rvs.length = vs.length → BindsTo s (fnOf name qual params body scope dV kV doc pm an cdv ct) ⟨rvs, []⟩ (names.zip rvs)) (hloc : (names.all fun n => decide (scope.names.lookup n = some .local)) = true) (hcell : ∀ x ∈ scope.names, x.2 ≠ .cell)
    (h : ∀ L', WS w d (envX qual scope L' f cdv []) body (names.zip vs).reverse σ (fun _ σ' => Q .none σ') Q X)
    (hco : scope.isCoroutine = false := by rfl) (hgen : scope.isGenerator = false := by rfl) (hk : scope.kind = .function := by rfl) : CT w (d + 1) (.ref f) vs σ Q X :=
  CT.def ho hcd hbind (fun rvs y hy => by
    have := (List.of_mem_zip (show (y.1, y.2) ∈ names.zip rvs from hy)).1
    exact of_decide_eq_true (List.all_eq_true.mp hloc _ this)) hcell (fun h rvs r => (RD.ofZip r).rev) h hco hgen hk
theorem len1 {α : Type} {l : List α} (h : l.length = 1) : ∃ a, l = [a] := by
  match l, h with
  | [a], _ => exact ⟨a, rfl⟩
theorem len2 {α : Type} {l : List α} (h : l.length = 2) : ∃ a b, l = [a, b] := by
  match l, h with
  | [a, b], _ => exact ⟨a, b, rfl⟩
theorem len3 {α : Type} {l : List α} (h : l.length = 3) : ∃ a b c, l = [a, b, c] := by
  match l, h with
  | [a, b, c], _ => exact ⟨a, b, c, rfl⟩
theorem len4 {α : Type} {l : List α} (h : l.length = 4) : ∃ a b c e, l = [a, b, c, e] := by
  match l, h with
  | [a, b, c, e], _ => exact ⟨a, b, c, e, rfl⟩
end
theorem CT.more {w : World} {d d' : Nat} {f : Value} {l : List V} {σ : St} {Q : V → St → Prop} {X : Str → St → Prop} (h : CT w d f l σ Q X) (hd : d ≤ d') : CT w d' f l σ Q X := fun env loc rvs hl => (h env loc rvs hl).more hd
theorem CT.shed {w : World} {d : Nat} {f : Value} {l : List V} {σ : St} {Q : V → St → Prop} {X : Str → St → Prop} (h : CT w d f l σ (fun v σ' => ∃ σ'', (∀ b o, σ'' b = some o → σ' b = some o) ∧ Q v σ'') X) : CT w d f l σ Q X :=
  fun env loc rvs hl => W.shed ((h env loc rvs hl).mono (fun rv Γ' loc' σ' ⟨v, a, b, σ'', c, q⟩ => ⟨σ'', c, v, a, b, q⟩) fun _ _ x => x)
theorem CT.mono {w : World} {d : Nat} {f : Value} {l : List V} {σ : St} {Q Q' : V → St → Prop} {X X' : Str → St → Prop} (h : CT w d f l σ Q X) (hq : ∀ v s, Q v s → Q' v s) (hx : ∀ c s, X c s → X' c s) : CT w d f l σ Q' X' :=
  fun env loc rvs hl => (h env loc rvs hl).mono (fun rv Γ' loc' σ' ⟨v, a, b, q⟩ => ⟨v, a, b, hq _ _ q⟩) hx
end Mine
end
section
open PySem PySem.W PyProof.Rows PySem.Spec PySem.Calls
set_option Elab.async false
set_option maxRecDepth 100000
set_option maxHeartbeats 8000000
set_option linter.unusedVariables false
namespace Mine
section
variable {w : World} {d : Nat} {base : Heap} {outer : List Env} {env : Env} {Γ : Gam} {loc : Loc} {σ : St} {h h' : Heap} {X : Str → St → Prop} {A : Around} {s : Shared}
/-- a call of a def, as the machine's own step -/
theorem code_call {f : Addr} {vs : List V} {rvs : List Value} {args : Args} {name qual : Str} {params : Arguments} {body : List Stmt} {scope : Scope} {dV kV doc pm cdv ct oc : Value} {an od : Option Addr} {osl : Array (Option Value)} {binds : List (Str × Value)} {loc0 : Loc} {Q : V → St → Prop} {R : Result → Shared → Prop}
    (C : Cx w (d + 1) A base outer env) (I : Inv w base outer env Γ loc σ s.heap)
    (ho : (hd.heap_39 w.params).lookup f = some ⟨oc, od, .func (fnOf name qual params body scope dV kV doc pm an cdv ct), osl⟩) (hcd : codeIn (hd.heap_39 w.params) cdv qual = true)
    (hbind : BindsTo s (fnOf name qual params body scope dV kV doc pm an cdv ct) args binds) (hloc : ∀ y ∈ binds, scope.names.lookup y.1 = some .local) (hcell : ∀ x ∈ scope.names, x.2 ≠ .cell)
    (hrd : RD s.heap binds.reverse loc0)
    (h : ∀ L', WS w d (envX qual scope L' f cdv []) body loc0 σ (fun _ σ' => Q .none σ') Q X)
    (hq : ∀ rv v σ' h' tk', Q v σ' → Ext env outer σ σ' s.heap h' → Inv w base outer env ((rv, v) :: Γ) loc σ' h' → R (.ok (.ret rv)) { s with heap := h', toks := tk' })
    (hX : ∀ c e σ' h' tk', X c σ' → Ext env outer σ σ' s.heap h' → Inv w base outer env [] loc σ' h' → Fly σ' s.heap h' e c → R (.error (.ref e)) { s with heap := h', toks := tk' })
    (hco : scope.isCoroutine = false := by rfl) (hgen : scope.isGenerator = false := by rfl) (hk : scope.kind = .function := by rfl) : codeAny (model PR w) A (.call (.ref f) args) R s := by
  have C' := C
  obtain ⟨cn, cs, L, a, ccd, cl, rfl, hkf⟩ := C'.shape
  obtain ⟨pg, loose, mean, mg, mb, T⟩ := C.T
  obtain ⟨m, hn, hm⟩ := I.ns
  have fr : s.heap.FunFrames base (envX cn cs L a ccd cl :: outer) := by
    refine .cons (by show cs.kind ≠ _; rw [hkf]; decide) rfl hn ?_ I.frames
    cases q : base.get? L with
    | none => rfl
    | some o => exact absurd (Nat.lt_of_lt_of_le (Heap.lt_size q) I.above) (Nat.lt_irrefl _)
  have B : Below A base (envX cn cs L a ccd cl :: outer) s.heap := ⟨C.frames, I.stays, fr⟩
  have hXs : (hd.heap_39 w.params).In s.heap := fun a o e => B.stays a o (C.K a o e)
  have hTs := T.keeps B.stays
  refine codeAny_call_def (fd := fnOf name qual params body scope dV kV doc pm an cdv ct) (body := body) (binds := binds) (by have := C.depth; omega) (hXs _ _ ho) rfl hTs.nolimit (codeRec_of hXs hcd) rfl hbind hcell hloc (fun h₁ hns hk₁ => ?_) hco hgen hk
  generalize hL0 : s.heap.objs.size = L' at *
  have hL' : s.heap.get? L' = none := Heap.get?_none_of_le (Nat.le_of_eq hL0)
  have F : Fr s.heap L' h₁ (fun y => binds.reverse.lookup y) := ⟨hns, hk₁, Nat.le_of_eq hL0⟩
  have C1 : Cx w d (A.deeper (envX qual scope L' f cdv [])) base (envX cn cs L a ccd cl :: outer) (envX qual scope L' f cdv []) :=
    ⟨Around.frames_deeper C.frames, C.handled, (by have := C.depth; show A.depth + 1 + 3 * d + 20 < _; omega), (by have := C.units; show A.units + 3 + 40 * d + 100 < _; omega), ⟨qual, scope, L', f, cdv, [], rfl, hk⟩, C.K, ⟨pg, loose, mean, mg, mb, T⟩⟩
  have kt : TupK s.heap h₁ := tupK_of F.keep
  have nL' := I.none_of hL'
  have hLlt : base.objs.size ≤ L' := Nat.le_trans (Nat.le_of_lt (Nat.lt_of_le_of_lt I.above hn.lt)) F.above
  have I1 : Inv w base (envX cn cs L a ccd cl :: outer) (envX qual scope L' f cdv []) [] loc0 σ h₁ := by
    refine ⟨fun b o e => F.keep b o (I.stays b o e), fr.of_keeps fun b o e _ => ⟨o, F.keep b o e, rfl⟩, hLlt, ?_, ⟨_, F.ns, fun x v hx => ?_⟩, fun b o e => (I.objs b o e).mono (fun c _ oc ec => F.keep c oc ec) kt, I.sep, fun b q => ⟨(I.apart b q).1, fun z => ?_, fun z => ?_⟩, fun _ q => nomatch q⟩
    · intro q
      rw [frs, List.filterMap_cons] at q
      rcases List.mem_cons.mp q with q | q
      · exact nL'.2.1 q
      · exact nL'.2.2.1 q
    · obtain ⟨rv, h1, h2⟩ := hrd.lookup hx
      exact ⟨rv, h1, h2.mono kt⟩
    · obtain ⟨o, e⟩ := Own.isSome I q
      rw [z] at e
      have : s.heap.get? L' = some o := e
      rw [hL'] at this; cases this
    · rw [frs, List.filterMap_cons] at z
      rcases List.mem_cons.mp z with z | z
      · exact (I.apart b q).2.1 z
      · exact (I.apart b q).2.2 z
  have old : ∀ b, h₁.get? b = none → s.heap.get? b = none := fun b z => by
    cases q : s.heap.get? b with
    | none => rfl
    | some o => rw [F.keep b o q] at z; cases z
  refine h L' _ _ _ _ _ _ C1 I1 (fun fl Γ₂ loc₂ σ₂ h₂ tk₂ q x₂ i₂ => ?_) fun c e loc₂ σ₂ h₂ tk₂ q x₂ i₂ f₂ => ?_
  · cases fl with
    | next =>
      obtain ⟨rfl, q⟩ := q
      obtain ⟨xx, ii⟩ := up I rfl rfl F.keep hL' x₂ (i₂.gamma fun _ q => nomatch q)
      exact hq _ .none _ h₂ tk₂ q xx (ii.cons .none)
    | ret rv =>
      obtain ⟨v, rfl, q⟩ := q
      obtain ⟨xx, ii⟩ := up I rfl rfl F.keep hL' x₂ (i₂.gamma fun _ q => nomatch q)
      exact hq _ v _ h₂ tk₂ q xx (ii.cons (i₂.gam (rv, v) (by simp)))
    | brk => exact q.elim
    | cont => exact q.elim
  · refine fly_leave (s := { s with heap := h₂, toks := tk₂ }) C1.frames rfl hk I1 x₂ i₂ f₂ fun h₃ x₃ i₃ f₃ => ?_
    obtain ⟨xx, ii⟩ := up I rfl rfl F.keep hL' x₃ i₃
    refine hX c e σ₂ h₃ tk₂ q xx (ii.gamma fun _ q => nomatch q) (f₃.older fun b o e => ⟨o, F.keep b o e⟩)
end
end Mine
end
section
open PySem PySem.W PyProof.Rows PySem.Spec PySem.Calls
set_option Elab.async false
set_option maxRecDepth 100000
set_option maxHeartbeats 8000000
set_option linter.unusedVariables false
namespace Mine
section
variable {w : World} {d : Nat} {base : Heap} {outer : List Env} {env : Env} {Γ : Gam} {loc : Loc} {σ : St} {h h' : Heap} {X : Str → St → Prop} {A : Around} {s : Shared}
/-- a class of the text's own is called; it has no base but object -/
theorem CT.cls {cC fI : Addr} {vs : List V} {name qual : Str} {params : Arguments} {body : List Stmt} {scope : Scope} {dV kV doc pm cdv ct oc : Value} {an od : Option Addr} {osl : Array (Option Value)} {binds : Addr → List Value → List (Str × Value)} {loc0 : Addr → Loc} {Q : V → St → Prop}
    (hm : makesIn (hd.heap_39 w.params) cC = true) (hi : findIn (hd.heap_39 w.params) (.ref cC) "__init__" = some (some (.ref fI))) (hf : isFn (hd.heap_39 w.params) (.ref fI) = true) (h139 : cC = 139)
    (ho : (hd.heap_39 w.params).lookup fI = some ⟨oc, od, .func (fnOf name qual params body scope dV kV doc pm an cdv ct), osl⟩) (hcd : codeIn (hd.heap_39 w.params) cdv qual = true)
    (hbind : ∀ (s : Shared) x rvs, (hd.heap_39 w.params).In s.heap → rvs.length = vs.length → BindsTo s (fnOf name qual params body scope dV kV doc pm an cdv ct) ⟨.ref x :: rvs, []⟩ (binds x rvs)) (hloc : ∀ x rvs, ∀ y ∈ binds x rvs, scope.names.lookup y.1 = some .local) (hcell : ∀ x ∈ scope.names, x.2 ≠ .cell)
    (hrd : ∀ (h : Heap) x rvs, RL h rvs vs → RD h (binds x rvs).reverse (loc0 x))
    (h : ∀ x dx L', σ x = none → WS w d (envX qual scope L' fI cdv []) body (loc0 x) (upd σ x (.inst dx [])) (fun _ σ' => Q (.ref x) σ') (fun _ _ => False) X)
    (hco : scope.isCoroutine = false := by rfl) (hgen : scope.isGenerator = false := by rfl) (hk : scope.kind = .function := by rfl) : CT w (d + 2) (.ref cC) vs σ Q X := by
  intro env loc rvs hl A base outer s QQ EE C I hq hX
  subst h139
  obtain ⟨m, F, hm'⟩ := I.fr
  have rl := rl_of_zip hl I.gam
  have C' := C
  obtain ⟨cn, cs, L, a, ccd, cl, rfl, hkf⟩ := C'.shape
  refine call_cls F C.K I.news0 hm hi hf fun x dx h₁ F₁ N₁ hlt hdx => ?_
  have kp : ∀ b ob, b ≠ L → s.heap.get? b = some ob → h₁.get? b = some ob := fun b ob n e => rest_keeps F₁ N₁ (fun p hp => .tail _ (.tail _ hp)) I.stays b ob (Nat.ne_of_lt (Heap.lt_size e)) n e
  have fresh : ∀ b ob, (b, ob) ∈ (x, instObj 139 dx) :: [(dx, PySem.W.dictOf [] 0)] → s.heap.get? b = none := fun b ob hb => by
    cases q : s.heap.get? b with
    | none => rfl
    | some o =>
      have hb' : (b, ob) ∈ (x, instObj 139 dx) :: (dx, PySem.W.dictOf [] 0) :: rest base s.heap L s.heap.objs.size := by
        rcases List.mem_cons.mp hb with hb | hb
        · exact hb ▸ .head _
        · cases List.mem_singleton.mp hb; exact .tail _ (.head _)
      obtain ⟨n1, n2, n3⟩ := N₁ _ hb'
      have := hlt (b, o) (mem_rest.mpr ⟨q, n3, n2, Nat.ne_of_lt (Heap.lt_size q)⟩)
      rcases List.mem_cons.mp hb with hb | hb
      · cases hb; exact absurd (Nat.lt_trans this hdx) (Nat.lt_irrefl _)
      · cases List.mem_singleton.mp hb; exact absurd this (Nat.lt_irrefl _)
  have fx := fresh x _ (.head _)
  have fdx := fresh dx _ (.tail _ (.head _))
  have ex := (N₁ _ (.head _)).1
  have edx := (N₁ _ (.tail _ (.head _))).1
  obtain ⟨i₁, x₁, n₁⟩ := I.alloc' (o := .inst dx []) kp (fr_ns F F₁) (fun kt => ⟨ex, [], 0, edx, .nil⟩) (fun b hb => by
    rcases List.mem_cons.mp hb with rfl | hb
    · exact fx
    · cases List.mem_singleton.mp hb; exact fdx)
  have C₁ : Cx w (d + 1) (A.under (.builtin "type.__call__" ⟨.ref 139 :: rvs, []⟩)) base outer (envX cn cs L a ccd cl) :=
    ⟨C.frames, C.handled, (by rw [depth_under_make]; have := C.depth; omega), (by rw [units_under_make]; have := C.units; omega), ⟨cn, cs, L, a, ccd, cl, rfl, hkf⟩, C.K, C.T⟩
  refine code_call (X := X) (vs := .ref x :: vs) (rvs := .ref x :: rvs) (Q := fun v σ' => v = .none ∧ Q (.ref x) σ') C₁ i₁ ho hcd (hbind _ x rvs (C₁.K.keeps i₁.stays) hl) (hloc x rvs) hcell (hrd _ x rvs (rl.mono (x₁.tup I))) (fun L' => ?_) (fun rv v σ' h' tk' ⟨hv, q⟩ x₂ i₂ => ?_) (fun c e σ' h' tk' q x₂ i₂ f => ?_) hco hgen hk
  · exact (h x dx L' n₁).mono (fun _ _ q => ⟨rfl, q⟩) fun _ _ q => q.elim
  · subst hv
    have := i₂.gam (rv, .none) (by simp)
    dsimp only at this
    cases this
    refine ⟨rfl, ?_⟩
    exact hq (.ref x) [(.ref x, .ref x)] loc σ' h' tk' ⟨.ref x, rfl, rfl, q⟩ (x₁.trans x₂) ((i₂.gamma fun p hp => i₂.gam p (.tail _ hp)).cons .ref)
  · exact hX c e loc σ' h' tk' q (x₁.trans x₂) i₂ (f.older x₁.ex)
end
end Mine
end
section
open PySem PySem.W PyProof.Rows PySem.Spec PySem.Calls
set_option Elab.async false
set_option maxRecDepth 100000
set_option maxHeartbeats 4000000
set_option linter.unusedVariables false
namespace Mine
open PySem.F
section
variable {prog : Program} {w : World} {A : Around} {E : Value → Shared → Prop} {h : Heap} {g : Array GenState} {d : Drawn} {t : Nat} {os : OsState} {a : Addr} {o : Obj}
  {nm q : Str} {C N : Addr} {bs bm : List Value} {hdct : Bool} {sn : List Str} {sub : List Value} {ab : Bool} {col : Option Bool} {dd : Option Addr} {k0 k1 k2 k3 k5 : Option Value} {newId : String} {mN : Str → Option Value}
theorem be_get_entry {tk : Tok} {D : Addr} {oD : Obj} {v : Value} {name : Str} {vs : Array Value} {es : Array DictEntry} {n : Nat} {Q : Fin → Shared → Prop} (hm : mroOf (.type "Exception") = pure bm)
    (hC : h.get? C = some (excClassObj nm q C N bs bm true sn sub ab col dd k0 k1 k2 k3 k5 newId)) (hn : h.Ns N mN) (hna : mN name = none) (hB : typeLookup (.type "Exception") name = pure none)
    (hx : h.get? a = some o) (hc : o.cls = .ref C) (hd : o.data = .fields vs) (hD : o.dict = some D) (hoD : h.get? D = some oD) (hdD : oD.data = .dict es n) (hl : lookIn name oD = some (some v)) (hv : handedIn v = true)
    (hq : Q (.done (.ret v)) ⟨h, g, d, t, os⟩) :
    wpAny (model prog w) A (Builtin.«object.__getattribute__» ⟨[.ref a, .str name tk], []⟩) Q E ⟨h, g, d, t, os⟩ := by
  unfold Builtin.«object.__getattribute__»
  repeat (any_goals (first | assumption | (with_reducible refine wpAny_loadPart_at hx ?_; rw [hc]) | (with_reducible refine wpAny_typeLookup_exc hC hn hm hB ?_; rw [hna]) | wp_step))
  rw [hd]
  dsimp only
  unfold instanceDict
  repeat (any_goals (first | assumption | (with_reducible refine wpAny_loadPart_at hx ?_; rw [hc]) | (with_reducible refine wpAny_loadPart_at hC ?_) | wp_step))
  rw [hD]
  dsimp only
  refine wpAny_pure ?_
  show wpAny _ _ (nsGet D name) _ _ _
  unfold nsGet
  refine wpAny_bind (wpAny_load hoD ?_)
  rw [nsLook_of hl]
  refine wpAny_pure ?_
  dsimp only
  repeat (any_goals (first | assumption | wp_step))

theorem be_get_call {tk : Tok} {D : Addr} {oD : Obj} {v : Value} {name : Str} {vs : Array Value} {es : Array DictEntry} {n : Nat} {R : Result → Shared → Prop} (hbm : bm = [.type "Exception", .type "BaseException", .type "object"])
    (hC : h.get? C = some (excClassObj nm q C N bs bm true sn sub ab col dd k0 k1 k2 k3 k5 newId)) (hn : h.Ns N mN) (hna : mN name = none) (hB : typeLookup (.type "Exception") name = pure none)
    (hx : h.get? a = some o) (hc : o.cls = .ref C) (hd : o.data = .fields vs) (hD : o.dict = some D) (hoD : h.get? D = some oD) (hdD : oD.data = .dict es n) (hl : lookIn name oD = some (some v)) (hv : handedIn v = true)
    (hq : R (.ok (.ret v)) ⟨h, g, d, t, os⟩) :
    codeAny (model prog w) A (.call (.builtin "BaseException.__getattribute__") ⟨[.ref a, .str name tk], []⟩) R ⟨h, g, d, t, os⟩ := by
  have FB := PySem.F.attrBase_Exception
  subst hbm
  refine codeAny_call_builtin FB.ga.plain F.entry_bexc_ga ?_
  refine wpAny_check_ga_own FB hC .base hx hc (be_get_entry FB.mro hC hn hna hB hx hc hd hD hoD hdD hl hv hq)
theorem be_get_attr {D : Addr} {oD : Obj} {v : Value} {name : Str} {vs : Array Value} {es : Array DictEntry} {n : Nat} {expr : Bool} {Q : Value → Shared → Prop} (hbm : bm = [.type "Exception", .type "BaseException", .type "object"])
    (hC : h.get? C = some (excClassObj nm q C N bs bm true sn sub ab col dd k0 k1 k2 k3 k5 newId)) (hn : h.Ns N mN) (hna : mN name = none) (hg1 : mN "__getattribute__" = none) (hg2 : mN "__getattr__" = none) (hB : typeLookup (.type "Exception") name = pure none)
    (hx : h.get? a = some o) (hc : o.cls = .ref C) (hd : o.data = .fields vs) (hD : o.dict = some D) (hoD : h.get? D = some oD) (hdD : oD.data = .dict es n) (hl : lookIn name oD = some (some v)) (hv : handedIn v = true)
    (hq : Q v ⟨h, g, d, t + 1, os⟩) :
    wpAny (model prog w) A (getAttr (.ref a) name expr) Q E ⟨h, g, d, t, os⟩ := by
  have FB := PySem.F.attrBase_Exception
  have f3 := FB.ga.bind (.ref a)
  have hx0 : (expr && onTheHeap (Value.builtin "BaseException.__getattribute__")) = false := by cases expr <;> rfl
  have hx2 : (Value.builtin "BaseException.__getattribute__" == Value.builtin "object.__getattribute__") = false := by decide +kernel
  have hx1 : (onTheHeap (Value.ref C) && Value.builtin "BaseException.__getattribute__" == Value.builtin "object.__getattribute__") = false := by rw [hx2]; rfl
  unfold getAttr
  subst hbm
  repeat (any_goals (first | assumption | (with_reducible refine wpAny_loadPart_at hx ?_; rw [hc]) | (with_reducible refine wpAny_typeLookup_exc hC hn FB.mro FB.ga.lookup ?_; rw [hg1]) | (with_reducible refine wpAny_typeLookup_exc hC hn FB.mro FB.noGetattr ?_; rw [hg2]) | wp_step))
  refine be_get_call rfl hC hn hna hB hx hc hd hD hoD hdD hl hv ?_
  dsimp only
  rw [handedOut_of hv]
  exact wpAny_pure hq
end
theorem be_ns2_of {h : Heap} {mN : Str → Option Value} (n : h.Ns 33 mN) (h1 : mN "__getattribute__" = none) (h2 : mN "__getattr__" = none) (h3 : mN "code" = none) : ∃ mN, h.Ns 33 mN ∧ mN "__getattribute__" = none ∧ mN "__getattr__" = none ∧ mN "code" = none := ⟨mN, n, h1, h2, h3⟩
theorem be_ns2 {w : World} {h : Heap} (X : (hd.heap_39 w.params).In h) : ∃ mN, h.Ns 33 mN ∧ mN "__getattribute__" = none ∧ mN "__getattr__" = none ∧ mN "code" = none := by
  refine' be_ns2_of (ns_lookup X ?a ?b ?c) ?d1 ?d2 ?d3
  (case a => k_is)
  (case b => exact rfl)
  · intro e he
    simp only [Array.mem_iff_getElem, List.size_toArray] at he
    obtain ⟨i, hi, rfl⟩ := he
    simp only [List.length_cons, List.length_nil] at hi
    match i, hi with
    | 0, _ => exact ⟨_, _, rfl⟩
    | 1, _ => exact ⟨_, _, rfl⟩
    | 2, _ => exact ⟨_, _, rfl⟩
    | 3, _ => exact ⟨_, _, rfl⟩
    | 4, _ => exact ⟨_, _, rfl⟩
    | 5, _ => exact ⟨_, _, rfl⟩
  all_goals rfl
end Mine
end
section
open PySem PySem.W PyProof.Rows PySem.Spec PySem.Calls
set_option Elab.async false
set_option maxRecDepth 100000
set_option maxHeartbeats 4000000
set_option linter.unusedVariables false
namespace Mine
section
variable {w : World} {d : Nat} {base : Heap} {outer : List Env} {env : Env} {Γ : Gam} {loc : Loc} {σ : St} {h h' : Heap} {X : Str → St → Prop} {N : Loc → St → Prop} {R : V → St → Prop}
theorem Inv.setO {x : Str} {v : Option Value} {m : Str → Option Value} (I : Inv w base outer env Γ loc σ h) (hn : h.Ns env.locals m) (hn' : h'.Ns env.locals (fun y => if y = x then v else m y)) (hs : Heap.SameBut env.locals h h') (hx : alook loc x = none) :
    Inv w base outer env Γ loc σ h' ∧ Ext env outer σ σ h h' := by
  have kt : TupK h h' := fun b vs t => by
    obtain ⟨n1, n2⟩ := I.tup_off t
    obtain ⟨ob, e, z⟩ := t
    exact ⟨ob, (hs.2 b n2).trans e, z⟩
  refine ⟨⟨fun b ob e => (hs.2 b (fun q => ?_)).trans (I.stays b ob e), frames_on I.frames fun b hb ob e => ⟨ob, (hs.2 b (fun q => I.off (q ▸ hb))).trans e, rfl⟩, I.above, I.off, ?_, fun b ob e => (I.objs b ob e).mono (fun c hc oc ec => (hs.2 c (I.apart c ⟨b, ob, e, hc⟩).2.1).trans ec) kt, I.sep, I.apart, fun p hp => (I.gam p hp).mono kt⟩,
    ⟨fun b ob e n1 _ => ⟨ob.slots, (hs.2 b n1).trans e, fun _ => rfl⟩, fun b q => .inl q, fun b ob e => ?_⟩⟩
  · have := Heap.lt_size e; rw [q] at this; exact absurd (Nat.lt_of_lt_of_le this I.above) (Nat.lt_irrefl _)
  · obtain ⟨m', hn2, hm⟩ := I.ns
    have em : m' = m := by
      obtain ⟨o, es, ep, h1, h2, _, h3⟩ := hn2
      obtain ⟨o', es', ep', g1, g2, _, g3⟩ := hn
      rw [h1] at g1; cases g1
      rw [h2] at g2; cases g2
      funext x
      rw [← h3, ← g3]
    subst em
    refine ⟨_, hn', fun y u hy => ?_⟩
    by_cases q : y = x
    · rw [q, hx] at hy; cases hy
    · obtain ⟨rv', h1, h2⟩ := hm y u hy
      exact ⟨rv', by rw [if_neg q]; exact h1, h2.mono kt⟩
  · by_cases q : b = env.locals
    · obtain ⟨o2, _, _, e2, _⟩ := hn'
      rw [q]; exact ⟨o2, e2⟩
    · exact ⟨ob, (hs.2 b q).trans e⟩

theorem catch_first {M : Model} {A : Around} {E : Value → Shared → Prop} {s : Shared} {L e D : Addr} {oe : Obj} {vs : Array Value} {Q : Unit → Shared → Prop}
    (hfr : A.frames = some (env :: outer)) (hl : s.heap.FunFrames base (env :: outer)) (hf : env.frame = some L)
    (he : s.heap.get? e = some oe) (hc : oe.cls = .ref 34) (hD : oe.dict = some D) (hd : oe.data = .fields vs) (h1 : vs[1]? = some .none)
    (h : ∀ h' T', Mv ((env :: outer).filterMap (·.frame)) [e] s.heap h' → s.heap.get? T' = none → Tr h' e T' D .none → Q () { s with heap := h' }) :
    wpAny M A (noteFrame (.ref e) env) (fun _ s₂ => wpAny M A (setFlight (.ref e) none) Q E s₂) E s := by
  refine note_first hfr hl hf he hc hD hd h1 fun h₁ T₁ m₁ n₁ t₁ => flight_none t₁ fun h₂ m₂ t₂ => h h₂ T₁ (fun b o hb hx => ?_) n₁ t₂
  obtain ⟨s1, e1, f1⟩ := m₁ b o hb hx
  obtain ⟨s2, e2, f2⟩ := m₂ b _ e1 fun q => by
    obtain rfl : b = T₁ := List.mem_singleton.mp q
    rw [hb] at n₁
    cases n₁
  exact ⟨s2, e2, fun q => (f2 (fun z => nomatch z)).trans (f1 q)⟩
theorem catch_next {M : Model} {A : Around} {E : Value → Shared → Prop} {s : Shared} {L e T D : Addr} {Q : Unit → Shared → Prop}
    (hfr : A.frames = some (env :: outer)) (hl : s.heap.FunFrames base (env :: outer)) (hf : env.frame = some L) (t : Tr s.heap e T D .none)
    (h : ∀ h' T', Mv ((env :: outer).filterMap (·.frame)) [e, T] s.heap h' → s.heap.get? T' = none → Tr h' e T' D .none → Q () { s with heap := h' }) :
    wpAny M A (noteFrame (.ref e) env) (fun _ s₂ => wpAny M A (setFlight (.ref e) none) Q E s₂) E s := by
  refine note_next hfr hl hf t fun h₁ T₁ m₁ n₁ t₁ => flight_none t₁ fun h₂ m₂ t₂ => h h₂ T₁ (fun b o hb hx => ?_) n₁ t₂
  obtain ⟨s1, e1, f1⟩ := m₁ b o hb hx
  obtain ⟨s2, e2, f2⟩ := m₂ b _ e1 fun q => by
    obtain rfl : b = T₁ := List.mem_singleton.mp q
    rw [hb] at n₁
    cases n₁
  exact ⟨s2, e2, fun q => (f2 (fun z => nomatch z)).trans (f1 q)⟩

/-- an error arrives at a try of the frame -/
theorem fly_catch {M : Model} {A : Around} {E : Value → Shared → Prop} {s : Shared} {h₀ : Heap} {σ₀ : St} {Γ₀ : Gam} {loc₀ : Loc} {e : Addr} {c : Str} {Q : Unit → Shared → Prop}
    (hA : A.frames = some (env :: outer)) (hf : env.frame = some env.locals) (hk : env.scope.kind = .function) (I₀ : Inv w base outer env Γ₀ loc₀ σ₀ h₀) (x : Ext env outer σ₀ σ h₀ s.heap) (I : Inv w base outer env Γ loc σ s.heap) (f : Fly σ h₀ s.heap e c)
    (hQ : ∀ h' T D oD, Ext env outer σ₀ σ h₀ h' → Inv w base outer env Γ loc σ h' → Tr h' e T D .none → h'.get? D = some oD → CodeDict oD c → h₀.get? T = none → ¬ Own σ T → h₀.get? e = none → ¬ Own σ e → h₀.get? D = none → Q () { s with heap := h' }) :
    wpAny M A (noteFrame (.ref e) env) (fun _ s₂ => wpAny M A (setFlight (.ref e) none) Q E s₂) E s := by
  have fr : s.heap.FunFrames base (env :: outer) := by
    obtain ⟨m, hn, _⟩ := I.ns
    refine .cons (by rw [hk]; decide) hf hn ?_ I.frames
    cases q : base.get? env.locals with
    | none => rfl
    | some o => exact absurd (Nat.lt_of_lt_of_le (Heap.lt_size q) I.above) (Nat.lt_irrefl _)
  have back : ∀ b, s.heap.get? b = none → h₀.get? b = none := fun b z => by
    cases q : h₀.get? b with
    | none => rfl
    | some o => obtain ⟨o', e'⟩ := x.ex b o q; rw [z] at e'; cases e'
  rcases f.body with ⟨oe, vs, D, oD, he, hc, hD, hd, h1, hDo, hDc, hDn⟩ | ⟨T, D, oD, tr, hDo, hDc, hT, hTo, hDn⟩
  · refine catch_first hA fr hf he hc hD hd h1 fun h' T' m n t' => ?_
    have as := aside_of x I₀ hf f.newE f.offE (fields_notup he hd)
    have mv : Moved (frs (env :: outer)) e e s.heap h' := fun b o eb n1 _ => m b o eb (by simpa using n1)
    have x' := x.moved mv f.newE f.newE
    have i' := I.moved hf mv as as
    have nT' := I.none_of n
    obtain ⟨⟨es, nn, hdD⟩, tk, hlk⟩ := hDc
    obtain ⟨sl, eD, _⟩ := mv D oD hDo (fun q => by rw [q, he] at hDo; cases hDo; rw [hd] at hdD; cases hdD) (fun q => by rw [q, he] at hDo; cases hDo; rw [hd] at hdD; cases hdD)
    exact hQ h' T' D _ x' i' t' eD ⟨⟨es, nn, hdD⟩, tk, hlk⟩ (back _ n) nT'.2.2.2.1 f.newE f.offE hDn
  · have tr' := tr
    obtain ⟨⟨oe, vs, he, hc, hD, hd, h1⟩, hne, oT, ts, hTo', hdT, h3⟩ := tr'
    refine catch_next hA fr hf tr fun h' T' m n t' => ?_
    have as := aside_of x I₀ hf f.newE f.offE (fields_notup he hd)
    have asT := aside_of x I₀ hf hT hTo (fields_notup hTo' hdT)
    have mv : Moved (frs (env :: outer)) e T s.heap h' := fun b o eb n1 n2 => m b o eb (by simp [n1, n2])
    have x' := x.moved mv f.newE hT
    have i' := I.moved hf mv as asT
    have nT' := I.none_of n
    obtain ⟨⟨es, nn, hdD⟩, tk, hlk⟩ := hDc
    obtain ⟨sl, eD, _⟩ := mv D oD hDo (fun q => by rw [q, he] at hDo; cases hDo; rw [hd] at hdD; cases hdD) (fun q => by rw [q, hTo'] at hDo; cases hDo; rw [hdT] at hdD; cases hdD)
    exact hQ h' T' D _ x' i' t' eD ⟨⟨es, nn, hdD⟩, tk, hlk⟩ (back _ n) nT'.2.2.2.1 f.newE f.offE hDn

/-- the one try: the body, and an own error caught whose code is told -/
theorem WX.heard {body : List Stmt} {p1 p2 p3 p4 p5 p6 p7 p8 : Pos} {k : Nat} (hx : env.kindOf "BasicError" = some .globalImplicit) (en : nsIn (hd.heap_39 w.params) mainGlobals "BasicError" = some (some (.ref 34)))
    (he : env.kindOf "e" = some .local) (h : WS w d env body loc σ N R (fun c σ' => c.length ≤ 100 ∧ R (.str ("error " ++ c)) σ')) :
    WX w d env (.Try body [.ExceptHandler (some (.Name "BasicError" p1)) (some "e") [.Return (some (.BinOp (.Constant (.str "error ") k p2) .Add (.Attribute (.Name "e" p3) "code" p4) p5)) p6] p7] [] [] p8) loc σ N R X := by
  intro A base outer s QQ EE C I hq hX
  have C' := C
  obtain ⟨cn, cs, L, a, ccd, cl, rfl, hkf⟩ := C'.shape
  refine wpAny_Try_except (h A base outer _ _ _ C I (fun fl Γ₂ loc₂ σ₂ h₂ tk₂ q x₂ i₂ => ?_) fun c e loc₂ σ₂ h₂ tk₂ ⟨hlen, q⟩ x₂ i₂ f₂ => ?_)
  · cases fl with
    | next => exact wpAny_execs_nil (hq _ _ _ _ h₂ tk₂ q x₂ i₂)
    | ret rv => exact hq _ _ _ _ h₂ tk₂ q x₂ i₂
    | brk => exact q.elim
    | cont => exact q.elim
  refine fly_catch (s := { s with heap := h₂, toks := tk₂ }) C.frames rfl hkf I x₂ i₂ f₂ fun h₃ T D oD x₃ i₃ tr hDo hDc hT hTo hne hno hDn => ?_
  obtain ⟨pg, loose, mean, mg, mb, Tp⟩ := C.T
  obtain ⟨nm, q', bs, sn, sub, ab, col, dd, k0, k1, k2, k3, k5, hC⟩ := be_cls w
  have hC3 := i₃.stays _ _ (C.K _ _ hC)
  have i₃' : Inv w base outer (envX cn cs L a ccd cl) [] [] σ₂ h₃ := i₃.less .nil .refl
  obtain ⟨m, F, _⟩ := i₃'.fr
  refine wpAny_handleBy_cons (codeAny_handlers_test (nameX_K F C.K (topRead_of Tp) en ?_ hkf hx)) (by intro q; cases q)
  have tr' := tr
  obtain ⟨⟨oe, vs, hoe, hoc, hoD, hod, ho1⟩, hTe, oT, ts, hoT, hodT, hts⟩ := tr'
  refine wpAny_excMatches_sub_self hC3 hoe hoc (by decide) (codeAny_handlers_suite_as ?_)
  refine flight_none (s := ⟨h₃, s.gens, s.drawn, tk₂, s.os⟩) tr fun h₄ m₄ t₄ => ?_
  have mv : Moved (frs (envX cn cs L a ccd cl :: outer)) e T h₃ h₄ := fun b o eb n1 n2 => by
    obtain ⟨sl, e', f⟩ := m₄ b o eb (by simpa using n2)
    exact ⟨sl, e', fun _ => f (fun z => nomatch z)⟩
  have as := aside_of x₃ I rfl hne hno (fields_notup hoe hod)
  have asT := aside_of x₃ I rfl hT hTo (fields_notup hoT hodT)
  have i₄ := i₃'.moved rfl mv as asT
  have x₄ := x₃.moved mv hne hT
  obtain ⟨m4, F4, _⟩ := i₄.fr
  refine wpAny_storeName_local he F4.ns (fun h₅ hn₅ hs₅ => ?_) (by show (cs.kind == .class || (cs.kind == .module && L != mainGlobals)) = false; rw [hkf]; rfl)
  obtain ⟨i₅, x₅⟩ := i₄.setL (v := .ref e) F4.ns hn₅ hs₅ .ref
  have hr : (⟨h₅, s.gens, s.drawn, tk₂ + 1, s.os⟩ : Shared) = ⟨h₅, s.gens, s.drawn, tk₂ + 1, s.os⟩ := rfl
  refine wpAny_execs_cons (wpAny_Return_some (wpAny_BinOp ?_))
  refine Constant_str ?_
  refine Attribute_name (wpAny_Name (wpAny_loadName_local hkf he hn₅ (if_pos rfl) ?_) (by decide))
  have X5 : (hd.heap_39 w.params).In h₅ := C.K.keeps i₅.stays
  obtain ⟨mN, hN, g1, g2, g3⟩ := be_ns2 X5
  obtain ⟨⟨oe4, vs4, he4, hc4, hD4, hd4, ho4⟩, _⟩ := t₄
  obtain ⟨⟨es, nn, hdD⟩, tkc, hlk⟩ := hDc
  have hLT : L ≠ e := fun z => by
    obtain ⟨m0, ⟨o0, es0, ep0, eo0, _⟩, _⟩ := I.ns
    have : s.heap.get? L = some o0 := eo0
    rw [z, hne] at this; cases this
  have hLD : L ≠ D := fun z => by
    obtain ⟨m0, ⟨o0, es0, ep0, eo0, _⟩, _⟩ := I.ns
    have : s.heap.get? L = some o0 := eo0
    rw [z, hDn] at this; cases this
  have he5 := (hs₅.2 e hLT.symm).trans he4
  have hDT : D ≠ T := fun z => by rw [z, hoT] at hDo; cases hDo; rw [hodT] at hdD; cases hdD
  obtain ⟨slD, hD4', _⟩ := m₄ D oD hDo (by simpa using hDT)
  have hD5 := (hs₅.2 D hLD.symm).trans hD4'
  refine be_get_attr (v := .str c tkc) rfl (i₅.stays _ _ (C.K _ _ hC)) hN g3 g1 g2 be_no_code he5 hc4 hd4 hD4 hD5 hdD hlk rfl ?_
  have h6 : (Str.ofString "error ").length = 6 := by decide
  refine SBL.add (fun t' k' _ => ?_) (by rw [sizeLine_eq, h6]; omega)
  have i₅' : Inv w base outer (envX cn cs L a ccd cl) [] [] σ₂ h₅ := i₅.less .nil .refl
  refine wpAny_nameGoes_keeps he hn₅ (by show (cs.kind == .class || (cs.kind == .module && L != mainGlobals)) = false; rw [hkf]; rfl) fun h₆ v hn₆ hs₆ => ?_
  obtain ⟨i₆, x₆⟩ := i₅'.setO hn₅ hn₆ hs₆ rfl
  exact hq (.ret (.str ("error " ++ c) t')) [(.str ("error " ++ c) t', .str ("error " ++ c))] [] σ₂ h₆ _ ⟨_, rfl, q⟩ ((x₄.trans x₅).trans x₆) (i₆.cons .str)
end
end Mine
end
section
open PySem PySem.W PyProof.Rows PySem.Spec PySem.Calls
set_option Elab.async false
set_option maxRecDepth 100000
set_option maxHeartbeats 4000000
set_option linter.unusedVariables false
namespace Mine
theorem trip_ok : ∀ l, TriplesOk (trip l)
  | [] => trivial
  | (a, b, c) :: r => trip_ok r
theorem trip_find {pos : Pos} {cv : Value} : ∀ {l : List (Int × Int × Addr)}, codeAmong pos (trip l) = some cv → ∃ e ∈ l, cv = .ref e.2.2
  | [], h => by cases h
  | (a, b, c) :: r, h => by
    have h : (if ((a.toNat : Int) == (pos.line : Int) && (b.toNat : Int) == (pos.col : Int)) = true then some (Value.ref c) else codeAmong pos (trip r)) = some cv := by
      rw [← h]; show _ = codeAmong pos (Value.int _ 0 :: Value.int _ 0 :: .ref c :: trip r); rw [codeAmong]
    split at h
    · cases h; exact ⟨_, .head _, rfl⟩
    · obtain ⟨e, he, z⟩ := trip_find h
      exact ⟨e, .tail _ he, z⟩
theorem trip_snoc (l : List (Int × Int × Addr)) (a b : Nat) (c : Addr) : trip (l ++ [((a : Int), (b : Int), c)]) = trip l ++ [rawInt a, rawInt b, .ref c] := by
  induction l with
  | nil => rfl
  | cons x r ih => obtain ⟨u, v, z⟩ := x; show _ :: _ :: _ :: trip (r ++ _) = _; rw [ih]; rfl
section
variable {w : World} {d : Nat} {base : Heap} {outer : List Env} {env : Env} {Γ : Gam} {loc : Loc} {σ : St} {h h' : Heap} {X : Str → St → Prop}

/-- the table of a def's own lambdas; all bear one name -/
def TabOk (P : Addr) (q : Str) (σ : St) : Prop := ∃ l, σ P = some (.tab l) ∧ ∀ e ∈ l, σ e.2.2 = some (.code q)

theorem WE.lambda {body : Expr} {scope : Scope} {pos : Pos} {c P : Addr} {clos : List (Str × Addr)} {qual : Str} {Q : V → St → Prop} (hcode : env.code = .ref c) (hCH : ∀ h, (hd.heap_39 w.params).In h → CodeHd h c P)
    (hcl : closureFor scope env = pure clos) (hqual : env.qual ++ "<lambda>" = qual) (hT : TabOk P qual σ)
    (q : ∀ f c' σ', TabOk P qual σ' → σ' f = some (.lam body scope clos qual c') → σ' c' = some (.code qual) → (∀ b o, b ≠ P → σ b = some o → σ' b = some o) → Q (.ref f) σ') :
    WE w d env (.Lambda noArgs body scope pos) loc σ Q X := by
  intro A base outer s QQ EE C I hq hX
  obtain ⟨l, hP, hl⟩ := hT
  have C' := C
  obtain ⟨cn, cs, L, a, ccd, cl, rfl, hkf⟩ := C'.shape
  obtain ⟨pg, loose, mean, mg, mb, T⟩ := C.T
  obtain ⟨ps, hPs, hps⟩ := I.objs _ _ hP
  have hgs := T.g.keeps I.stays
  obtain ⟨bm, ob, b1, b2, b3, b4, b5, b6⟩ := T.bmain
  have ownP : Own σ P := ⟨P, _, hP, .head _⟩
  have apP := I.apart P ownP
  have hgP : mainGlobals ≠ P := fun q => by
    obtain ⟨o, es, ep, e, hd, _⟩ := T.g
    rw [q, apP.1] at e; cases e
  have hbP : bm ≠ P := fun q => by rw [q, apP.1] at b3; cases b3
  have hbG : bm ≠ mainGlobals := fun q => by
    obtain ⟨o, es, ep, e, hd, _⟩ := T.g
    rw [q, e] at b3; cases b3; rw [hd] at b6; cases b6
  have hb : s.heap.BuiltinsAt mg P := ⟨bm, ob, b1, b2, hbG, hbP, I.stays _ _ b3, b4, b5, b6⟩
  have CH := hCH _ (C.K.keeps I.stays)
  have ht : TriplesOk ps.toList := hps ▸ trip_ok l
  refine kla_eval (rfl : defaultsOf noArgs _ = ([], [])) ?_
  rw [hqual]
  cases hf : codeAmong pos ps.toList with
  | some cv =>
    obtain ⟨e, he, rfl⟩ := trip_find (hps ▸ hf)
    refine kla_makeFunctionHit (mg := mg) hcl rfl hgs hcode CH hPs ht hf hb fun ctv h' tk k hsz => ?_
    obtain ⟨i₁, x₁, _⟩ := I.grown (fun b ob _ e => k b ob e) (fun m hn => hn.keeps k)
    obtain ⟨i₂, x₂, n₂⟩ := i₁.alloc (a := h'.objs.size) (o := .lam body scope clos qual e.2.2) (h' := h'.push (kla_obj "<lambda>" qual noArgs body scope clos ((mg "__name__").getD .none) e.2.2 ctv)) (fun b ob e => Heap.get?_push_of_some _ e) ⟨_, _, Heap.get?_push_size _ rfl⟩ (fun b hb => by cases List.mem_singleton.mp hb; exact Heap.get?_none_of_le (Nat.le_refl _))
    have le := le_upd (o := .lam body scope clos qual e.2.2) n₂
    refine hq (.ref h'.objs.size) [(.ref h'.objs.size, .ref h'.objs.size)] loc _ _ tk ⟨_, rfl, rfl, q _ e.2.2 _ ⟨l, le _ _ hP, fun e he => le _ _ (hl e he)⟩ upd_self (le _ _ (hl e he)) fun b o _ eb => le _ _ eb⟩ (x₁.trans x₂) (i₂.cons .ref)
  | none =>
    refine kla_makeFunction (mg := mg) hcl rfl hgs hcode CH hPs ht hf hgP hb fun c' ctv h' tk hx hge hlt hrec htb => ?_
    -- the table alone
    have hu : (s.heap.update P fun _ => tabObj (ps ++ #[rawInt pos.line, rawInt pos.col, .ref c'])).get? P = some (tabObj (ps ++ #[rawInt pos.line, rawInt pos.col, .ref c'])) := Heap.get?_update_self _ hPs rfl
    have hun : ∀ b, b ≠ P → (s.heap.update P fun _ => tabObj (ps ++ #[rawInt pos.line, rawInt pos.col, .ref c'])).get? b = s.heap.get? b := fun b hb => Heap.get?_update_ne _ _ _ _ hb
    have hLP : L ≠ P := fun z => apP.2.1 z.symm
    have hsz : (s.heap.update P fun _ => tabObj (ps ++ #[rawInt pos.line, rawInt pos.col, .ref c'])).objs.size = s.heap.objs.size := by cases hh : s.heap; simp [Heap.update]
    generalize (s.heap.update P fun _ => tabObj (ps ++ #[rawInt pos.line, rawInt pos.col, .ref c'])) = h₁ at hu hun hsz
    obtain ⟨i₁, x₁⟩ := I.change (h' := h₁) (o' := .tab (l ++ [((pos.line : Int), (pos.col : Int), c')])) hP (.head _) rfl (fun b ob n1 n2 e => (hun b n1).trans e) (fun m hn => by obtain ⟨o, es, ep, e, r⟩ := hn; exact ⟨o, es, ep, (hun L hLP).trans e, r⟩) ⟨_, hu⟩ (fun _ => ⟨_, hu, by rw [Array.toList_append, hps, trip_snoc]⟩)
    have k₂ : ∀ b ob, h₁.get? b = some ob → h'.get? b = some ob := fun b ob e => by
      by_cases z : b = P
      · rw [z, hu] at e; cases e; rw [z]; exact htb
      · rw [hun b z] at e; exact hx b ob z e
    obtain ⟨i₂, x₂, n₂⟩ := i₁.alloc (a := c') (o := .code qual) k₂ hrec (fun b hb => by cases List.mem_singleton.mp hb; exact Heap.get?_none_of_le (by rw [hsz]; exact hge))
    obtain ⟨i₃, x₃, n₃⟩ := i₂.alloc (a := h'.objs.size) (o := .lam body scope clos qual c') (h' := h'.push (kla_obj "<lambda>" qual noArgs body scope clos ((mg "__name__").getD .none) c' ctv)) (fun b ob e => Heap.get?_push_of_some _ e) ⟨_, _, Heap.get?_push_size _ rfl⟩ (fun b hb => by cases List.mem_singleton.mp hb; exact Heap.get?_none_of_le (Nat.le_refl _))
    have le₂ := le_upd (o := .code qual) n₂
    have le₃ := le_upd (o := .lam body scope clos qual c') n₃
    have keep : ∀ b o, b ≠ P → σ b = some o → upd (upd (upd σ P (.tab (l ++ [((pos.line : Int), (pos.col : Int), c')]))) c' (.code qual)) h'.objs.size (.lam body scope clos qual c') b = some o := fun b o n e => le₃ _ _ (le₂ _ _ ((upd_ne n).trans e))
    refine hq (.ref h'.objs.size) [(.ref h'.objs.size, .ref h'.objs.size)] loc _ _ tk ⟨_, rfl, rfl, q _ c' _ ⟨_, le₃ _ _ (le₂ _ _ upd_self), fun e he => ?_⟩ upd_self (le₃ _ _ upd_self) keep⟩ ((x₁.trans x₂).trans x₃) (i₃.cons .ref)
    rcases List.mem_append.mp he with he | he
    · refine keep _ _ (fun z => ?_) (hl e he)
      have := hl e he
      rw [z, hP] at this; cases this
    · cases List.mem_singleton.mp he
      exact le₃ _ _ upd_self
end
end Mine
end
section
open PySem PySem.W PyProof.Rows PySem.Spec PySem.Calls
set_option Elab.async false
set_option maxRecDepth 100000
set_option maxHeartbeats 4000000
set_option linter.unusedVariables false
namespace Mine
section
variable {w : World} {d : Nat} {base : Heap} {outer : List Env} {env : Env} {Γ : Gam} {loc : Loc} {σ : St} {h h' : Heap} {X : Str → St → Prop}
/-- a lambda without parameters is called -/
theorem CT.lam {f c : Addr} {body : Expr} {scope : Scope} {cl : List (Str × Addr)} {qual : Str} {Q : V → St → Prop} (hf : σ f = some (.lam body scope cl qual c)) (hc : σ c = some (.code qual)) (hcell : ∀ x ∈ scope.names, x.2 ≠ .cell)
    (hco : scope.isCoroutine = false) (hgen : scope.isGenerator = false) (hk : scope.kind = .function)
    (h : ∀ L', WE w d (envX qual scope L' f (.ref c) cl) body [] σ Q X) : CT w (d + 1) (.ref f) [] σ Q X := by
  intro env loc rvs hl A base outer s QQ EE C I hq hX
  have hrv : rvs = [] := List.length_eq_zero_iff.mp hl
  subst hrv
  have C' := C
  obtain ⟨cn, cs, L, a, ccd, cl', rfl, hkf⟩ := C'.shape
  obtain ⟨pg, loose, mean, mg, mb, T⟩ := C.T
  obtain ⟨m, hn, hm⟩ := I.ns
  have fr : s.heap.FunFrames base (envX cn cs L a ccd cl' :: outer) := by
    refine .cons (by show cs.kind ≠ _; rw [hkf]; decide) rfl hn ?_ I.frames
    cases q : base.get? L with
    | none => rfl
    | some o => exact absurd (Nat.lt_of_lt_of_le (Heap.lt_size q) I.above) (Nat.lt_irrefl _)
  obtain ⟨pm, ctv, hfo⟩ := I.objs _ _ hf
  have hrec := I.objs _ _ hc
  have hTs := T.keeps I.stays
  refine wpAny_call (kla_callFunE (by have := C.depth; omega) hfo rfl hco hgen rfl hrec ?_)
  refine wpAny_pure (wpAny_newFunctionEnv (binds := []) hcell (fun x hx => nomatch hx) (fun h₁ hns hsb => ⟨hTs.nolimit.fresh _ hsb, ?_⟩) hk)
  show codeAny _ _ (.expr body (envX qual scope s.heap.objs.size f (.ref c) cl)) _ _
  have hk₁ : ∀ b o, s.heap.get? b = some o → h₁.get? b = some o := fun b o e => hsb.extBut b o (Nat.ne_of_lt (Heap.lt_size e)) (Heap.get?_push_of_some _ e)
  generalize hL0 : s.heap.objs.size = L' at *
  have hL' : s.heap.get? L' = none := Heap.get?_none_of_le (Nat.le_of_eq hL0)
  have C1 : Cx w d (A.deeper (envX qual scope L' f (.ref c) cl)) base (envX cn cs L a ccd cl' :: outer) (envX qual scope L' f (.ref c) cl) :=
    ⟨Around.frames_deeper C.frames, C.handled, (by have := C.depth; show A.depth + 1 + 3 * d + 20 < _; omega), (by have := C.units; show A.units + 3 + 40 * d + 100 < _; omega), ⟨qual, scope, L', f, _, cl, rfl, hk⟩, C.K, ⟨pg, loose, mean, mg, mb, T⟩⟩
  have kt : TupK s.heap h₁ := tupK_of hk₁
  have nL' := I.none_of hL'
  have hLlt : base.objs.size ≤ L' := Nat.le_trans (Nat.le_of_lt (Nat.lt_of_le_of_lt I.above hn.lt)) (Nat.le_of_eq hL0)
  have I1 : Inv w base (envX cn cs L a ccd cl' :: outer) (envX qual scope L' f (.ref c) cl) [] [] σ h₁ := by
    refine ⟨fun b o e => hk₁ b o (I.stays b o e), fr.of_keeps fun b o e _ => ⟨o, hk₁ b o e, rfl⟩, hLlt, ?_, ⟨_, hns, fun x v hx => by cases hx⟩, fun b o e => (I.objs b o e).mono (fun c _ oc ec => hk₁ c oc ec) kt, I.sep, fun b q => ⟨(I.apart b q).1, fun z => ?_, fun z => ?_⟩, fun _ q => nomatch q⟩
    · intro q
      rw [frs, List.filterMap_cons] at q
      rcases List.mem_cons.mp q with q | q
      · exact nL'.2.1 q
      · exact nL'.2.2.1 q
    · obtain ⟨o, e⟩ := Own.isSome I q
      rw [z] at e
      have : s.heap.get? L' = some o := e
      rw [hL'] at this; cases this
    · rw [frs, List.filterMap_cons] at z
      rcases List.mem_cons.mp z with z | z
      · exact (I.apart b q).2.1 z
      · exact (I.apart b q).2.2 z
  have old : ∀ b, h₁.get? b = none → s.heap.get? b = none := fun b z => by
    cases q : s.heap.get? b with
    | none => rfl
    | some o => rw [hk₁ b o q] at z; cases z
  refine kla_codeExpr (h L' _ _ _ _ _ _ C1 I1 (fun rv Γ₂ loc₂ σ₂ h₂ tk₂ q x₂ i₂ => ?_) fun c e loc₂ σ₂ h₂ tk₂ q x₂ i₂ f₂ => ?_)
  · obtain ⟨v, rfl, _, q⟩ := q
    obtain ⟨xx, ii⟩ := up I rfl rfl hk₁ hL' x₂ (i₂.gamma fun _ q => nomatch q)
    exact hq _ [(rv, v)] loc _ h₂ tk₂ ⟨_, rfl, rfl, q⟩ xx (ii.cons (i₂.gam (rv, v) (by simp)))
  · refine fly_leave (s := { s with heap := h₂, toks := tk₂ }) C1.frames rfl hk I1 x₂ i₂ f₂ fun h₃ x₃ i₃ f₃ => ?_
    obtain ⟨xx, ii⟩ := up I rfl rfl hk₁ hL' x₃ i₃
    refine hX c e loc σ₂ h₃ tk₂ q xx (ii.gamma fun _ q => nomatch q) (f₃.older fun b o e => ⟨o, hk₁ b o e⟩)
/-- a function held by a local name is called without arguments -/
theorem WE.call0 {x : Str} {p pos : Pos} {f : Addr} {Q : V → St → Prop} {body : Expr} {scope : Scope} {cl : List (Str × Addr)} {qual : Str} {c : Addr} (hx : env.kindOf x = some .local) (hv : alook loc x = some (.ref f)) (hf : σ f = some (.lam body scope cl qual c))
    (h : CT w d (.ref f) [] σ Q X) (hdd : (x == ("__debug__" : Str)) = false := by decide)
    (hne : ∀ args kw, eval (.Call (.Name x p) args kw pos) env = (do callWith pos (← eval (.Name x p) env) [] (backTo pos (starEach args env)) (backToKw pos (keywordEach kw env))) := by intros; rfl) :
    WE w d env (.Call (.Name x p) [] [] pos) loc σ Q X := by
  rw [WE, hne]
  refine W.bind ((WE.name (Q := fun v σ' => v = .ref f ∧ σ' = σ) hx hv ⟨rfl, rfl⟩ hdd).mono (fun rv Γ₁ loc₁ σ₁ q => ?_) fun _ _ x => x)
  obtain ⟨v, rfl, rfl, rfl, rfl⟩ := q
  intro A base outer s QQ EE C I hq hX
  have g1 := I.gam (rv, .ref f) (by simp)
  dsimp only at g1
  cases g1
  obtain ⟨pm, ctv, hfo⟩ := I.objs _ _ hf
  refine callWith_F0 ⟨_, _, _, _, hfo⟩ ?_
  exact h env loc₁ [] rfl A base outer s QQ EE C (I.gamma fun _ q => nomatch q) (fun rv' Γ₂ loc₂ σ₂ h₂ tk₂ ⟨v, eΓ, eL, q2⟩ x₂ i₂ => hq rv' [(rv', v)] loc₂ σ₂ h₂ tk₂ ⟨v, rfl, eL, q2⟩ x₂ (i₂.gamma fun p hp => by
    rcases List.mem_cons.mp hp with rfl | hp
    · exact i₂.gam _ (by rw [eΓ]; simp)
    · have : p = (.ref f, .ref f) := by simpa using hp
      subst this; exact .ref)) hX
end
end Mine
end
section
open PySem PySem.W PyProof.Rows PySem.Spec PySem.Calls
set_option Elab.async false
set_option maxRecDepth 100000
set_option maxHeartbeats 8000000
set_option linter.unusedVariables false
namespace Mine
/-! plain law: numbers -/
def figs (n : Nat) : Nat := (Nat.toDigits 10 n).length
theorem figs_pos (n : Nat) : 0 < figs n := Nat.length_toDigits_pos
theorem figs_le {n k : Nat} (hk : 0 < k) : figs n ≤ k ↔ n < 10 ^ k := Nat.length_toDigits_le_iff (by decide) hk
theorem figs_eq {n k : Nat} (hk : 0 < k) (h1 : n < 10 ^ k) (h2 : k = 1 ∨ 10 ^ (k - 1) ≤ n) : figs n = k := by
  have a := (figs_le hk).mpr h1
  have p := figs_pos n
  rcases h2 with h2 | h2
  · omega
  · by_cases z : k = 1
    · omega
    have b : ¬ figs n ≤ k - 1 := fun q => by
      have := (figs_le (by omega)).mp q
      omega
    omega
theorem lt_figs (n : Nat) : n < 10 ^ figs n := (figs_le (figs_pos n)).mp (Nat.le_refl _)
theorem figs_len (n : Nat) : (PySem.Str.ofString (toString (n : Int))).length = figs n := by
  show (PySem.Str.ofString (toString (n : Int))).cps.size = _
  rw [← Array.length_toList, KIN.signs_num, List.length_map]
  rfl
/-- the nearest whole number, of two as near the even one -/
def near (size places : Nat) : Nat :=
  let unit := 10 ^ places
  size / unit + (if 2 * (size % unit) > unit ∨ (2 * (size % unit) = unit ∧ size / unit % 2 = 1) then 1 else 0)
theorem near_small {size places : Nat} (h : figs size + 1 < places) : near size places = 0 := by
  have a := lt_figs size
  have b : (10 : Nat) ^ (figs size + 1) ≤ 10 ^ places := Nat.pow_le_pow_right (by decide) (by omega)
  rw [Nat.pow_succ] at b
  have c : size < 10 ^ places := by omega
  unfold near
  dsimp only
  rw [Nat.div_eq_of_lt c, Nat.mod_eq_of_lt c, if_neg (by omega)]
theorem near_le (size places : Nat) : near size places ≤ size + 1 := by
  unfold near
  dsimp only
  have := Nat.div_le_self size (10 ^ places)
  split <;> omega
theorem near_ge {size k : Nat} (h : k < figs size) (h0 : 0 < k) : 1 ≤ near size k := by
  have : ¬ figs size ≤ k := by omega
  rw [figs_le h0] at this
  unfold near
  have : 1 ≤ size / 10 ^ k := (Nat.one_le_div_iff (Nat.pow_pos (by decide))).mpr (by omega)
  dsimp only
  omega
/-- zeros at the end taken off -/
def strip (n : Nat) (e : Int) : Nat × Int := if h : 0 < n ∧ n % 10 = 0 then strip (n / 10) (e + 1) else (n, e)
termination_by n
decreasing_by omega
theorem strip_go {n : Nat} {e : Int} (h : 0 < n ∧ n % 10 = 0) : strip n e = strip (n / 10) (e + 1) := by rw [strip, dif_pos h]
theorem strip_no {n : Nat} {e : Int} (h : ¬ (0 < n ∧ n % 10 = 0)) : strip n e = (n, e) := by rw [strip, dif_neg h]
def tw (a b : Int) : V := .tup [.int a, .int b]
def mk (c e : Int) (digits : Nat) : V :=
  let n := c.natAbs
  let more := figs n - digits
  let p : Nat × Int := if digits < figs n then (near n more, e + more) else (n, e)
  if p.1 = 0 then tw 0 0 else
    let q := strip p.1 p.2
    tw (if c < 0 then -(q.1 : Int) else q.1) q.2
/-- the whole number nearest -/
def wn (c e : Int) : Int :=
  let s : Int := if 0 ≤ e then c.natAbs * 10 ^ e.toNat else near c.natAbs (-e).toNat
  if c < 0 then -s else s
inductive Rs where | ok (v : V) | err (c : Str)
def kpN (c e : Int) (kind : Str) (bits digits : Nat) : Rs :=
  if kind = "text" then .err "TM" else if kind = "decimal" then .ok (mk c e digits)
  else if -(2 ^ (bits - 1) : Int) ≤ wn c e ∧ wn c e < 2 ^ (bits - 1) then .ok (.int (wn c e)) else .err "OV"
def kp (v : V) (kind : Str) (bits digits : Nat) : Rs :=
  match v with
  | .str s => if kind = "text" then (if s.length ≤ 255 then .ok v else .err "LS") else .err "TM"
  | .int n => kpN n 0 kind bits digits
  | .tup [.int c, .int e] => kpN c e kind bits digits
  | _ => .err "TM"
theorem BinOk.divN {a b : Nat} (h0 : 0 < b) (h1 : b < 2 ^ 9000) : BinOk .FloorDiv (.int a) (.int b) (.int ((a / b : Nat) : Int)) := by
  have := BinOk.fdiv (a := a) (b := b) (by omega) (by rw [Int.natAbs_natCast]; exact (Nat.log2_lt (by omega)).mpr h1)
  rw [Int.fdiv_eq_ediv_of_nonneg _ (by omega), ← Int.natCast_ediv] at this
  exact this
theorem BinOk.modN {a b : Nat} (h0 : 0 < b) : BinOk .Mod (.int a) (.int b) (.int ((a % b : Nat) : Int)) := by
  have := BinOk.fmod (a := a) (b := b) (by omega)
  rw [Int.fmod_eq_emod_of_nonneg _ (by omega), ← Int.natCast_emod] at this
  exact this
theorem BinOk.pow10 {p : Nat} (h : p ≤ 1000) : BinOk .Pow (.int 10) (.int p) (.int ((10 ^ p : Nat) : Int)) := by
  have := BinOk.pow (a := 10) (n := p) (by omega) (by omega) (by decide)
  rw [Int.toNat_natCast] at this
  push_cast
  exact this
theorem BinOk.addN {a b : Nat} : BinOk .Add (.int a) (.int b) (.int ((a + b : Nat) : Int)) := by push_cast; exact BinOk.add
theorem BinOk.mulN {a b : Nat} (h : a < 2 ^ 64) : BinOk .Mult (.int a) (.int b) (.int ((a * b : Nat) : Int)) := by push_cast; exact BinOk.mul (by omega) (by omega)
theorem ite_dec {P : Prop} [Decidable P] {A B : Prop} (ha : P → A) (hb : ¬ P → B) : if decide P = true then A else B := by
  by_cases h : P
  · rw [if_pos (decide_eq_true h)]; exact ha h
  · rw [if_neg (by simpa using h)]; exact hb h
theorem ite_decN {P : Prop} [Decidable P] {A B : Prop} (ha : ¬ P → A) (hb : P → B) : if (!decide P) = true then A else B := by
  by_cases h : P
  · rw [if_neg (by simpa using h)]; exact hb h
  · rw [if_pos (by simpa using h)]; exact ha h
theorem ite_beq {α : Type} [DecidableEq α] {a b : α} {A B : Prop} (ha : a = b → A) (hb : a ≠ b → B) : if (a == b) = true then A else B := by
  by_cases h : a = b
  · rw [if_pos (by simpa using h)]; exact ha h
  · rw [if_neg (by simpa using h)]; exact hb h
theorem pow10_lt {p : Nat} (h : p ≤ 1000) : 10 ^ p < 2 ^ 9000 := Nat.lt_of_le_of_lt (Nat.pow_le_pow_right (by decide) h) (by decide)
section
variable {w : World} {d : Nat} {env : Env} {loc : Loc} {σ : St} {X : Str → St → Prop} {N : Loc → St → Prop} {R : V → St → Prop}
theorem CT.absN {w : World} {d : Nat} {σ : St} {X : Str → St → Prop} {i : Int} {Q : V → St → Prop} (q : Q (.int (i.natAbs : Int)) σ) : CT w d (.builtin "abs") [.int i] σ Q X := CT.abs (by
  have : (if i < 0 then -i else i) = (i.natAbs : Int) := by split <;> omega
  rw [this]; exact q)
theorem WX.join {st : Stmt} (J : Loc → St → Prop) (h1 : WX w d env st loc σ J R X) (h2 : ∀ l s, J l s → N l s) : WX w d env st loc σ N R X :=
  W.mono h1 (fun fl Γ' loc' σ' q => by
    cases fl with
    | next => exact ⟨q.1, h2 _ _ q.2⟩
    | ret v => exact q
    | brk => exact q
    | cont => exact q) fun _ _ x => x
theorem WS.join2 {b : Bool} {s1 s2 : List Stmt} {l1 l2 : Loc} {t1 t2 : St} (J : Loc → St → Prop) (h1 : if b = true then WS w d env s1 l1 t1 J R X else WS w d env s2 l2 t2 J R X) (h2 : ∀ l s, J l s → N l s) : if b = true then WS w d env s1 l1 t1 N R X else WS w d env s2 l2 t2 N R X := by
  cases b with
  | true => exact WS.mono h1 h2 fun _ _ x => x
  | false => exact WS.mono h1 h2 fun _ _ x => x
theorem WE.cmp2 {op op₂ : CmpOp} {l r r₂ : Expr} {pos : Pos} {Q : V → St → Prop}
    (h : WE w d env l loc σ (fun a σ₁ => WE w d env r loc σ₁ (fun b σ₂ => ∃ x, CmpOk w op σ₂ a b x ∧ if x = true then WE w d env r₂ loc σ₂ (fun c σ₃ => ∃ y, CmpOk w op₂ σ₃ b c y ∧ Q (.bool y) σ₃) X else Q (.bool false) σ₂) X) X)
    (hm : behindInMarks op₂ r₂ = false := by rfl) : WE w d env (.Compare l [op, op₂] [r, r₂] pos) loc σ Q X := by
  rw [WE, arm_eval_Compare]
  refine W.bind (h.mono (fun ra Γ₁ loc₁ σ₁ q => ?_) fun _ _ x => x)
  obtain ⟨a, rfl, rfl, q⟩ := q
  show W w d env _ (compareChain pos ra [op, op₂] [eval r env, markedBehindIn op₂ r₂ (eval r₂ env)]) _ _ _ _
  unfold markedBehindIn
  rw [hm]
  refine W.bind (W.holding (W.nil (q.mono (fun rb Γ₂ loc₂ σ₂ q => ?_) fun _ _ x => x)))
  obtain ⟨b, rfl, rfl, v, ho, q⟩ := q
  refine W.bind (W.standAt (W.bind ((W.holding (W.cmp (Q := fun v' σ' => v' = .bool v ∧ σ' = σ₂) (by simp) (by simp) ho ⟨rfl, rfl⟩)).mono (fun rc Γ₃ loc₃ σ₃ q' => ?_) fun _ _ x => x)))
  obtain ⟨c, rfl, rfl, rfl, rfl⟩ := q'
  refine W.bind (W.release (W.bind ((W.holding (W.truthyB (Q := fun v' σ' => v' = v ∧ σ' = σ₃) (by simp) ⟨rfl, rfl⟩)).mono (fun t Γ₄ loc₄ σ₄ q' => ?_) fun _ _ x => x)))
  obtain ⟨rfl, rfl, rfl, rfl⟩ := q'
  cases t with
  | false => exact W.val (.bool false) (fun A base outer s QQ EE C I h => wpAny_pure (h rc s.toks (I.gam (rc, .bool false) (by simp)))) q
  | true =>
    simp only [if_true] at q ⊢
    show W w d env _ (compareChain pos rb [op₂] [eval r₂ env]) _ _ _ _
    refine W.bind (W.holding (W.start (q.mono (fun rc₂ Γ₅ loc₅ σ₅ q => ?_) fun _ _ x => x) (fun _ q => nomatch q) fun _ _ e => e))
    obtain ⟨c, rfl, rfl, y, ho₂, q⟩ := q
    exact W.bind (W.standAt (W.operate (W.cmp (by simp) (by simp) ho₂ q)))
theorem WE.join2 {b : Bool} {e1 e2 : Expr} {t1 t2 : St} {Q : V → St → Prop} (J : V → St → Prop) (h1 : if b = true then WE w d env e1 loc t1 J X else WE w d env e2 loc t2 J X) (h2 : ∀ v s, J v s → Q v s) : if b = true then WE w d env e1 loc t1 Q X else WE w d env e2 loc t2 Q X := by
  cases b with
  | true => exact W.pv h1 h2
  | false => exact W.pv h1 h2
theorem WX.swap2 {elts : List Expr} {k : Nat} {tpos pos : Pos} {value : Expr} {a b : Str} (hw : swappedStores [.Tuple elts k tpos] value env = pure (some [a, b])) (ha : env.kindOf a = some .local) (hb : env.kindOf b = some .local)
    (h : WE w d env value loc σ (fun v σ₁ => ∃ x y, v = .tup [x, y] ∧ N ((a, x) :: (b, y) :: loc) σ₁) X) (hs : swapsWithSole [.Tuple elts k tpos] value pos.line env = pure false := by rfl) :
    WX w d env (.Assign [.Tuple elts k tpos] value pos) loc σ N R X :=
  WX.swap hw (fun n hn => by rcases List.mem_cons.mp hn with rfl | hn; exact ha; cases List.mem_singleton.mp hn; exact hb)
    (W.pv h fun v σ' ⟨x, y, e, q⟩ => ⟨[x, y], e, rfl, q⟩) hs
theorem WX.swap3 {elts : List Expr} {k : Nat} {tpos pos : Pos} {value : Expr} {a b c : Str} (hw : swappedStores [.Tuple elts k tpos] value env = pure (some [a, b, c])) (ha : env.kindOf a = some .local) (hb : env.kindOf b = some .local) (hc : env.kindOf c = some .local)
    (h : WE w d env value loc σ (fun v σ₁ => ∃ x y z, v = .tup [x, y, z] ∧ N ((a, x) :: (b, y) :: (c, z) :: loc) σ₁) X) (hs : swapsWithSole [.Tuple elts k tpos] value pos.line env = pure false := by rfl) :
    WX w d env (.Assign [.Tuple elts k tpos] value pos) loc σ N R X :=
  WX.swap hw (fun n hn => by rcases List.mem_cons.mp hn with rfl | hn; exact ha; rcases List.mem_cons.mp hn with rfl | hn; exact hb; cases List.mem_singleton.mp hn; exact hc)
    (W.pv h fun v σ' ⟨x, y, z, e, q⟩ => ⟨[x, y, z], e, rfl, q⟩) hs
end
end Mine
end
section
open PySem PySem.W PyProof.Rows PySem.Spec PySem.Calls
set_option Elab.async false
set_option maxRecDepth 100000
set_option maxHeartbeats 8000000
set_option linter.unusedVariables false
namespace Mine
/-! a judgement that knows more of the base: for the one statement that reads the script -/
def Wb (P : Heap → Prop) (w : World) (d : Nat) (env : Env) {α : Type} (Γ : Gam) (t : Sem α) (loc : Loc) (σ : St) (Q : α → Gam → Loc → St → Prop) (X : Str → St → Prop) : Prop :=
  ∀ (A : Around) (base : Heap) (outer : List Env) (s : Shared) (QQ : α → Shared → Prop) (EE : Value → Shared → Prop),
    P base → Cx w d A base outer env → Inv w base outer env Γ loc σ s.heap →
    (∀ a Γ' loc' σ' h' tk', Q a Γ' loc' σ' → Ext env outer σ σ' s.heap h' → Inv w base outer env (Γ' ++ Γ) loc' σ' h' → QQ a { s with heap := h', toks := tk' }) →
    (∀ c e loc' σ' h' tk', X c σ' → Ext env outer σ σ' s.heap h' → Inv w base outer env [] loc' σ' h' → Fly σ' s.heap h' e c → EE (.ref e) { s with heap := h', toks := tk' }) →
    wpAny (model PR w) A t QQ EE s
section
variable {P : Heap → Prop} {w : World} {d : Nat} {env : Env} {α β : Type} {Γ : Gam} {loc : Loc} {σ : St} {X : Str → St → Prop}
theorem Wb.of {t : Sem α} {Q : α → Gam → Loc → St → Prop} (h : W w d env Γ t loc σ Q X) : Wb P w d env Γ t loc σ Q X := fun A base outer s QQ EE _ => h A base outer s QQ EE
theorem Wb.mono {t : Sem α} {Q Q' : α → Gam → Loc → St → Prop} (h : Wb P w d env Γ t loc σ Q X) (hQ : ∀ a Γ' loc' σ', Q a Γ' loc' σ' → Q' a Γ' loc' σ') : Wb P w d env Γ t loc σ Q' X :=
  fun A base outer s QQ EE p C I hq hx => h A base outer s QQ EE p C I (fun a Γ' loc' σ' h' tk' q => hq a Γ' loc' σ' h' tk' (hQ _ _ _ _ q)) hx
theorem Wb.bind {m : Sem α} {f : α → Sem β} {Q : β → Gam → Loc → St → Prop} (h : Wb P w d env Γ m loc σ (fun a Γ' loc' σ' => Wb P w d env (Γ' ++ Γ) (f a) loc' σ' Q X) X) : Wb P w d env Γ (m >>= f) loc σ Q X :=
  fun A base outer s QQ EE p C I hq hx => wpAny_bind (h A base outer s _ EE p C I (fun a Γ' loc' σ' h' tk' q x i => q A base outer _ QQ EE p C i (fun b Γ₂ loc₂ σ₂ h₂ tk₂ q₂ x₂ i₂ => hq b Γ₂ loc₂ σ₂ h₂ tk₂ q₂ (x.trans x₂) (i₂.gamma fun p hp => i₂.gam p (by
      rcases List.mem_append.mp hp with hp | hp
      · exact List.mem_append_left _ hp
      · exact List.mem_append_right _ (List.mem_append_right _ hp))))
    fun c e loc₂ σ₂ h₂ tk₂ q₂ x₂ i₂ f₂ => hx c e loc₂ σ₂ h₂ tk₂ q₂ (x.trans x₂) i₂ (f₂.older x.ex)) hx)
theorem Wb.holding {vs : List Value} {t : Sem α} {Q : α → Gam → Loc → St → Prop} (h : Wb P w d env Γ t loc σ Q X) : Wb P w d env Γ (PySem.holding vs t) loc σ Q X :=
  fun A base outer s QQ EE p C I hq hx => wpAny_holding (h A base outer s QQ EE p C I hq hx)
theorem Wb.start {t : Sem α} {Γ' : Gam} {Q : α → Gam → Loc → St → Prop} (h : Wb P w d env Γ' t loc σ Q X) (hg : ∀ p ∈ Γ', p ∈ Γ) : Wb P w d env Γ t loc σ Q X := by
  intro A base outer s QQ EE p C I hq hx
  refine h A base outer s QQ EE p C (I.gamma fun p hp => I.gam p (hg p hp)) (fun a Γ₂ loc₂ σ₂ h₂ tk₂ q x i => hq a Γ₂ loc₂ σ₂ h₂ tk₂ q x (i.gamma fun p hp => ?_)) hx
  rcases List.mem_append.mp hp with hp | hp
  · exact i.gam p (List.mem_append_left _ hp)
  · exact (I.gam p hp).mono (x.tup I)
theorem Wb.nil {t : Sem α} {Q : α → Gam → Loc → St → Prop} (h : Wb P w d env [] t loc σ Q X) : Wb P w d env Γ t loc σ Q X := h.start fun _ q => nomatch q
def WEb (P : Heap → Prop) (w : World) (d : Nat) (env : Env) (e : Expr) (loc : Loc) (σ : St) (Q : V → St → Prop) (X : Str → St → Prop) : Prop := Wb P w d env [] (eval e env) loc σ (PV loc Q) X
def WLb (P : Heap → Prop) (w : World) (d : Nat) (env : Env) (es : List Expr) (loc : Loc) (σ : St) (Q : List V → St → Prop) (X : Str → St → Prop) : Prop := ∀ pos, Wb P w d env [] (spliced (backTo pos (starEach es env))) loc σ (PL loc Q) X
theorem WEb.of {e : Expr} {Q : V → St → Prop} (h : WE w d env e loc σ Q X) : WEb P w d env e loc σ Q X := Wb.of h
theorem WLb.nil {Q : List V → St → Prop} (q : Q [] σ) : WLb P w d env [] loc σ Q X := fun pos => Wb.of (WL.nil q pos)
theorem WLb.cons {e : Expr} {es : List Expr} {Q : List V → St → Prop} (h : WEb P w d env e loc σ (fun v σ₁ => WLb P w d env es loc σ₁ (fun l σ₂ => Q (v :: l) σ₂) X) X) (he : starEach (e :: es) env = (false, eval e env) :: starEach es env := by rfl) : WLb P w d env (e :: es) loc σ Q X := by
  intro pos
  rw [he]
  show Wb P w d env [] (spliced ((false, eval e env) :: backTo pos (starEach es env))) _ _ _ _
  unfold spliced
  refine Wb.bind (Wb.mono h (fun rv Γ₁ loc₁ σ₁ q => ?_))
  obtain ⟨v, rfl, rfl, q⟩ := q
  simp only [Bool.false_eq_true, if_false]
  refine Wb.bind (Wb.of (W.pure (Wb.bind (Wb.mono (Wb.holding (Wb.nil (q pos))) (fun rvs Γ₂ loc₂ σ₂ q2 => ?_)))))
  obtain ⟨l, hl, rfl, rfl, q3⟩ := q2
  refine Wb.of (W.calm fun A base outer s QQ EE C I hq => wpAny_pure (hq _ ((rv :: rvs).zip (v :: l)) s.toks ⟨v :: l, by simp [hl], rfl, rfl, q3⟩ fun p hp => ?_))
  rw [List.zip_cons_cons] at hp
  rcases List.mem_cons.mp hp with rfl | hp
  · exact I.gam (rv, v) (by simp)
  · exact I.gam p (List.mem_append_left _ hp)
theorem WEb.list {es : List Expr} {pos : Pos} {Q : V → St → Prop} (h : WLb P w d env es loc σ (fun l σ₁ => l.length ≤ 1000 ∧ ∀ a, σ₁ a = none → Q (.ref a) (upd σ₁ a (.list l))) X) : WEb P w d env (.List es pos) loc σ Q X := by
  rw [WEb, arm_eval_List]
  refine Wb.bind (Wb.of (W.standAt (Wb.bind (Wb.mono (Wb.nil (h pos)) (fun rvs Γ₁ loc₁ σ₁ q => ?_)))))
  obtain ⟨l, hl, rfl, rfl, hn, q⟩ := q
  refine Wb.of (W.made (o := .list l) (fun A base outer s QQ EE C I hq => ?_) q)
  have k : ∀ b ob, s.heap.get? b = some ob → (s.heap.push { cls := .type "list", data := .seq rvs.toArray }).get? b = some ob := fun b ob e => Heap.get?_push_of_some _ e
  refine wpAny_newObj_type (hq s.heap.objs.size _ s.toks k (fun b hb => ?_) ⟨_, _, Heap.get?_push_size _ rfl, ?_⟩) (by show rvs.toArray.size ≤ sizeLine; rw [List.size_toArray, sizeLine_eq]; omega)
  · cases List.mem_singleton.mp hb; exact Heap.get?_none_of_le (Nat.le_refl _)
  · exact rl_of_zip hl fun p hp => (I.gam p (by simp [hp])).mono (tupK_of k)
theorem WEb.subL {x : Str} {xp : Pos} {sa : Addr} {vs : Array Value} {l : List V} {j : Int} {k : Nat} {p1 p2 pos : Pos} {Q : V → St → Prop} (hx : env.kindOf x = some .local) (hv : alook loc x = some (.ref sa)) (hr : ∀ h, RL h vs.toList l) (hj : 0 ≤ j) (hn : l.length ≤ 16777216)
    (q : ∀ b, σ b = none → Q (.ref b) (upd σ b (.list (l.take j.toNat)))) (hdb : (x == ("__debug__" : Str)) = false := by decide)
    (hs : ∀ o i, subscripted (.Slice none (some (.Constant (.int j) k p1)) none p2) false o i = operate [i, o] (getItem o i) := by intros; rfl) (ht : ∀ o r, letTemporaryGo (.Name x xp) o r = pure () := by intros; rfl) :
    WEb (fun base => base.IsList sa vs) w d env (.Subscript (.Name x xp) (.Slice none (some (.Constant (.int j) k p1)) none p2) pos) loc σ Q X :=
  fun A base outer s QQ EE hb C I hq hX => Subscript_ ((WE.name (Q := fun v σ' => v = .ref sa ∧ σ' = σ) hx hv ⟨rfl, rfl⟩ hdb : WE w d env (.Name x xp) loc σ _ X) A base outer s _ EE C I (fun ro Γ₁ loc₁ σ₁ h₁ tk₁ ⟨o, eΓ, eL, ex, eσ⟩ x₁ i₁ => by
    subst eΓ eL ex eσ
    have g1 := i₁.gam (ro, .ref sa) (by simp)
    refine slice_obj ?_
    dsimp only at g1 ⊢
    cases g1
    obtain ⟨ol, el, rl⟩ := hb
    have hl : h₁.IsList sa vs := ⟨ol, i₁.stays _ _ el, rl⟩
    have r := hr h₁
    obtain ⟨m, F, hm⟩ := i₁.fr
    refine slice_list (s := ⟨h₁, s.gens, s.drawn, tk₁ + 1, s.os⟩) F i₁.news0 hl (.none) (.int j tk₁) (fun h' F' N' => ?_) (hs _ _) (ht _) (by rw [sizeLine_eq, ← Array.length_toList, r.length]; exact hn)
    have kp := rest_keeps F' N' (fun p hp => .tail _ hp) i₁.stays
    have hnew := (N' _ (.head _)).1
    obtain ⟨i, x, n⟩ := i₁.alloc' (a := h₁.objs.size + 1) (o := .list (l.take j.toNat)) (fun b ob n e => kp b ob (Nat.ne_of_lt (Heap.lt_size e)) n e) (fr_ns F F') (fun kt => ⟨_, _, hnew, by rw [pick_upto hj]; exact (r.mono kt).take _⟩) (fun b hb => by cases List.mem_singleton.mp hb; exact Heap.get?_none_of_le (Nat.le_succ _))
    exact hq _ [(_, .ref (h₁.objs.size + 1))] loc₁ _ h' _ ⟨_, rfl, rfl, q _ n⟩ (x₁.trans x) ((i.gamma (fun p hp => absurd hp List.not_mem_nil)).cons .ref)) hX)
def WXb (P : Heap → Prop) (w : World) (d : Nat) (env : Env) (st : Stmt) (loc : Loc) (σ : St) (N : Loc → St → Prop) (R : V → St → Prop) (X : Str → St → Prop) : Prop := Wb P w d env [] (exec st env) loc σ (PX N R) X
def WSb (P : Heap → Prop) (w : World) (d : Nat) (env : Env) (st : List Stmt) (loc : Loc) (σ : St) (N : Loc → St → Prop) (R : V → St → Prop) (X : Str → St → Prop) : Prop := Wb P w d env [] (execs st env) loc σ (PX N R) X
theorem WXb.assign {t value : Expr} {pos : Pos} {N : Loc → St → Prop} {R : V → St → Prop} (h : WEb P w d env value loc σ (fun v σ₁ => WA w d env t v loc σ₁ N X) X) (hs : swapsWithSole [t] value pos.line env = pure false := by rfl) (hw : swappedStores [t] value env = pure none := by rfl) (he : (assignEach [t] env).map (·.2) = [assign t env] := by rfl) :
    WXb P w d env (.Assign [t] value pos) loc σ N R X := by
  unfold WXb
  rw [exec_Assign]
  refine Wb.bind (Wb.of (W.standAt ?_))
  rw [hs]
  refine Wb.bind (Wb.of (W.pure ?_))
  rw [if_neg (by decide)]
  refine Wb.bind (Wb.mono h (fun rv Γ₁ loc₁ σ₁ q => ?_))
  obtain ⟨v, rfl, rfl, q⟩ := q
  refine Wb.of ?_
  rw [hw]
  refine W.bind (W.pure ?_)
  show W w d env _ (do assignAll rv ((assignEach [t] env).map (·.2)); Pure.pure Flow.next) _ _ _ _
  rw [he]
  refine W.bind ((q _ rv (by simp)).mono (fun _ Γ₂ loc₂ σ₂ q => ?_) fun _ _ x => x)
  obtain ⟨rfl, q⟩ := q
  exact W.pure ⟨rfl, q⟩
theorem WSb.cons {st : Stmt} {rest : List Stmt} {N : Loc → St → Prop} {R : V → St → Prop} (h : WXb P w d env st loc σ (fun loc₁ σ₁ => WS w d env rest loc₁ σ₁ N R X) R X) : WSb P w d env (st :: rest) loc σ N R X := by
  unfold WSb
  rw [show execs (st :: rest) env = (do match ← exec st env with | .next => execs rest env | f => pure f) from rfl]
  refine Wb.bind (Wb.mono h (fun fl Γ₁ loc₁ σ₁ q => Wb.of ?_))
  cases fl with
  | next => obtain ⟨rfl, q⟩ := q; exact W.nil q
  | ret rv =>
    obtain ⟨v, rfl, q⟩ := q
    exact W.calm fun A base outer s QQ EE C I hq => wpAny_pure (hq _ [(rv, v)] s.toks ⟨v, rfl, q⟩ fun p hp => I.gam p (by cases List.mem_singleton.mp hp; simp))
  | brk => exact q.elim
  | cont => exact q.elim
end
end Mine
end
section
open PySem PySem.W PyProof.Rows PySem.Spec PySem.Calls
set_option Elab.async false
set_option maxRecDepth 100000
set_option maxHeartbeats 8000000
set_option linter.unusedVariables false
namespace Mine
section
variable {w : World} {σ : St} {Q : V → St → Prop} {X : Str → St → Prop} {d : Nat}
theorem pow_lt_of {n k : Nat} (h : 10 ^ k ≤ n) (hn : n < 10 ^ 8) : k < 8 := by
  by_cases z : k < 8
  · exact z
  · have := Nat.pow_le_pow_right (n := 10) (by decide) (show 8 ≤ k by omega)
    omega
theorem t_figures {n : Nat} (hn : n < 10 ^ 8) (hd : 1 ≤ d) (q : Q (.int (figs n)) σ) : CT w d (.ref 58) [.int n] σ Q X := by
  refine' CT.more (CT.defn (d := ?d0) (names := ?n0) ?k1 ?k2 ?k3 ?k4 ?k5 ?_ ?c1 ?c2 ?c3) ?hd
  case k1 => k_is
  case k2 => k_is
  case c1 => exact rfl
  case c2 => exact rfl
  case c3 => exact rfl
  case n0 => exact ["number"]
  case k3 => intro s rvs hl; obtain ⟨a, rfl⟩ := len1 hl; exact BindsTo.of_eq rfl
  case d0 => exact 0
  case k4 => exact rfl
  case k5 => decide
  case hd => first | assumption | omega
  intro L'
  show WS _ _ _ _ [("number", .int n)] _ _ _ _
  with_reducible refine WS.cons ?_
  with_reducible refine' WX.assign ?_ ?k1 ?k2 ?k3
  case k1 => exact rfl
  case k2 => exact rfl
  case k3 => exact rfl
  with_reducible refine WE.tup ?_
  with_reducible refine' WL.cons ?_ ?k1
  case k1 => exact rfl
  with_reducible refine WE.int ?_
  with_reducible refine' WL.cons ?_ ?k1
  case k1 => exact rfl
  with_reducible refine WE.int ?_
  with_reducible refine WL.nil ?_
  with_reducible refine ⟨?k1, ?_⟩
  case k1 => exact Nat.le_of_ble_eq_true rfl
  with_reducible refine' WA.tup ?k1 ?k2 ?_
  case k1 => exact rfl
  case k2 => exact rfl
  with_reducible refine' WAs.cons ?_ ?k1
  case k1 => exact rfl
  with_reducible refine' WA.name ?k1 ?_
  case k1 => exact rfl
  with_reducible refine' WAs.cons ?_ ?k1
  case k1 => exact rfl
  with_reducible refine' WA.name ?k1 ?_
  case k1 => exact rfl
  with_reducible refine WAs.nil ?_
  with_reducible refine WS.cons ?_
  refine WX.while (fun m loc σ' => ∃ k : Nat, 1 ≤ k ∧ σ' = σ ∧ loc = ([("bound", .int (10 ^ k : Nat)), ("many", .int k), ("number", .int n)] : Loc) ∧ (k = 1 ∨ 10 ^ (k - 1) ≤ n) ∧ m = n + 1 - 10 ^ k) _ (locJ := [("bound", .int (10 ^ 1 : Nat)), ("many", .int 1), ("number", .int n)]) ?_ ⟨1, Nat.le_refl _, rfl, rfl, .inl rfl, rfl⟩ ?_
  · refine Weak.cons rfl ?_
    refine Weak.cons rfl ?_
    refine Weak.cons rfl ?_
    exact Weak.nil
  · rintro _ _ _ ⟨k, hk, rfl, rfl, hb, rfl⟩
    with_reducible refine' WT.cmp1 ?_ ?k1
    case k1 => exact rfl
    with_reducible refine' WE.name ?k1 ?k2 ?_ ?k3
    case k1 => exact rfl
    case k2 => exact rfl
    case k3 => decide
    with_reducible refine' WE.name ?k1 ?k2 ?_ ?k3
    case k1 => exact rfl
    case k2 => exact rfl
    case k3 => decide
    with_reducible refine ⟨_, CmpOk.leI, ?_⟩
    by_cases h : (10 ^ k : Nat) ≤ n
    · rw [if_pos (decide_eq_true (by exact_mod_cast h))]
      have k8 := pow_lt_of h hn
      with_reducible refine WS.cons ?_
      with_reducible refine' WX.aug ?k1 ?k2 ?_
      case k1 => exact rfl
      case k2 => exact rfl
      with_reducible refine WE.int ?_
      refine ⟨_, AugOk.mul ?_ ?_, ?_⟩
      · have : (0 : Int) ≤ (10 ^ k : Nat) := Int.natCast_nonneg _
        omega
      · have : ((10 ^ k : Nat) : Int) ≤ n := by exact_mod_cast h
        omega
      with_reducible refine WS.cons ?_
      with_reducible refine' WX.aug ?k1 ?k2 ?_
      case k1 => exact rfl
      case k2 => exact rfl
      with_reducible refine WE.int ?_
      with_reducible refine ⟨_, AugOk.add, ?_⟩
      with_reducible refine WS.nil ?_
      refine ⟨_, _, _, ?_, ?_, Le.refl, k + 1, by omega, rfl, rfl, .inr (by simpa using h), rfl⟩
      · have : 0 < 10 ^ k := Nat.pow_pos (by decide)
        rw [Nat.pow_succ]
        omega
      · have e1 : ((10 ^ (k + 1) : Nat) : Int) = ((10 ^ k : Nat) : Int) * 10 := by rw [Nat.pow_succ]; push_cast; rfl
        have e2 : ((k + 1 : Nat) : Int) = (k : Int) + 1 := by push_cast; rfl
        rw [e1, e2]
        refine Weak.cons rfl ?_
        refine Weak.cons rfl ?_
        refine Weak.cons rfl ?_
        exact Weak.nil
    · rw [if_neg (by simpa using (by exact_mod_cast h : ¬ ((10 ^ k : Nat) : Int) ≤ n))]
      with_reducible refine WS.cons ?_
      with_reducible refine WX.ret ?_
      with_reducible refine' WE.name ?k1 ?k2 ?_ ?k3
      case k1 => exact rfl
      case k2 => exact rfl
      case k3 => decide
      rw [figs_eq hk (by omega) hb] at q
      exact q
end
section
variable {w : World} {σ : St} {Q : V → St → Prop} {X : Str → St → Prop} {d : Nat}
theorem t_rounded {n p : Nat} (hn : n < 10 ^ 8) (hp : 1 ≤ p) (hp2 : p ≤ 100) (hd : 2 ≤ d) (q : Q (.int (near n p)) σ) : CT w d (.ref 65) [.int n, .int p] σ Q X := by
  refine' CT.more (CT.defn (d := ?d0) (names := ?n0) ?k1 ?k2 ?k3 ?k4 ?k5 ?_ ?c1 ?c2 ?c3) ?hd
  case k1 => k_is
  case k2 => k_is
  case c1 => exact rfl
  case c2 => exact rfl
  case c3 => exact rfl
  case n0 => exact ["number", "places"]
  case k3 => intro s rvs hl; obtain ⟨a, b, rfl⟩ := len2 hl; exact BindsTo.of_eq rfl
  case d0 => exact 1
  case k4 => exact rfl
  case k5 => decide
  case hd => first | assumption | omega
  intro L'
  show WS _ _ _ _ [("places", .int p), ("number", .int n)] _ _ _ _
  with_reducible refine WS.cons ?_
  with_reducible refine WX.if ?_
  with_reducible refine' WT.cmp1 ?_ ?k1
  case k1 => exact rfl
  with_reducible refine' WE.name ?k1 ?k2 ?_ ?k3
  case k1 => exact rfl
  case k2 => exact rfl
  case k3 => decide
  with_reducible refine WE.int ?_
  with_reducible refine ⟨_, CmpOk.leI, ?_⟩
  rw [if_neg (by simp; omega)]
  with_reducible refine WS.nil ?_
  with_reducible refine WS.cons ?_
  with_reducible refine WX.if ?_
  with_reducible refine' WT.cmp1 ?_ ?k1
  case k1 => exact rfl
  with_reducible refine' WE.name ?k1 ?k2 ?_ ?k3
  case k1 => exact rfl
  case k2 => exact rfl
  case k3 => decide
  with_reducible refine WE.bin ?_
  with_reducible refine' WE.callK ?k1 ?k2 ?k3 ?_ ?k4 ?k5 ?k6 ?k7
  case k1 => exact rfl
  case k2 => k_is
  case k3 => k_is
  case k4 => decide
  case k5 => exact rfl
  case k6 => exact rfl
  case k7 => intro _ _; exact rfl
  with_reducible refine' WL.cons ?_ ?k1
  case k1 => exact rfl
  with_reducible refine' WE.name ?k1 ?k2 ?_ ?k3
  case k1 => exact rfl
  case k2 => exact rfl
  case k3 => decide
  with_reducible refine WL.nil ?_
  refine t_figures hn (Nat.le_refl _) ?_
  with_reducible refine WE.int ?_
  with_reducible refine ⟨_, BinOk.add, ?_⟩
  with_reducible refine ⟨_, CmpOk.gtI, ?_⟩
  refine ite_dec (fun h => ?_) (fun h => ?_)
  · with_reducible refine WS.cons ?_
    with_reducible refine WX.ret ?_
    with_reducible refine WE.int ?_
    rw [near_small (by omega)] at q
    exact q
  with_reducible refine WS.nil ?_
  with_reducible refine WS.cons ?_
  with_reducible refine' WX.assign ?_ ?k1 ?k2 ?k3
  case k1 => exact rfl
  case k2 => exact rfl
  case k3 => exact rfl
  with_reducible refine WE.bin ?_
  with_reducible refine WE.int ?_
  with_reducible refine' WE.name ?k1 ?k2 ?_ ?k3
  case k1 => exact rfl
  case k2 => exact rfl
  case k3 => decide
  have h1 := pow10_lt (show p ≤ 1000 by omega)
  have h0 : 0 < 10 ^ p := Nat.pow_pos (by decide)
  refine ⟨_, BinOk.pow10 (by omega), ?_⟩
  with_reducible refine' WA.name ?k1 ?_
  case k1 => exact rfl
  with_reducible refine WS.cons ?_
  with_reducible refine' WX.swap2 ?k1 ?k2 ?k4 ?_ ?k3
  case k1 => exact rfl
  case k2 => exact rfl
  case k4 => exact rfl
  case k3 => exact rfl
  with_reducible refine WE.tup ?_
  with_reducible refine' WL.cons ?_ ?k1
  case k1 => exact rfl
  with_reducible refine WE.bin ?_
  with_reducible refine' WE.name ?k1 ?k2 ?_ ?k3
  case k1 => exact rfl
  case k2 => exact rfl
  case k3 => decide
  with_reducible refine' WE.name ?k1 ?k2 ?_ ?k3
  case k1 => exact rfl
  case k2 => exact rfl
  case k3 => decide
  refine ⟨_, BinOk.divN h0 h1, ?_⟩
  with_reducible refine' WL.cons ?_ ?k1
  case k1 => exact rfl
  with_reducible refine WE.bin ?_
  with_reducible refine' WE.name ?k1 ?k2 ?_ ?k3
  case k1 => exact rfl
  case k2 => exact rfl
  case k3 => decide
  with_reducible refine' WE.name ?k1 ?k2 ?_ ?k3
  case k1 => exact rfl
  case k2 => exact rfl
  case k3 => decide
  refine ⟨_, BinOk.modN h0, ?_⟩
  with_reducible refine WL.nil ?_
  with_reducible refine ⟨?k1, ?_⟩
  case k1 => exact Nat.le_of_ble_eq_true rfl
  with_reducible refine ⟨_, _, rfl, ?_⟩
  with_reducible refine WS.cons ?_
  with_reducible refine WX.if ?_
  with_reducible refine WT.or2 ?_
  with_reducible refine' WT.cmp1 ?_ ?k1
  case k1 => exact rfl
  with_reducible refine WE.bin ?_
  with_reducible refine WE.int ?_
  with_reducible refine' WE.name ?k1 ?k2 ?_ ?k3
  case k1 => exact rfl
  case k2 => exact rfl
  case k3 => decide
  generalize hu : 10 ^ p = u at *
  refine ⟨_, BinOk.mul (by decide) (by decide), ?_⟩
  with_reducible refine' WE.name ?k1 ?k2 ?_ ?k3
  case k1 => exact rfl
  case k2 => exact rfl
  case k3 => decide
  with_reducible refine ⟨_, CmpOk.gtI, ?_⟩
  have e : near n p = n / u + (if 2 * (n % u) > u ∨ (2 * (n % u) = u ∧ n / u % 2 = 1) then 1 else 0) := by subst hu; rfl
  refine ite_dec (fun h2 => ?_) (fun h2 => ?_)
  · with_reducible refine (if_pos (rfl : true = true)).mpr ?_
    with_reducible refine WS.cons ?_
    with_reducible refine' WX.aug ?k1 ?k2 ?_
    case k1 => exact rfl
    case k2 => exact rfl
    with_reducible refine WE.int ?_
    with_reducible refine ⟨_, AugOk.add, ?_⟩
    with_reducible refine WS.nil ?_
    with_reducible refine WS.cons ?_
    with_reducible refine WX.ret ?_
    with_reducible refine' WE.name ?k1 ?k2 ?_ ?k3
    case k1 => exact rfl
    case k2 => exact rfl
    case k3 => decide
    rw [e, if_pos (.inl (by omega))] at q
    exact q
  with_reducible refine WT.and2 ?_
  with_reducible refine' WT.cmp1 ?_ ?k1
  case k1 => exact rfl
  with_reducible refine WE.bin ?_
  with_reducible refine WE.int ?_
  with_reducible refine' WE.name ?k1 ?k2 ?_ ?k3
  case k1 => exact rfl
  case k2 => exact rfl
  case k3 => decide
  refine ⟨_, BinOk.mul (by decide) (by decide), ?_⟩
  with_reducible refine' WE.name ?k1 ?k2 ?_ ?k3
  case k1 => exact rfl
  case k2 => exact rfl
  case k3 => decide
  with_reducible refine ⟨_, CmpOk.eqI, ?_⟩
  refine ite_beq (fun h3 => ?_) (fun h3 => ?_)
  · with_reducible refine' WT.cmp1 ?_ ?k1
    case k1 => exact rfl
    with_reducible refine WE.bin ?_
    with_reducible refine' WE.name ?k1 ?k2 ?_ ?k3
    case k1 => exact rfl
    case k2 => exact rfl
    case k3 => decide
    with_reducible refine WE.int ?_
    refine ⟨_, BinOk.modN (b := 2) (by decide), ?_⟩
    with_reducible refine WE.int ?_
    with_reducible refine ⟨_, CmpOk.eqI, ?_⟩
    refine ite_beq (fun h4 => ?_) (fun h4 => ?_)
    · with_reducible refine WS.cons ?_
      with_reducible refine' WX.aug ?k1 ?k2 ?_
      case k1 => exact rfl
      case k2 => exact rfl
      with_reducible refine WE.int ?_
      with_reducible refine ⟨_, AugOk.add, ?_⟩
      with_reducible refine WS.nil ?_
      with_reducible refine WS.cons ?_
      with_reducible refine WX.ret ?_
      with_reducible refine' WE.name ?k1 ?k2 ?_ ?k3
      case k1 => exact rfl
      case k2 => exact rfl
      case k3 => decide
      rw [e, if_pos (.inr ⟨by omega, by omega⟩)] at q
      exact q
    · with_reducible refine WS.nil ?_
      with_reducible refine WS.cons ?_
      with_reducible refine WX.ret ?_
      with_reducible refine' WE.name ?k1 ?k2 ?_ ?k3
      case k1 => exact rfl
      case k2 => exact rfl
      case k3 => decide
      rw [e, if_neg (by omega)] at q
      exact q
  · with_reducible refine (if_neg Bool.false_ne_true).mpr ?_
    with_reducible refine WS.nil ?_
    with_reducible refine WS.cons ?_
    with_reducible refine WX.ret ?_
    with_reducible refine' WE.name ?k1 ?k2 ?_ ?k3
    case k1 => exact rfl
    case k2 => exact rfl
    case k3 => decide
    rw [e, if_neg (by omega)] at q
    exact q
end
section
variable {w : World} {σ : St} {Q : V → St → Prop} {X : Str → St → Prop} {d : Nat}
theorem t_near {n p : Nat} (hn : n < 10 ^ 8) (hp2 : p ≤ 100) (hd : 2 ≤ d) (q : Q (.int (near n p)) σ) : CT w d (.ref 220) [.int n, .int p] σ Q X := by
  refine' CT.more (CT.defn (d := ?d0) (names := ?n0) ?k1 ?k2 ?k3 ?k4 ?k5 ?_ ?c1 ?c2 ?c3) ?hd
  case k1 => k_is
  case k2 => k_is
  case c1 => exact rfl
  case c2 => exact rfl
  case c3 => exact rfl
  case n0 => exact ["size", "more"]
  case k3 => intro s rvs hl; obtain ⟨a, b, rfl⟩ := len2 hl; exact BindsTo.of_eq rfl
  case d0 => exact 0
  case k4 => exact rfl
  case k5 => decide
  case hd => first | assumption | omega
  intro L'
  show WS _ _ _ _ [("more", .int p), ("size", .int n)] _ _ _ _
  with_reducible refine WS.cons ?_
  with_reducible refine' WX.assign ?_ ?k1 ?k2 ?k3
  case k1 => exact rfl
  case k2 => exact rfl
  case k3 => exact rfl
  with_reducible refine WE.bin ?_
  with_reducible refine WE.int ?_
  with_reducible refine' WE.name ?k1 ?k2 ?_ ?k3
  case k1 => exact rfl
  case k2 => exact rfl
  case k3 => decide
  have h1 := pow10_lt (show p ≤ 1000 by omega)
  have h0 : 0 < 10 ^ p := Nat.pow_pos (by decide)
  refine ⟨_, BinOk.pow10 (by omega), ?_⟩
  with_reducible refine' WA.name ?k1 ?_
  case k1 => exact rfl
  with_reducible refine WS.cons ?_
  with_reducible refine' WX.swap2 ?k1 ?k2 ?k4 ?_ ?k3
  case k1 => exact rfl
  case k2 => exact rfl
  case k4 => exact rfl
  case k3 => exact rfl
  with_reducible refine WE.tup ?_
  with_reducible refine' WL.cons ?_ ?k1
  case k1 => exact rfl
  with_reducible refine WE.bin ?_
  with_reducible refine' WE.name ?k1 ?k2 ?_ ?k3
  case k1 => exact rfl
  case k2 => exact rfl
  case k3 => decide
  with_reducible refine' WE.name ?k1 ?k2 ?_ ?k3
  case k1 => exact rfl
  case k2 => exact rfl
  case k3 => decide
  refine ⟨_, BinOk.divN h0 h1, ?_⟩
  with_reducible refine' WL.cons ?_ ?k1
  case k1 => exact rfl
  with_reducible refine WE.bin ?_
  with_reducible refine' WE.name ?k1 ?k2 ?_ ?k3
  case k1 => exact rfl
  case k2 => exact rfl
  case k3 => decide
  with_reducible refine' WE.name ?k1 ?k2 ?_ ?k3
  case k1 => exact rfl
  case k2 => exact rfl
  case k3 => decide
  refine ⟨_, BinOk.modN h0, ?_⟩
  with_reducible refine WL.nil ?_
  with_reducible refine ⟨?k1, ?_⟩
  case k1 => exact Nat.le_of_ble_eq_true rfl
  with_reducible refine ⟨_, _, rfl, ?_⟩
  with_reducible refine WS.cons ?_
  with_reducible refine WX.ret ?_
  with_reducible refine WE.bin ?_
  with_reducible refine' WE.name ?k1 ?k2 ?_ ?k3
  case k1 => exact rfl
  case k2 => exact rfl
  case k3 => decide
  with_reducible refine WE.ifexp ?_
  with_reducible refine WT.or2 ?_
  with_reducible refine' WT.cmp1 ?_ ?k1
  case k1 => exact rfl
  with_reducible refine WE.bin ?_
  with_reducible refine WE.int ?_
  with_reducible refine' WE.name ?k1 ?k2 ?_ ?k3
  case k1 => exact rfl
  case k2 => exact rfl
  case k3 => decide
  generalize hu : 10 ^ p = u at *
  have e : near n p = n / u + (if 2 * (n % u) > u ∨ (2 * (n % u) = u ∧ n / u % 2 = 1) then 1 else 0) := by subst hu; rfl
  refine ⟨_, BinOk.mul (by decide) (by decide), ?_⟩
  with_reducible refine' WE.name ?k1 ?k2 ?_ ?k3
  case k1 => exact rfl
  case k2 => exact rfl
  case k3 => decide
  with_reducible refine ⟨_, CmpOk.gtI, ?_⟩
  refine ite_dec (fun h2 => ?_) (fun h2 => ?_)
  · with_reducible refine (if_pos (rfl : true = true)).mpr ?_
    with_reducible refine WE.int ?_
    with_reducible refine ⟨_, BinOk.add, ?_⟩
    rw [e, if_pos (.inl (by omega))] at q
    exact q
  with_reducible refine WT.and2 ?_
  with_reducible refine' WT.cmp1 ?_ ?k1
  case k1 => exact rfl
  with_reducible refine WE.bin ?_
  with_reducible refine WE.int ?_
  with_reducible refine' WE.name ?k1 ?k2 ?_ ?k3
  case k1 => exact rfl
  case k2 => exact rfl
  case k3 => decide
  refine ⟨_, BinOk.mul (by decide) (by decide), ?_⟩
  with_reducible refine' WE.name ?k1 ?k2 ?_ ?k3
  case k1 => exact rfl
  case k2 => exact rfl
  case k3 => decide
  with_reducible refine ⟨_, CmpOk.eqI, ?_⟩
  refine ite_beq (fun h3 => ?_) (fun h3 => ?_)
  · with_reducible refine' WT.cmp1 ?_ ?k1
    case k1 => exact rfl
    with_reducible refine WE.bin ?_
    with_reducible refine' WE.name ?k1 ?k2 ?_ ?k3
    case k1 => exact rfl
    case k2 => exact rfl
    case k3 => decide
    with_reducible refine WE.int ?_
    refine ⟨_, BinOk.modN (b := 2) (by decide), ?_⟩
    with_reducible refine WE.int ?_
    with_reducible refine ⟨_, CmpOk.eqI, ?_⟩
    refine ite_beq (fun h4 => ?_) (fun h4 => ?_)
    · with_reducible refine WE.int ?_
      with_reducible refine ⟨_, BinOk.add, ?_⟩
      rw [e, if_pos (.inr ⟨by omega, by omega⟩)] at q
      exact q
    · with_reducible refine WE.int ?_
      with_reducible refine ⟨_, BinOk.add, ?_⟩
      rw [e, if_neg (by omega)] at q
      simpa using q
  · with_reducible refine (if_neg Bool.false_ne_true).mpr ?_
    with_reducible refine WE.int ?_
    with_reducible refine ⟨_, BinOk.add, ?_⟩
    rw [e, if_neg (by omega)] at q
    simpa using q
theorem t_made {c e : Int} {g : Nat} (hc : c.natAbs < 10 ^ 7) (he : e.natAbs ≤ 10) (hg : 3 ≤ g) (hg2 : g ≤ 10) (hd : 3 ≤ d) (q : Q (mk c e g) σ) : CT w d (.ref 72) [.int c, .int e, .int g] σ Q X := by
  refine' CT.more (CT.defn (d := ?d0) (names := ?n0) ?k1 ?k2 ?k3 ?k4 ?k5 ?_ ?c1 ?c2 ?c3) ?hd
  case k1 => k_is
  case k2 => k_is
  case c1 => exact rfl
  case c2 => exact rfl
  case c3 => exact rfl
  case n0 => exact ["coefficient", "exponent", "digits"]
  case k3 => intro s rvs hl; obtain ⟨a, b, c, rfl⟩ := len3 hl; exact BindsTo.of_eq rfl
  case d0 => exact 2
  case k4 => exact rfl
  case k5 => decide
  case hd => first | assumption | omega
  intro L'
  show WS _ _ _ _ [("digits", .int g), ("exponent", .int e), ("coefficient", .int c)] _ _ _ _
  with_reducible refine WS.cons ?_
  with_reducible refine' WX.assign ?_ ?k1 ?k2 ?k3
  case k1 => exact rfl
  case k2 => exact rfl
  case k3 => exact rfl
  with_reducible refine' WE.callB ?k1 ?k2 ?k3 ?k8 ?k9 ?_ ?k4 ?k5 ?k6 ?k7
  case k1 => exact rfl
  case k2 => k_is
  case k3 => boot_fast
  case k8 => decide
  case k9 => exact rfl
  case k4 => decide
  case k5 => exact rfl
  case k6 => exact rfl
  case k7 => intro _ _; exact rfl
  with_reducible refine' WL.cons ?_ ?k1
  case k1 => exact rfl
  with_reducible refine' WE.name ?k1 ?k2 ?_ ?k3
  case k1 => exact rfl
  case k2 => exact rfl
  case k3 => decide
  with_reducible refine WL.nil ?_
  with_reducible refine CT.absN ?_
  with_reducible refine' WA.name ?k1 ?_
  case k1 => exact rfl
  with_reducible refine WS.cons ?_
  with_reducible refine' WX.assign ?_ ?k1 ?k2 ?k3
  case k1 => exact rfl
  case k2 => exact rfl
  case k3 => exact rfl
  with_reducible refine WE.bin ?_
  with_reducible refine' WE.callK ?k1 ?k2 ?k3 ?_ ?k4 ?k5 ?k6 ?k7
  case k1 => exact rfl
  case k2 => k_is
  case k3 => k_is
  case k4 => decide
  case k5 => exact rfl
  case k6 => exact rfl
  case k7 => intro _ _; exact rfl
  with_reducible refine' WL.cons ?_ ?k1
  case k1 => exact rfl
  with_reducible refine' WE.name ?k1 ?k2 ?_ ?k3
  case k1 => exact rfl
  case k2 => exact rfl
  case k3 => decide
  with_reducible refine WL.nil ?_
  generalize hn : c.natAbs = n at *
  refine t_figures (by omega) (by omega) ?_
  with_reducible refine' WE.name ?k1 ?k2 ?_ ?k3
  case k1 => exact rfl
  case k2 => exact rfl
  case k3 => decide
  with_reducible refine ⟨_, BinOk.sub, ?_⟩
  with_reducible refine' WA.name ?k1 ?_
  case k1 => exact rfl
  with_reducible refine WS.cons ?_
  with_reducible refine WX.if ?_
  with_reducible refine' WT.cmp1 ?_ ?k1
  case k1 => exact rfl
  with_reducible refine' WE.name ?k1 ?k2 ?_ ?k3
  case k1 => exact rfl
  case k2 => exact rfl
  case k3 => decide
  with_reducible refine WE.int ?_
  with_reducible refine ⟨_, CmpOk.gtI, ?_⟩
  generalize hp : (if g < figs n then (near n (figs n - g), e + ((figs n - g : Nat) : Int)) else (n, e) : Nat × Int) = p at *
  have hf : figs n ≤ 7 := (figs_le (by decide)).mpr hc
  have hp1 : p.1 ≤ 10 ^ 7 := by
    have := near_le n (figs n - g)
    subst hp; split <;> dsimp only <;> omega
  have hp2 : -10 ≤ p.2 ∧ p.2 ≤ 20 := by
    subst hp; split <;> dsimp only <;> omega
  refine WS.join2 (fun l s => s = σ ∧ Weak ([("size", .int p.1), ("exponent", .int p.2), ("digits", .int g), ("coefficient", .int c)] : Loc) l) ?_ ?_
  · refine ite_dec (fun h => ?_) (fun h => ?_)
    · with_reducible refine WS.cons ?_
      with_reducible refine' WX.swap2 ?k1 ?k2 ?k4 ?_ ?k3
      case k1 => exact rfl
      case k2 => exact rfl
      case k4 => exact rfl
      case k3 => exact rfl
      with_reducible refine WE.tup ?_
      with_reducible refine' WL.cons ?_ ?k1
      case k1 => exact rfl
      with_reducible refine' WE.callK ?k1 ?k2 ?k3 ?_ ?k4 ?k5 ?k6 ?k7
      case k1 => exact rfl
      case k2 => k_is
      case k3 => k_is
      case k4 => decide
      case k5 => exact rfl
      case k6 => exact rfl
      case k7 => intro _ _; exact rfl
      with_reducible refine' WL.cons ?_ ?k1
      case k1 => exact rfl
      with_reducible refine' WE.name ?k1 ?k2 ?_ ?k3
      case k1 => exact rfl
      case k2 => exact rfl
      case k3 => decide
      with_reducible refine' WL.cons ?_ ?k1
      case k1 => exact rfl
      with_reducible refine' WE.name ?k1 ?k2 ?_ ?k3
      case k1 => exact rfl
      case k2 => exact rfl
      case k3 => decide
      with_reducible refine WL.nil ?_
      obtain ⟨m, hm⟩ : ∃ m : Nat, figs n - g = m := ⟨_, rfl⟩
      have hm2 : (figs n : Int) - g = m := by omega
      rw [if_pos (by omega), hm] at hp
      rw [hm2]
      refine t_rounded (by omega) (by omega) (by omega) (by omega) ?_
      with_reducible refine' WL.cons ?_ ?k1
      case k1 => exact rfl
      with_reducible refine WE.bin ?_
      with_reducible refine' WE.name ?k1 ?k2 ?_ ?k3
      case k1 => exact rfl
      case k2 => exact rfl
      case k3 => decide
      with_reducible refine' WE.name ?k1 ?k2 ?_ ?k3
      case k1 => exact rfl
      case k2 => exact rfl
      case k3 => decide
      with_reducible refine ⟨_, BinOk.add, ?_⟩
      with_reducible refine WL.nil ?_
      with_reducible refine ⟨?k1, ?_⟩
      case k1 => exact Nat.le_of_ble_eq_true rfl
      with_reducible refine ⟨_, _, rfl, ?_⟩
      with_reducible refine WS.nil ?_
      subst hp
      exact ⟨rfl, by ((repeat (refine Weak.cons rfl ?_)); exact Weak.nil)⟩
    · with_reducible refine WS.nil ?_
      rw [if_neg (by omega)] at hp
      subst hp
      exact ⟨rfl, by ((repeat (refine Weak.cons rfl ?_)); exact Weak.nil)⟩
  rintro l s ⟨hs, hl⟩
  subst s
  refine WS.less ?_ hl
  with_reducible refine WS.cons ?_
  with_reducible refine WX.if ?_
  with_reducible refine' WT.cmp1 ?_ ?k1
  case k1 => exact rfl
  with_reducible refine' WE.name ?k1 ?k2 ?_ ?k3
  case k1 => exact rfl
  case k2 => exact rfl
  case k3 => decide
  with_reducible refine WE.int ?_
  with_reducible refine ⟨_, CmpOk.eqI, ?_⟩
  have hmk : mk c e g = if p.1 = 0 then tw 0 0 else tw (if c < 0 then -((strip p.1 p.2).1 : Int) else (strip p.1 p.2).1) (strip p.1 p.2).2 := by
    subst hp
    unfold mk
    rw [hn]
  rw [hmk] at q
  clear hmk hp
  obtain ⟨m, e₁⟩ := p
  dsimp only at *
  refine ite_beq (fun h => ?_) (fun h => ?_)
  · with_reducible refine WS.cons ?_
    with_reducible refine WX.ret ?_
    with_reducible refine WE.tup ?_
    with_reducible refine' WL.cons ?_ ?k1
    case k1 => exact rfl
    with_reducible refine WE.int ?_
    with_reducible refine' WL.cons ?_ ?k1
    case k1 => exact rfl
    with_reducible refine WE.int ?_
    with_reducible refine WL.nil ?_
    with_reducible refine ⟨?k1, ?_⟩
    case k1 => exact Nat.le_of_ble_eq_true rfl
    rw [if_pos (by omega)] at q
    exact q
  rw [if_neg (by omega)] at q
  with_reducible refine WS.nil ?_
  with_reducible refine WS.cons ?_
  refine WX.while (fun k l s => ∃ (z : Nat) (x : Int) (t : Nat), s = σ ∧ l = ([("size", .int z), ("exponent", .int x), ("digits", .int g), ("coefficient", .int c)] : Loc) ∧ 0 < z ∧ strip z x = strip m e₁ ∧ e₁ ≤ x ∧ z < 10 ^ t ∧ x + t = e₁ + 8 ∧ k = z) m .refl ⟨m, e₁, 8, rfl, rfl, by omega, rfl, by omega, by omega, by omega, rfl⟩ ?_
  rintro k l' s ⟨z, x, t, hs0, hl0, z0, hs, hx, hz, ht, hk⟩
  subst s l' k
  with_reducible refine' WT.cmp1 ?_ ?k1
  case k1 => exact rfl
  with_reducible refine WE.bin ?_
  with_reducible refine' WE.name ?k1 ?k2 ?_ ?k3
  case k1 => exact rfl
  case k2 => exact rfl
  case k3 => decide
  with_reducible refine WE.int ?_
  refine ⟨_, BinOk.modN (b := 10) (by decide), ?_⟩
  with_reducible refine WE.int ?_
  with_reducible refine ⟨_, CmpOk.eqI, ?_⟩
  refine ite_beq (fun h => ?_) (fun h => ?_)
  · with_reducible refine WS.cons ?_
    with_reducible refine' WX.swap2 ?k1 ?k2 ?k4 ?_ ?k3
    case k1 => exact rfl
    case k2 => exact rfl
    case k4 => exact rfl
    case k3 => exact rfl
    with_reducible refine WE.tup ?_
    with_reducible refine' WL.cons ?_ ?k1
    case k1 => exact rfl
    with_reducible refine WE.bin ?_
    with_reducible refine' WE.name ?k1 ?k2 ?_ ?k3
    case k1 => exact rfl
    case k2 => exact rfl
    case k3 => decide
    with_reducible refine WE.int ?_
    refine ⟨_, BinOk.divN (b := 10) (by decide) (pow10_lt (p := 1) (by decide)), ?_⟩
    with_reducible refine' WL.cons ?_ ?k1
    case k1 => exact rfl
    with_reducible refine WE.bin ?_
    with_reducible refine' WE.name ?k1 ?k2 ?_ ?k3
    case k1 => exact rfl
    case k2 => exact rfl
    case k3 => decide
    with_reducible refine WE.int ?_
    with_reducible refine ⟨_, BinOk.add, ?_⟩
    with_reducible refine WL.nil ?_
    with_reducible refine ⟨?k1, ?_⟩
    case k1 => exact Nat.le_of_ble_eq_true rfl
    with_reducible refine ⟨_, _, rfl, ?_⟩
    with_reducible refine WS.nil ?_
    have t1 : 1 ≤ t := by
      cases t with
      | zero => omega
      | succ t => omega
    refine ⟨z / 10, _, _, ?_, ?_, Le.refl, z / 10, x + 1, t - 1, rfl, rfl, by omega, ?_, by omega, ?_, by omega, rfl⟩
    · omega
    · refine Weak.cons rfl ?_
      refine Weak.cons rfl ?_
      refine Weak.cons rfl ?_
      refine Weak.cons rfl ?_
      exact Weak.nil
    · rw [← strip_go ⟨z0, by omega⟩, hs]
    · obtain ⟨t, rfl⟩ : ∃ t', t = t' + 1 := ⟨t - 1, by omega⟩
      rw [Nat.pow_succ] at hz
      rw [Nat.add_sub_cancel]
      omega
  with_reducible refine WS.cons ?_
  with_reducible refine' WX.assign ?_ ?k1 ?k2 ?k3
  case k1 => exact rfl
  case k2 => exact rfl
  case k3 => exact rfl
  with_reducible refine WE.bin ?_
  with_reducible refine WE.bin ?_
  with_reducible refine' WE.name ?k1 ?k2 ?_ ?k3
  case k1 => exact rfl
  case k2 => exact rfl
  case k3 => decide
  with_reducible refine' WE.callK ?k1 ?k2 ?k3 ?_ ?k4 ?k5 ?k6 ?k7
  case k1 => exact rfl
  case k2 => k_is
  case k3 => k_is
  case k4 => decide
  case k5 => exact rfl
  case k6 => exact rfl
  case k7 => intro _ _; exact rfl
  with_reducible refine' WL.cons ?_ ?k1
  case k1 => exact rfl
  with_reducible refine' WE.name ?k1 ?k2 ?_ ?k3
  case k1 => exact rfl
  case k2 => exact rfl
  case k3 => decide
  with_reducible refine WL.nil ?_
  rw [← hs, strip_no (by omega)] at q
  have t1 : 1 ≤ t := by
    cases t with
    | zero => omega
    | succ t => omega
  have hfz : figs z ≤ t := (figs_le t1).mpr hz
  have hfz1 := figs_pos z
  have hz8 : z < 10 ^ 8 := by
    have : (10 : Nat) ^ t ≤ 10 ^ 8 := Nat.pow_le_pow_right (by decide) (by omega)
    omega
  refine t_figures (by omega) (by omega) ?_
  with_reducible refine ⟨_, BinOk.add, ?_⟩
  with_reducible refine WE.int ?_
  with_reducible refine ⟨_, BinOk.sub, ?_⟩
  with_reducible refine' WA.name ?k1 ?_
  case k1 => exact rfl
  with_reducible refine WS.cons ?_
  with_reducible refine WX.if ?_
  with_reducible refine' WT.cmp1 ?_ ?k1
  case k1 => exact rfl
  with_reducible refine' WE.name ?k1 ?k2 ?_ ?k3
  case k1 => exact rfl
  case k2 => exact rfl
  case k3 => decide
  with_reducible refine' WE.top ?k1 ?k2 ?_ ?k3
  case k1 => exact rfl
  case k2 => k_is
  case k3 => decide
  with_reducible refine ⟨_, CmpOk.gtI, ?_⟩
  refine ite_dec (fun h => by omega) (fun h => ?_)
  with_reducible refine WS.nil ?_
  with_reducible refine WS.cons ?_
  with_reducible refine WX.if ?_
  with_reducible refine' WT.cmp1 ?_ ?k1
  case k1 => exact rfl
  with_reducible refine' WE.name ?k1 ?k2 ?_ ?k3
  case k1 => exact rfl
  case k2 => exact rfl
  case k3 => decide
  with_reducible refine WE.neg ?_
  with_reducible refine' WE.top ?k1 ?k2 ?_ ?k3
  case k1 => exact rfl
  case k2 => k_is
  case k3 => decide
  with_reducible refine ⟨_, rfl, ?_⟩
  with_reducible refine ⟨_, CmpOk.ltI, ?_⟩
  refine ite_dec (fun h => by omega) (fun h => ?_)
  with_reducible refine WS.nil ?_
  with_reducible refine WS.cons ?_
  with_reducible refine WX.ret ?_
  with_reducible refine WE.tup ?_
  with_reducible refine' WL.cons ?_ ?k1
  case k1 => exact rfl
  with_reducible refine WE.ifexp ?_
  with_reducible refine' WT.cmp1 ?_ ?k1
  case k1 => exact rfl
  with_reducible refine' WE.name ?k1 ?k2 ?_ ?k3
  case k1 => exact rfl
  case k2 => exact rfl
  case k3 => decide
  with_reducible refine WE.int ?_
  with_reducible refine ⟨_, CmpOk.ltI, ?_⟩
  refine ite_dec (fun h => ?_) (fun h => ?_)
  · with_reducible refine WE.neg ?_
    with_reducible refine' WE.name ?k1 ?k2 ?_ ?k3
    case k1 => exact rfl
    case k2 => exact rfl
    case k3 => decide
    with_reducible refine ⟨_, rfl, ?_⟩
    with_reducible refine' WL.cons ?_ ?k1
    case k1 => exact rfl
    with_reducible refine' WE.name ?k1 ?k2 ?_ ?k3
    case k1 => exact rfl
    case k2 => exact rfl
    case k3 => decide
    with_reducible refine WL.nil ?_
    with_reducible refine ⟨?k1, ?_⟩
    case k1 => exact Nat.le_of_ble_eq_true rfl
    rw [if_pos h] at q
    exact q
  · with_reducible refine' WE.name ?k1 ?k2 ?_ ?k3
    case k1 => exact rfl
    case k2 => exact rfl
    case k3 => decide
    with_reducible refine' WL.cons ?_ ?k1
    case k1 => exact rfl
    with_reducible refine' WE.name ?k1 ?k2 ?_ ?k3
    case k1 => exact rfl
    case k2 => exact rfl
    case k3 => decide
    with_reducible refine WL.nil ?_
    with_reducible refine ⟨?k1, ?_⟩
    case k1 => exact Nat.le_of_ble_eq_true rfl
    rw [if_neg h] at q
    exact q
theorem t_ldec {c e : Int} {g : Nat} (hc : c.natAbs < 10 ^ 7) (he : e.natAbs ≤ 10) (hg : 3 ≤ g) (hg2 : g ≤ 10) (hd : 3 ≤ d) (q : Q (mk c e g) σ) : CT w d (.ref 227) [.int c, .int e, .int g] σ Q X := by
  refine' CT.more (CT.defn (d := ?d0) (names := ?n0) ?k1 ?k2 ?k3 ?k4 ?k5 ?_ ?c1 ?c2 ?c3) ?hd
  case k1 => k_is
  case k2 => k_is
  case c1 => exact rfl
  case c2 => exact rfl
  case c3 => exact rfl
  case n0 => exact ["number", "power", "digits"]
  case k3 => intro s rvs hl; obtain ⟨a, b, c, rfl⟩ := len3 hl; exact BindsTo.of_eq rfl
  case d0 => exact 2
  case k4 => exact rfl
  case k5 => decide
  case hd => first | assumption | omega
  intro L'
  show WS _ _ _ _ [("digits", .int g), ("power", .int e), ("number", .int c)] _ _ _ _
  with_reducible refine WS.cons ?_
  with_reducible refine' WX.assign ?_ ?k1 ?k2 ?k3
  case k1 => exact rfl
  case k2 => exact rfl
  case k3 => exact rfl
  with_reducible refine' WE.callB ?k1 ?k2 ?k3 ?k8 ?k9 ?_ ?k4 ?k5 ?k6 ?k7
  case k1 => exact rfl
  case k2 => k_is
  case k3 => boot_fast
  case k8 => decide
  case k9 => exact rfl
  case k4 => decide
  case k5 => exact rfl
  case k6 => exact rfl
  case k7 => intro _ _; exact rfl
  with_reducible refine' WL.cons ?_ ?k1
  case k1 => exact rfl
  with_reducible refine' WE.name ?k1 ?k2 ?_ ?k3
  case k1 => exact rfl
  case k2 => exact rfl
  case k3 => decide
  with_reducible refine WL.nil ?_
  with_reducible refine CT.absN ?_
  with_reducible refine' WA.name ?k1 ?_
  case k1 => exact rfl
  with_reducible refine WS.cons ?_
  with_reducible refine' WX.assign ?_ ?k1 ?k2 ?k3
  case k1 => exact rfl
  case k2 => exact rfl
  case k3 => exact rfl
  with_reducible refine WE.bin ?_
  with_reducible refine' WE.callB ?k1 ?k2 ?k3 ?k8 ?k9 ?_ ?k4 ?k5 ?k6 ?k7
  case k1 => exact rfl
  case k2 => k_is
  case k3 => boot_fast
  case k8 => decide
  case k9 => exact rfl
  case k4 => decide
  case k5 => exact rfl
  case k6 => exact rfl
  case k7 => intro _ _; exact rfl
  with_reducible refine' WL.cons ?_ ?k1
  case k1 => exact rfl
  with_reducible refine' WE.callB ?k1 ?k2 ?k3 ?k8 ?k9 ?_ ?k4 ?k5 ?k6 ?k7
  case k1 => exact rfl
  case k2 => k_is
  case k3 => boot_fast
  case k8 => decide
  case k9 => exact rfl
  case k4 => decide
  case k5 => exact rfl
  case k6 => exact rfl
  case k7 => intro _ _; exact rfl
  with_reducible refine' WL.cons ?_ ?k1
  case k1 => exact rfl
  with_reducible refine' WE.name ?k1 ?k2 ?_ ?k3
  case k1 => exact rfl
  case k2 => exact rfl
  case k3 => decide
  with_reducible refine WL.nil ?_
  generalize hn : c.natAbs = n at *
  refine CT.strI (by rw [Int.natAbs_natCast]; omega) ?_
  with_reducible refine WL.nil ?_
  have hf : figs n ≤ 7 := (figs_le (by decide)).mpr hc
  refine CT.lenS (by rw [figs_len]; omega) ?_
  rw [figs_len]
  with_reducible refine' WE.name ?k1 ?k2 ?_ ?k3
  case k1 => exact rfl
  case k2 => exact rfl
  case k3 => decide
  with_reducible refine ⟨_, BinOk.sub, ?_⟩
  with_reducible refine' WA.name ?k1 ?_
  case k1 => exact rfl
  with_reducible refine WS.cons ?_
  with_reducible refine WX.if ?_
  with_reducible refine' WT.cmp1 ?_ ?k1
  case k1 => exact rfl
  with_reducible refine' WE.name ?k1 ?k2 ?_ ?k3
  case k1 => exact rfl
  case k2 => exact rfl
  case k3 => decide
  with_reducible refine WE.int ?_
  with_reducible refine ⟨_, CmpOk.gtI, ?_⟩
  generalize hp : (if g < figs n then (near n (figs n - g), e + ((figs n - g : Nat) : Int)) else (n, e) : Nat × Int) = p at *
  have hp1 : p.1 ≤ 10 ^ 7 := by
    have := near_le n (figs n - g)
    subst hp; split <;> dsimp only <;> omega
  have hp2 : -10 ≤ p.2 ∧ p.2 ≤ 20 := by
    subst hp; split <;> dsimp only <;> omega
  refine WS.join2 (fun l s => s = σ ∧ Weak ([("size", .int p.1), ("power", .int p.2), ("digits", .int g), ("number", .int c)] : Loc) l) ?_ ?_
  · refine ite_dec (fun h => ?_) (fun h => ?_)
    · with_reducible refine WS.cons ?_
      with_reducible refine' WX.swap2 ?k1 ?k2 ?k4 ?_ ?k3
      case k1 => exact rfl
      case k2 => exact rfl
      case k4 => exact rfl
      case k3 => exact rfl
      with_reducible refine WE.tup ?_
      with_reducible refine' WL.cons ?_ ?k1
      case k1 => exact rfl
      with_reducible refine' WE.callK ?k1 ?k2 ?k3 ?_ ?k4 ?k5 ?k6 ?k7
      case k1 => exact rfl
      case k2 => k_is
      case k3 => k_is
      case k4 => decide
      case k5 => exact rfl
      case k6 => exact rfl
      case k7 => intro _ _; exact rfl
      with_reducible refine' WL.cons ?_ ?k1
      case k1 => exact rfl
      with_reducible refine' WE.name ?k1 ?k2 ?_ ?k3
      case k1 => exact rfl
      case k2 => exact rfl
      case k3 => decide
      with_reducible refine' WL.cons ?_ ?k1
      case k1 => exact rfl
      with_reducible refine' WE.name ?k1 ?k2 ?_ ?k3
      case k1 => exact rfl
      case k2 => exact rfl
      case k3 => decide
      with_reducible refine WL.nil ?_
      obtain ⟨m, hm⟩ : ∃ m : Nat, figs n - g = m := ⟨_, rfl⟩
      have hm2 : (figs n : Int) - g = m := by omega
      rw [if_pos (by omega), hm] at hp
      rw [hm2]
      refine t_near (by omega) (by omega) (by omega) ?_
      with_reducible refine' WL.cons ?_ ?k1
      case k1 => exact rfl
      with_reducible refine WE.bin ?_
      with_reducible refine' WE.name ?k1 ?k2 ?_ ?k3
      case k1 => exact rfl
      case k2 => exact rfl
      case k3 => decide
      with_reducible refine' WE.name ?k1 ?k2 ?_ ?k3
      case k1 => exact rfl
      case k2 => exact rfl
      case k3 => decide
      with_reducible refine ⟨_, BinOk.add, ?_⟩
      with_reducible refine WL.nil ?_
      with_reducible refine ⟨?k1, ?_⟩
      case k1 => exact Nat.le_of_ble_eq_true rfl
      with_reducible refine ⟨_, _, rfl, ?_⟩
      with_reducible refine WS.nil ?_
      subst hp
      exact ⟨rfl, by ((repeat (refine Weak.cons rfl ?_)); exact Weak.nil)⟩
    · with_reducible refine WS.nil ?_
      rw [if_neg (by omega)] at hp
      subst hp
      exact ⟨rfl, by ((repeat (refine Weak.cons rfl ?_)); exact Weak.nil)⟩
  rintro l s ⟨hs, hl⟩
  subst s
  refine WS.less ?_ hl
  with_reducible refine WS.cons ?_
  have hmk : mk c e g = if p.1 = 0 then tw 0 0 else tw (if c < 0 then -((strip p.1 p.2).1 : Int) else (strip p.1 p.2).1) (strip p.1 p.2).2 := by
    subst hp
    unfold mk
    rw [hn]
  rw [hmk] at q
  clear hmk hp
  obtain ⟨m, e₁⟩ := p
  dsimp only at *
  refine WX.while (fun k l s => ∃ (z : Nat) (x : Int), s = σ ∧ l = ([("size", .int z), ("power", .int x), ("digits", .int g), ("number", .int c)] : Loc) ∧ (z = 0 → m = 0) ∧ strip z x = strip m e₁ ∧ k = z) m .refl ⟨m, e₁, rfl, rfl, id, rfl, rfl⟩ ?_
  rintro k l' s ⟨z, x, hs0, hl0, z0, hs, hk⟩
  subst s l' k
  with_reducible refine WT.and2 ?_
  with_reducible refine' WT.cmp1 ?_ ?k1
  case k1 => exact rfl
  with_reducible refine' WE.name ?k1 ?k2 ?_ ?k3
  case k1 => exact rfl
  case k2 => exact rfl
  case k3 => decide
  with_reducible refine WE.int ?_
  with_reducible refine ⟨_, CmpOk.gtI, ?_⟩
  refine ite_dec (fun h => ?_) (fun h => ?_)
  · with_reducible refine' WT.cmp1 ?_ ?k1
    case k1 => exact rfl
    with_reducible refine WE.bin ?_
    with_reducible refine' WE.name ?k1 ?k2 ?_ ?k3
    case k1 => exact rfl
    case k2 => exact rfl
    case k3 => decide
    with_reducible refine WE.int ?_
    refine ⟨_, BinOk.modN (b := 10) (by decide), ?_⟩
    with_reducible refine WE.int ?_
    with_reducible refine ⟨_, CmpOk.eqI, ?_⟩
    refine ite_beq (fun h2 => ?_) (fun h2 => ?_)
    · with_reducible refine WS.cons ?_
      with_reducible refine' WX.swap2 ?k1 ?k2 ?k4 ?_ ?k3
      case k1 => exact rfl
      case k2 => exact rfl
      case k4 => exact rfl
      case k3 => exact rfl
      with_reducible refine WE.tup ?_
      with_reducible refine' WL.cons ?_ ?k1
      case k1 => exact rfl
      with_reducible refine WE.bin ?_
      with_reducible refine' WE.name ?k1 ?k2 ?_ ?k3
      case k1 => exact rfl
      case k2 => exact rfl
      case k3 => decide
      with_reducible refine WE.int ?_
      refine ⟨_, BinOk.divN (b := 10) (by decide) (pow10_lt (p := 1) (by decide)), ?_⟩
      with_reducible refine' WL.cons ?_ ?k1
      case k1 => exact rfl
      with_reducible refine WE.bin ?_
      with_reducible refine' WE.name ?k1 ?k2 ?_ ?k3
      case k1 => exact rfl
      case k2 => exact rfl
      case k3 => decide
      with_reducible refine WE.int ?_
      with_reducible refine ⟨_, BinOk.add, ?_⟩
      with_reducible refine WL.nil ?_
      with_reducible refine ⟨?k1, ?_⟩
      case k1 => exact Nat.le_of_ble_eq_true rfl
      with_reducible refine ⟨_, _, rfl, ?_⟩
      with_reducible refine WS.nil ?_
      refine ⟨z / 10, _, _, by omega, ?_, Le.refl, z / 10, x + 1, rfl, rfl, by omega, ?_, rfl⟩
      · refine Weak.cons rfl ?_
        refine Weak.cons rfl ?_
        refine Weak.cons rfl ?_
        refine Weak.cons rfl ?_
        exact Weak.nil
      · rw [← strip_go ⟨by omega, by omega⟩, hs]
    · with_reducible refine WS.cons ?_
      with_reducible refine WX.ret ?_
      with_reducible refine WE.ifexp ?_
      with_reducible refine' WT.cmp1 ?_ ?k1
      case k1 => exact rfl
      with_reducible refine' WE.name ?k1 ?k2 ?_ ?k3
      case k1 => exact rfl
      case k2 => exact rfl
      case k3 => decide
      with_reducible refine WE.int ?_
      with_reducible refine ⟨_, CmpOk.eqI, ?_⟩
      rw [← hs, strip_no (by omega), if_neg (fun z => by subst z; rw [strip_no (by omega)] at hs; have := congrArg Prod.fst hs; rw [strip_no (by omega)] at this; omega)] at q
      refine ite_beq (fun h3 => by omega) (fun h3 => ?_)
      with_reducible refine WE.tup ?_
      with_reducible refine' WL.cons ?_ ?k1
      case k1 => exact rfl
      with_reducible refine WE.ifexp ?_
      with_reducible refine' WT.cmp1 ?_ ?k1
      case k1 => exact rfl
      with_reducible refine' WE.name ?k1 ?k2 ?_ ?k3
      case k1 => exact rfl
      case k2 => exact rfl
      case k3 => decide
      with_reducible refine WE.int ?_
      with_reducible refine ⟨_, CmpOk.ltI, ?_⟩
      refine ite_dec (fun h => ?_) (fun h => ?_)
      · with_reducible refine WE.bin ?_
        with_reducible refine WE.int ?_
        with_reducible refine' WE.name ?k1 ?k2 ?_ ?k3
        case k1 => exact rfl
        case k2 => exact rfl
        case k3 => decide
        with_reducible refine ⟨_, BinOk.sub, ?_⟩
        with_reducible refine' WL.cons ?_ ?k1
        case k1 => exact rfl
        with_reducible refine' WE.name ?k1 ?k2 ?_ ?k3
        case k1 => exact rfl
        case k2 => exact rfl
        case k3 => decide
        with_reducible refine WL.nil ?_
        with_reducible refine ⟨?k1, ?_⟩
        case k1 => exact Nat.le_of_ble_eq_true rfl
        rw [if_pos h] at q
        rw [Int.zero_sub]
        exact q
      · with_reducible refine' WE.name ?k1 ?k2 ?_ ?k3
        case k1 => exact rfl
        case k2 => exact rfl
        case k3 => decide
        with_reducible refine' WL.cons ?_ ?k1
        case k1 => exact rfl
        with_reducible refine' WE.name ?k1 ?k2 ?_ ?k3
        case k1 => exact rfl
        case k2 => exact rfl
        case k3 => decide
        with_reducible refine WL.nil ?_
        with_reducible refine ⟨?k1, ?_⟩
        case k1 => exact Nat.le_of_ble_eq_true rfl
        rw [if_neg h] at q
        exact q
  · with_reducible refine (if_neg Bool.false_ne_true).mpr ?_
    with_reducible refine WS.cons ?_
    with_reducible refine WX.ret ?_
    with_reducible refine WE.ifexp ?_
    with_reducible refine' WT.cmp1 ?_ ?k1
    case k1 => exact rfl
    with_reducible refine' WE.name ?k1 ?k2 ?_ ?k3
    case k1 => exact rfl
    case k2 => exact rfl
    case k3 => decide
    with_reducible refine WE.int ?_
    with_reducible refine ⟨_, CmpOk.eqI, ?_⟩
    rw [if_pos (z0 (by omega))] at q
    refine ite_beq (fun h2 => ?_) (fun h2 => by omega)
    with_reducible refine WE.tup ?_
    with_reducible refine' WL.cons ?_ ?k1
    case k1 => exact rfl
    with_reducible refine WE.int ?_
    with_reducible refine' WL.cons ?_ ?k1
    case k1 => exact rfl
    with_reducible refine WE.int ?_
    with_reducible refine WL.nil ?_
    with_reducible refine ⟨?k1, ?_⟩
    case k1 => exact Nat.le_of_ble_eq_true rfl
    exact q
end
section
variable {w : World} {σ : St} {Q : V → St → Prop} {X : Str → St → Prop} {d : Nat}
theorem t_wnear {c e : Int} (hc : c.natAbs < 10 ^ 7) (he : e.natAbs ≤ 10) (hd : 3 ≤ d) (q : Q (.int (wn c e)) σ) : CT w d (.ref 79) [tw c e] σ Q X := by
  refine' CT.more (CT.defn (d := ?d0) (names := ?n0) ?k1 ?k2 ?k3 ?k4 ?k5 ?_ ?c1 ?c2 ?c3) ?hd
  case k1 => k_is
  case k2 => k_is
  case c1 => exact rfl
  case c2 => exact rfl
  case c3 => exact rfl
  case n0 => exact ["value"]
  case k3 => intro s rvs hl; obtain ⟨a, rfl⟩ := len1 hl; exact BindsTo.of_eq rfl
  case d0 => exact 2
  case k4 => exact rfl
  case k5 => decide
  case hd => first | assumption | omega
  intro L'
  show WS _ _ _ _ [("value", .tup [.int c, .int e])] _ _ _ _
  with_reducible refine WS.cons ?_
  with_reducible refine' WX.assign ?_ ?k1 ?k2 ?k3
  case k1 => exact rfl
  case k2 => exact rfl
  case k3 => exact rfl
  with_reducible refine' WE.name ?k1 ?k2 ?_ ?k3
  case k1 => exact rfl
  case k2 => exact rfl
  case k3 => decide
  with_reducible refine' WA.tup ?k1 ?k2 ?_
  case k1 => exact rfl
  case k2 => exact rfl
  with_reducible refine' WAs.cons ?_ ?k1
  case k1 => exact rfl
  with_reducible refine' WA.name ?k1 ?_
  case k1 => exact rfl
  with_reducible refine' WAs.cons ?_ ?k1
  case k1 => exact rfl
  with_reducible refine' WA.name ?k1 ?_
  case k1 => exact rfl
  with_reducible refine WAs.nil ?_
  with_reducible refine WS.cons ?_
  with_reducible refine WX.if ?_
  with_reducible refine' WT.cmp1 ?_ ?k1
  case k1 => exact rfl
  with_reducible refine' WE.name ?k1 ?k2 ?_ ?k3
  case k1 => exact rfl
  case k2 => exact rfl
  case k3 => decide
  with_reducible refine WE.int ?_
  with_reducible refine ⟨_, CmpOk.geI, ?_⟩
  refine ite_dec (fun h => ?_) (fun h => ?_)
  · obtain ⟨k, rfl⟩ : ∃ k : Nat, e = k := ⟨e.toNat, by omega⟩
    with_reducible refine WS.cons ?_
    with_reducible refine WX.ret ?_
    with_reducible refine WE.bin ?_
    with_reducible refine' WE.name ?k1 ?k2 ?_ ?k3
    case k1 => exact rfl
    case k2 => exact rfl
    case k3 => decide
    with_reducible refine WE.bin ?_
    with_reducible refine WE.int ?_
    with_reducible refine' WE.name ?k1 ?k2 ?_ ?k3
    case k1 => exact rfl
    case k2 => exact rfl
    case k3 => decide
    refine ⟨_, BinOk.pow10 (by omega), ?_⟩
    skip
    refine ⟨_, BinOk.mul (by omega) (by omega), ?_⟩
    have e : c * ((10 ^ k : Nat) : Int) = wn c k := by
      unfold wn
      rw [if_pos (Int.natCast_nonneg k), Int.toNat_natCast]
      push_cast
      by_cases z : c < 0
      · have z2 : (c.natAbs : Int) = -c := by omega
        rw [if_pos z, z2, Int.neg_mul, Int.neg_neg]
      · have z2 : (c.natAbs : Int) = c := by omega
        rw [if_neg z, z2]
    rw [e]
    exact q
  · with_reducible refine WS.nil ?_
    with_reducible refine WS.cons ?_
    with_reducible refine' WX.assign ?_ ?k1 ?k2 ?k3
    case k1 => exact rfl
    case k2 => exact rfl
    case k3 => exact rfl
    with_reducible refine' WE.callK ?k1 ?k2 ?k3 ?_ ?k4 ?k5 ?k6 ?k7
    case k1 => exact rfl
    case k2 => k_is
    case k3 => k_is
    case k4 => decide
    case k5 => exact rfl
    case k6 => exact rfl
    case k7 => intro _ _; exact rfl
    with_reducible refine' WL.cons ?_ ?k1
    case k1 => exact rfl
    with_reducible refine' WE.callB ?k1 ?k2 ?k3 ?k8 ?k9 ?_ ?k4 ?k5 ?k6 ?k7
    case k1 => exact rfl
    case k2 => k_is
    case k3 => boot_fast
    case k8 => decide
    case k9 => exact rfl
    case k4 => decide
    case k5 => exact rfl
    case k6 => exact rfl
    case k7 => intro _ _; exact rfl
    with_reducible refine' WL.cons ?_ ?k1
    case k1 => exact rfl
    with_reducible refine' WE.name ?k1 ?k2 ?_ ?k3
    case k1 => exact rfl
    case k2 => exact rfl
    case k3 => decide
    with_reducible refine WL.nil ?_
    with_reducible refine CT.absN ?_
    with_reducible refine' WL.cons ?_ ?k1
    case k1 => exact rfl
    with_reducible refine WE.neg ?_
    with_reducible refine' WE.name ?k1 ?k2 ?_ ?k3
    case k1 => exact rfl
    case k2 => exact rfl
    case k3 => decide
    with_reducible refine ⟨_, rfl, ?_⟩
    with_reducible refine WL.nil ?_
    obtain ⟨k, hk⟩ : ∃ k : Nat, -e = k := ⟨(-e).toNat, by omega⟩
    rw [hk]
    refine t_rounded (by omega) (by omega) (by omega) (by omega) ?_
    with_reducible refine' WA.name ?k1 ?_
    case k1 => exact rfl
    with_reducible refine WS.cons ?_
    with_reducible refine WX.ret ?_
    with_reducible refine WE.ifexp ?_
    with_reducible refine' WT.cmp1 ?_ ?k1
    case k1 => exact rfl
    with_reducible refine' WE.name ?k1 ?k2 ?_ ?k3
    case k1 => exact rfl
    case k2 => exact rfl
    case k3 => decide
    with_reducible refine WE.int ?_
    with_reducible refine ⟨_, CmpOk.ltI, ?_⟩
    have hw : wn c e = if c < 0 then -((near c.natAbs k : Nat) : Int) else ((near c.natAbs k : Nat) : Int) := by
      simp only [wn, show ¬ (0 ≤ e) by omega, if_false, hk, Int.toNat_natCast]
    rw [hw] at q
    refine ite_dec (fun h => ?_) (fun h => ?_)
    · with_reducible refine WE.neg ?_
      with_reducible refine' WE.name ?k1 ?k2 ?_ ?k3
      case k1 => exact rfl
      case k2 => exact rfl
      case k3 => decide
      with_reducible refine ⟨_, rfl, ?_⟩
      rw [if_pos h] at q
      exact q
    · with_reducible refine' WE.name ?k1 ?k2 ?_ ?k3
      case k1 => exact rfl
      case k2 => exact rfl
      case k3 => decide
      rw [if_neg h] at q
      exact q
theorem t_fits {i : Int} {b : Nat} (hb : 1 ≤ b) (hb2 : b ≤ 64) (hd : 1 ≤ d) (q : Q (.bool (decide (-(2 ^ (b - 1)) ≤ i ∧ i < 2 ^ (b - 1)))) σ) : CT w d (.ref 86) [.int i, .int b] σ Q X := by
  refine' CT.more (CT.defn (d := ?d0) (names := ?n0) ?k1 ?k2 ?k3 ?k4 ?k5 ?_ ?c1 ?c2 ?c3) ?hd
  case k1 => k_is
  case k2 => k_is
  case c1 => exact rfl
  case c2 => exact rfl
  case c3 => exact rfl
  case n0 => exact ["number", "bits"]
  case k3 => intro s rvs hl; obtain ⟨a, b, rfl⟩ := len2 hl; exact BindsTo.of_eq rfl
  case d0 => exact 0
  case k4 => exact rfl
  case k5 => decide
  case hd => first | assumption | omega
  intro L'
  show WS _ _ _ _ [("bits", .int b), ("number", .int i)] _ _ _ _
  with_reducible refine WS.cons ?_
  with_reducible refine WX.ret ?_
  with_reducible refine' WE.cmp2 ?_ ?k1
  case k1 => exact rfl
  with_reducible refine WE.neg ?_
  with_reducible refine WE.bin ?_
  with_reducible refine WE.int ?_
  with_reducible refine WE.bin ?_
  with_reducible refine' WE.name ?k1 ?k2 ?_ ?k3
  case k1 => exact rfl
  case k2 => exact rfl
  case k3 => decide
  with_reducible refine WE.int ?_
  with_reducible refine ⟨_, BinOk.sub, ?_⟩
  have hk : (b : Int) - 1 = ((b - 1 : Nat) : Int) := by omega
  rw [hk]
  generalize b - 1 = k at *
  refine ⟨_, BinOk.shl (by omega) (by omega) (by decide), ?_⟩
  rw [Int.one_mul, Int.toNat_natCast]
  with_reducible refine ⟨_, rfl, ?_⟩
  with_reducible refine' WE.name ?k1 ?k2 ?_ ?k3
  case k1 => exact rfl
  case k2 => exact rfl
  case k3 => decide
  with_reducible refine ⟨_, CmpOk.leI, ?_⟩
  refine ite_dec (fun h => ?_) (fun h => ?_)
  · with_reducible refine WE.bin ?_
    with_reducible refine WE.int ?_
    with_reducible refine WE.bin ?_
    with_reducible refine' WE.name ?k1 ?k2 ?_ ?k3
    case k1 => exact rfl
    case k2 => exact rfl
    case k3 => decide
    with_reducible refine WE.int ?_
    with_reducible refine ⟨_, BinOk.sub, ?_⟩
    rw [hk]
    refine ⟨_, BinOk.shl (by omega) (by omega) (by decide), ?_⟩
    rw [Int.one_mul, Int.toNat_natCast]
    refine ⟨_, CmpOk.ltI, ?_⟩
    have e : decide (-(2 ^ k : Int) ≤ i ∧ i < 2 ^ k) = decide (i < 2 ^ k) := by simp [h]
    rw [← e]
    exact q
  · rw [decide_eq_false (fun z => h z.1)] at q
    exact q
/-- the values that the law draws -/
inductive Dm : V → Prop
  | int {i : Int} : i.natAbs < 10 ^ 7 → Dm (.int i)
  | str {x : Str} : x.length ≤ 256 → Txt.slice x none (some 6) ≠ "error " → Dm (.str x)
  | pair {c e : Int} : c.natAbs < 10 ^ 7 → e.natAbs ≤ 10 → Dm (tw c e)
theorem Dm.plain {v : V} (h : Dm v) : Plain v := by
  cases h with
  | int => exact ⟨_, .int _⟩
  | str => exact ⟨_, .str _⟩
  | pair => exact ⟨_, .pair _ _⟩
theorem Dm.notNone {v : V} (h : Dm v) : v ≠ .none := by cases h <;> intro z <;> cases z
theorem kp_whole {c e : Int} {b g : Nat} : kpN c e "whole" b g = if -(2 ^ (b - 1) : Int) ≤ wn c e ∧ wn c e < 2 ^ (b - 1) then .ok (.int (wn c e)) else .err "OV" := by
  unfold kpN
  rw [if_neg (by decide), if_neg (by decide)]
theorem kp_dec {c e : Int} {b g : Nat} : kpN c e "decimal" b g = .ok (mk c e g) := by
  unfold kpN
  rw [if_neg (by decide), if_pos rfl]
theorem wn0 (i : Int) : wn i 0 = i := by
  simp only [wn, Int.le_refl, if_true, Int.toNat_zero, Int.pow_zero, Int.mul_one]
  split <;> omega
theorem kp_tm {x k : Str} {b g : Nat} (h : k ≠ "text") : kp (.str x) k b g = .err "TM" := by
  unfold kp
  exact if_neg h
theorem t_whole {v : V} {b g : Nat} (h : Dm v) (hb : 1 ≤ b) (hb2 : b ≤ 64) (hd : 4 ≤ d) (q : ∀ r, kp v "whole" b g = .ok r → Q r σ) (qx : ∀ c, kp v "whole" b g = .err c → X c σ) : CT w d (.ref 93) [v, .int b] σ Q X := by
  refine' CT.more (CT.defn (d := ?d0) (names := ?n0) ?k1 ?k2 ?k3 ?k4 ?k5 ?_ ?c1 ?c2 ?c3) ?hd
  case k1 => k_is
  case k2 => k_is
  case c1 => exact rfl
  case c2 => exact rfl
  case c3 => exact rfl
  case n0 => exact ["value", "bits"]
  case k3 => intro s rvs hl; obtain ⟨a, b, rfl⟩ := len2 hl; exact BindsTo.of_eq rfl
  case d0 => exact 3
  case k4 => exact rfl
  case k5 => decide
  case hd => first | assumption | omega
  intro L'
  show WS _ _ _ _ [("bits", .int b), ("value", v)] _ _ _ _
  with_reducible refine WS.cons ?_
  with_reducible refine WX.if ?_
  with_reducible refine' WT.plain ?_ ?k1
  case k1 => intro _; exact rfl
  with_reducible refine' WE.callB ?k1 ?k2 ?k3 ?k8 ?k9 ?_ ?k4 ?k5 ?k6 ?k7
  case k1 => exact rfl
  case k2 => k_is
  case k3 => boot_fast
  case k8 => decide
  case k9 => exact rfl
  case k4 => decide
  case k5 => exact rfl
  case k6 => exact rfl
  case k7 => intro _ _; exact rfl
  with_reducible refine' WL.cons ?_ ?k1
  case k1 => exact rfl
  with_reducible refine' WE.name ?k1 ?k2 ?_ ?k3
  case k1 => exact rfl
  case k2 => exact rfl
  case k3 => decide
  with_reducible refine' WL.cons ?_ ?k1
  case k1 => exact rfl
  with_reducible refine' WE.tyName ?k1 ?k2 ?k4 ?k5 ?_ ?k3
  case k1 => exact rfl
  case k2 => k_is
  case k4 => boot_fast
  case k5 => decide
  case k3 => decide
  with_reducible refine WL.nil ?_
  refine CT.isStr h.plain h.notNone ?_
  with_reducible refine ⟨_, rfl, ?_⟩
  have pl := h.plain
  have nn := h.notNone
  cases h with
  | @int i h =>
    refine (if_neg Bool.false_ne_true).mpr ?_
    with_reducible refine WS.nil ?_
    with_reducible refine WS.cons ?_
    with_reducible refine' WX.assign ?_ ?k1 ?k2 ?k3
    case k1 => exact rfl
    case k2 => exact rfl
    case k3 => exact rfl
    with_reducible refine WE.ifexp ?_
    with_reducible refine' WT.plain ?_ ?k1
    case k1 => intro _; exact rfl
    with_reducible refine' WE.callB ?k1 ?k2 ?k3 ?k8 ?k9 ?_ ?k4 ?k5 ?k6 ?k7
    case k1 => exact rfl
    case k2 => k_is
    case k3 => boot_fast
    case k8 => decide
    case k9 => exact rfl
    case k4 => decide
    case k5 => exact rfl
    case k6 => exact rfl
    case k7 => intro _ _; exact rfl
    with_reducible refine' WL.cons ?_ ?k1
    case k1 => exact rfl
    with_reducible refine' WE.name ?k1 ?k2 ?_ ?k3
    case k1 => exact rfl
    case k2 => exact rfl
    case k3 => decide
    with_reducible refine' WL.cons ?_ ?k1
    case k1 => exact rfl
    with_reducible refine' WE.tyName ?k1 ?k2 ?k4 ?k5 ?_ ?k3
    case k1 => exact rfl
    case k2 => k_is
    case k4 => boot_fast
    case k5 => decide
    case k3 => decide
    with_reducible refine WL.nil ?_
    refine CT.isTup pl nn ?_
    with_reducible refine ⟨_, rfl, ?_⟩
    refine (if_neg Bool.false_ne_true).mpr ?_
    with_reducible refine' WE.name ?k1 ?k2 ?_ ?k3
    case k1 => exact rfl
    case k2 => exact rfl
    case k3 => decide
    with_reducible refine' WA.name ?k1 ?_
    case k1 => exact rfl
    with_reducible refine WS.cons ?_
    with_reducible refine WX.if ?_
    with_reducible refine WT.not ?_
    with_reducible refine' WT.plain ?_ ?k1
    case k1 => intro _; exact rfl
    with_reducible refine' WE.callK ?k1 ?k2 ?k3 ?_ ?k4 ?k5 ?k6 ?k7
    case k1 => exact rfl
    case k2 => k_is
    case k3 => k_is
    case k4 => decide
    case k5 => exact rfl
    case k6 => exact rfl
    case k7 => intro _ _; exact rfl
    with_reducible refine' WL.cons ?_ ?k1
    case k1 => exact rfl
    with_reducible refine' WE.name ?k1 ?k2 ?_ ?k3
    case k1 => exact rfl
    case k2 => exact rfl
    case k3 => decide
    with_reducible refine' WL.cons ?_ ?k1
    case k1 => exact rfl
    with_reducible refine' WE.name ?k1 ?k2 ?_ ?k3
    case k1 => exact rfl
    case k2 => exact rfl
    case k3 => decide
    with_reducible refine WL.nil ?_
    refine t_fits hb hb2 (by omega) ?_
    with_reducible refine ⟨_, rfl, ?_⟩
    replace q : ∀ r, kpN i 0 "whole" b g = .ok r → Q r σ := q
    replace qx : ∀ r, kpN i 0 "whole" b g = .err r → X r σ := qx
    rw [kp_whole, wn0] at q qx
    refine ite_decN (fun h => ?_) (fun h => ?_)
    · with_reducible refine WS.cons ?_
      with_reducible refine' WX.raise1 ?k1 ?k2 ?_
      case k1 => exact rfl
      case k2 => k_is
      exact qx _ (if_neg h)
    · with_reducible refine WS.nil ?_
      with_reducible refine WS.cons ?_
      with_reducible refine WX.ret ?_
      with_reducible refine' WE.name ?k1 ?k2 ?_ ?k3
      case k1 => exact rfl
      case k2 => exact rfl
      case k3 => decide
      exact q _ (if_pos h)
  | @str x h _ =>
    refine (if_pos (rfl : true = true)).mpr ?_
    with_reducible refine WS.cons ?_
    with_reducible refine' WX.raise1 ?k1 ?k2 ?_
    case k1 => exact rfl
    case k2 => k_is
    exact qx _ (kp_tm (by decide))
  | @pair c e hc he =>
    refine (if_neg Bool.false_ne_true).mpr ?_
    with_reducible refine WS.nil ?_
    with_reducible refine WS.cons ?_
    with_reducible refine' WX.assign ?_ ?k1 ?k2 ?k3
    case k1 => exact rfl
    case k2 => exact rfl
    case k3 => exact rfl
    with_reducible refine WE.ifexp ?_
    with_reducible refine' WT.plain ?_ ?k1
    case k1 => intro _; exact rfl
    with_reducible refine' WE.callB ?k1 ?k2 ?k3 ?k8 ?k9 ?_ ?k4 ?k5 ?k6 ?k7
    case k1 => exact rfl
    case k2 => k_is
    case k3 => boot_fast
    case k8 => decide
    case k9 => exact rfl
    case k4 => decide
    case k5 => exact rfl
    case k6 => exact rfl
    case k7 => intro _ _; exact rfl
    with_reducible refine' WL.cons ?_ ?k1
    case k1 => exact rfl
    with_reducible refine' WE.name ?k1 ?k2 ?_ ?k3
    case k1 => exact rfl
    case k2 => exact rfl
    case k3 => decide
    with_reducible refine' WL.cons ?_ ?k1
    case k1 => exact rfl
    with_reducible refine' WE.tyName ?k1 ?k2 ?k4 ?k5 ?_ ?k3
    case k1 => exact rfl
    case k2 => k_is
    case k4 => boot_fast
    case k5 => decide
    case k3 => decide
    with_reducible refine WL.nil ?_
    refine CT.isTup pl nn ?_
    with_reducible refine ⟨_, rfl, ?_⟩
    refine (if_pos (rfl : true = true)).mpr ?_
    with_reducible refine' WE.callK ?k1 ?k2 ?k3 ?_ ?k4 ?k5 ?k6 ?k7
    case k1 => exact rfl
    case k2 => k_is
    case k3 => k_is
    case k4 => decide
    case k5 => exact rfl
    case k6 => exact rfl
    case k7 => intro _ _; exact rfl
    with_reducible refine' WL.cons ?_ ?k1
    case k1 => exact rfl
    with_reducible refine' WE.name ?k1 ?k2 ?_ ?k3
    case k1 => exact rfl
    case k2 => exact rfl
    case k3 => decide
    with_reducible refine WL.nil ?_
    refine t_wnear hc he (by omega) ?_
    with_reducible refine' WA.name ?k1 ?_
    case k1 => exact rfl
    with_reducible refine WS.cons ?_
    with_reducible refine WX.if ?_
    with_reducible refine WT.not ?_
    with_reducible refine' WT.plain ?_ ?k1
    case k1 => intro _; exact rfl
    with_reducible refine' WE.callK ?k1 ?k2 ?k3 ?_ ?k4 ?k5 ?k6 ?k7
    case k1 => exact rfl
    case k2 => k_is
    case k3 => k_is
    case k4 => decide
    case k5 => exact rfl
    case k6 => exact rfl
    case k7 => intro _ _; exact rfl
    with_reducible refine' WL.cons ?_ ?k1
    case k1 => exact rfl
    with_reducible refine' WE.name ?k1 ?k2 ?_ ?k3
    case k1 => exact rfl
    case k2 => exact rfl
    case k3 => decide
    with_reducible refine' WL.cons ?_ ?k1
    case k1 => exact rfl
    with_reducible refine' WE.name ?k1 ?k2 ?_ ?k3
    case k1 => exact rfl
    case k2 => exact rfl
    case k3 => decide
    with_reducible refine WL.nil ?_
    refine t_fits hb hb2 (by omega) ?_
    with_reducible refine ⟨_, rfl, ?_⟩
    replace q : ∀ r, kpN c e "whole" b g = .ok r → Q r σ := q
    replace qx : ∀ r, kpN c e "whole" b g = .err r → X r σ := qx
    rw [kp_whole] at q qx
    refine ite_decN (fun h => ?_) (fun h => ?_)
    · with_reducible refine WS.cons ?_
      with_reducible refine' WX.raise1 ?k1 ?k2 ?_
      case k1 => exact rfl
      case k2 => k_is
      exact qx _ (if_neg h)
    · with_reducible refine WS.nil ?_
      with_reducible refine WS.cons ?_
      with_reducible refine WX.ret ?_
      with_reducible refine' WE.name ?k1 ?k2 ?_ ?k3
      case k1 => exact rfl
      case k2 => exact rfl
      case k3 => decide
      exact q _ (if_pos h)
theorem t_decimal {v : V} {b g : Nat} (h : Dm v) (hg : 3 ≤ g) (hg2 : g ≤ 10) (hd : 4 ≤ d) (q : ∀ r, kp v "decimal" b g = .ok r → Q r σ) (qx : ∀ c, kp v "decimal" b g = .err c → X c σ) : CT w d (.ref 100) [v, .int g] σ Q X := by
  refine' CT.more (CT.defn (d := ?d0) (names := ?n0) ?k1 ?k2 ?k3 ?k4 ?k5 ?_ ?c1 ?c2 ?c3) ?hd
  case k1 => k_is
  case k2 => k_is
  case c1 => exact rfl
  case c2 => exact rfl
  case c3 => exact rfl
  case n0 => exact ["value", "digits"]
  case k3 => intro s rvs hl; obtain ⟨a, b, rfl⟩ := len2 hl; exact BindsTo.of_eq rfl
  case d0 => exact 3
  case k4 => exact rfl
  case k5 => decide
  case hd => first | assumption | omega
  intro L'
  show WS _ _ _ _ [("digits", .int g), ("value", v)] _ _ _ _
  with_reducible refine WS.cons ?_
  with_reducible refine WX.if ?_
  with_reducible refine' WT.plain ?_ ?k1
  case k1 => intro _; exact rfl
  with_reducible refine' WE.callB ?k1 ?k2 ?k3 ?k8 ?k9 ?_ ?k4 ?k5 ?k6 ?k7
  case k1 => exact rfl
  case k2 => k_is
  case k3 => boot_fast
  case k8 => decide
  case k9 => exact rfl
  case k4 => decide
  case k5 => exact rfl
  case k6 => exact rfl
  case k7 => intro _ _; exact rfl
  with_reducible refine' WL.cons ?_ ?k1
  case k1 => exact rfl
  with_reducible refine' WE.name ?k1 ?k2 ?_ ?k3
  case k1 => exact rfl
  case k2 => exact rfl
  case k3 => decide
  with_reducible refine' WL.cons ?_ ?k1
  case k1 => exact rfl
  with_reducible refine' WE.tyName ?k1 ?k2 ?k4 ?k5 ?_ ?k3
  case k1 => exact rfl
  case k2 => k_is
  case k4 => boot_fast
  case k5 => decide
  case k3 => decide
  with_reducible refine WL.nil ?_
  refine CT.isStr h.plain h.notNone ?_
  with_reducible refine ⟨_, rfl, ?_⟩
  have pl := h.plain
  have nn := h.notNone
  cases h with
  | @int i h =>
    refine (if_neg Bool.false_ne_true).mpr ?_
    with_reducible refine WS.nil ?_
    with_reducible refine WS.cons ?_
    with_reducible refine WX.ret ?_
    with_reducible refine WE.ifexp ?_
    with_reducible refine' WT.plain ?_ ?k1
    case k1 => intro _; exact rfl
    with_reducible refine' WE.callB ?k1 ?k2 ?k3 ?k8 ?k9 ?_ ?k4 ?k5 ?k6 ?k7
    case k1 => exact rfl
    case k2 => k_is
    case k3 => boot_fast
    case k8 => decide
    case k9 => exact rfl
    case k4 => decide
    case k5 => exact rfl
    case k6 => exact rfl
    case k7 => intro _ _; exact rfl
    with_reducible refine' WL.cons ?_ ?k1
    case k1 => exact rfl
    with_reducible refine' WE.name ?k1 ?k2 ?_ ?k3
    case k1 => exact rfl
    case k2 => exact rfl
    case k3 => decide
    with_reducible refine' WL.cons ?_ ?k1
    case k1 => exact rfl
    with_reducible refine' WE.tyName ?k1 ?k2 ?k4 ?k5 ?_ ?k3
    case k1 => exact rfl
    case k2 => k_is
    case k4 => boot_fast
    case k5 => decide
    case k3 => decide
    with_reducible refine WL.nil ?_
    refine CT.isTup pl nn ?_
    with_reducible refine ⟨_, rfl, ?_⟩
    refine (if_neg Bool.false_ne_true).mpr ?_
    with_reducible refine' WE.callK ?k1 ?k2 ?k3 ?_ ?k4 ?k5 ?k6 ?k7
    case k1 => exact rfl
    case k2 => k_is
    case k3 => k_is
    case k4 => decide
    case k5 => exact rfl
    case k6 => exact rfl
    case k7 => intro _ _; exact rfl
    with_reducible refine' WL.cons ?_ ?k1
    case k1 => exact rfl
    with_reducible refine' WE.name ?k1 ?k2 ?_ ?k3
    case k1 => exact rfl
    case k2 => exact rfl
    case k3 => decide
    with_reducible refine' WL.cons ?_ ?k1
    case k1 => exact rfl
    with_reducible refine WE.int ?_
    with_reducible refine' WL.cons ?_ ?k1
    case k1 => exact rfl
    with_reducible refine' WE.name ?k1 ?k2 ?_ ?k3
    case k1 => exact rfl
    case k2 => exact rfl
    case k3 => decide
    with_reducible refine WL.nil ?_
    refine t_made h (by decide) hg hg2 (by omega) ?_
    exact q _ (kp_dec (c := i) (e := 0))
  | @str x h _ =>
    refine (if_pos (rfl : true = true)).mpr ?_
    with_reducible refine WS.cons ?_
    with_reducible refine' WX.raise1 ?k1 ?k2 ?_
    case k1 => exact rfl
    case k2 => k_is
    exact qx _ (kp_tm (by decide))
  | @pair c e hc he =>
    refine (if_neg Bool.false_ne_true).mpr ?_
    with_reducible refine WS.nil ?_
    with_reducible refine WS.cons ?_
    with_reducible refine WX.ret ?_
    with_reducible refine WE.ifexp ?_
    with_reducible refine' WT.plain ?_ ?k1
    case k1 => intro _; exact rfl
    with_reducible refine' WE.callB ?k1 ?k2 ?k3 ?k8 ?k9 ?_ ?k4 ?k5 ?k6 ?k7
    case k1 => exact rfl
    case k2 => k_is
    case k3 => boot_fast
    case k8 => decide
    case k9 => exact rfl
    case k4 => decide
    case k5 => exact rfl
    case k6 => exact rfl
    case k7 => intro _ _; exact rfl
    with_reducible refine' WL.cons ?_ ?k1
    case k1 => exact rfl
    with_reducible refine' WE.name ?k1 ?k2 ?_ ?k3
    case k1 => exact rfl
    case k2 => exact rfl
    case k3 => decide
    with_reducible refine' WL.cons ?_ ?k1
    case k1 => exact rfl
    with_reducible refine' WE.tyName ?k1 ?k2 ?k4 ?k5 ?_ ?k3
    case k1 => exact rfl
    case k2 => k_is
    case k4 => boot_fast
    case k5 => decide
    case k3 => decide
    with_reducible refine WL.nil ?_
    refine CT.isTup pl nn ?_
    with_reducible refine ⟨_, rfl, ?_⟩
    refine (if_pos (rfl : true = true)).mpr ?_
    unfold tw
    with_reducible refine' WE.callK ?k1 ?k2 ?k3 ?_ ?k4 ?k5 ?k6 ?k7
    case k1 => exact rfl
    case k2 => k_is
    case k3 => k_is
    case k4 => decide
    case k5 => exact rfl
    case k6 => exact rfl
    case k7 => intro _ _; exact rfl
    with_reducible refine' WL.cons ?_ ?k1
    case k1 => exact rfl
    with_reducible refine' WE.sub ?_ ?k1
    case k1 => intro _ _; exact rfl
    with_reducible refine' WE.name ?k1 ?k2 ?_ ?k3
    case k1 => exact rfl
    case k2 => exact rfl
    case k3 => decide
    with_reducible refine WE.int ?_
    refine ⟨_, ItemOk.tup (by decide) (by decide) rfl, ?_⟩
    with_reducible refine' WL.cons ?_ ?k1
    case k1 => exact rfl
    with_reducible refine' WE.sub ?_ ?k1
    case k1 => intro _ _; exact rfl
    with_reducible refine' WE.name ?k1 ?k2 ?_ ?k3
    case k1 => exact rfl
    case k2 => exact rfl
    case k3 => decide
    with_reducible refine WE.int ?_
    refine ⟨_, ItemOk.tup (by decide) (by decide) rfl, ?_⟩
    with_reducible refine' WL.cons ?_ ?k1
    case k1 => exact rfl
    with_reducible refine' WE.name ?k1 ?k2 ?_ ?k3
    case k1 => exact rfl
    case k2 => exact rfl
    case k3 => decide
    with_reducible refine WL.nil ?_
    refine t_made hc he hg hg2 (by omega) ?_
    exact q _ (kp_dec (c := c) (e := e))
end
section
variable {w : World} {σ : St} {Q : V → St → Prop} {X : Str → St → Prop} {d : Nat}
theorem kpN_text {c e : Int} {b g : Nat} : kpN c e "text" b g = .err "TM" := by
  unfold kpN
  exact if_pos rfl
theorem kp_str {x : Str} {b g : Nat} : kp (.str x) "text" b g = if x.length ≤ 255 then .ok (.str x) else .err "LS" := by
  unfold kp
  exact if_pos rfl
theorem t_text_of {v : V} (hp : Plain v) (hn : v ≠ .none) (hd : 1 ≤ d) (h1 : isS v = true → Q v σ) (h2 : isS v = false → X "TM" σ) : CT w d (.ref 107) [v] σ Q X := by
  refine' CT.more (CT.defn (d := ?d0) (names := ?n0) ?k1 ?k2 ?k3 ?k4 ?k5 ?_ ?c1 ?c2 ?c3) ?hd
  case k1 => k_is
  case k2 => k_is
  case c1 => exact rfl
  case c2 => exact rfl
  case c3 => exact rfl
  case n0 => exact ["value"]
  case k3 => intro s rvs hl; obtain ⟨a, rfl⟩ := len1 hl; exact BindsTo.of_eq rfl
  case d0 => exact 0
  case k4 => exact rfl
  case k5 => decide
  case hd => first | assumption | omega
  intro L'
  show WS _ _ _ _ [("value", v)] _ _ _ _
  with_reducible refine WS.cons ?_
  with_reducible refine WX.if ?_
  with_reducible refine WT.not ?_
  with_reducible refine' WT.plain ?_ ?k1
  case k1 => intro _; exact rfl
  with_reducible refine' WE.callB ?k1 ?k2 ?k3 ?k8 ?k9 ?_ ?k4 ?k5 ?k6 ?k7
  case k1 => exact rfl
  case k2 => k_is
  case k3 => boot_fast
  case k8 => decide
  case k9 => exact rfl
  case k4 => decide
  case k5 => exact rfl
  case k6 => exact rfl
  case k7 => intro _ _; exact rfl
  with_reducible refine' WL.cons ?_ ?k1
  case k1 => exact rfl
  with_reducible refine' WE.name ?k1 ?k2 ?_ ?k3
  case k1 => exact rfl
  case k2 => exact rfl
  case k3 => decide
  with_reducible refine' WL.cons ?_ ?k1
  case k1 => exact rfl
  with_reducible refine' WE.tyName ?k1 ?k2 ?k4 ?k5 ?_ ?k3
  case k1 => exact rfl
  case k2 => k_is
  case k4 => boot_fast
  case k5 => decide
  case k3 => decide
  with_reducible refine WL.nil ?_
  refine CT.isStr hp hn ?_
  with_reducible refine ⟨_, rfl, ?_⟩
  cases e : isS v with
  | true =>
    simp only [Bool.not_true, Bool.false_eq_true, if_false]
    with_reducible refine WS.nil ?_
    with_reducible refine WS.cons ?_
    with_reducible refine WX.ret ?_
    with_reducible refine' WE.name ?k1 ?k2 ?_ ?k3
    case k1 => exact rfl
    case k2 => exact rfl
    case k3 => decide
    exact h1 e
  | false =>
    simp only [Bool.not_false, if_true]
    with_reducible refine WS.cons ?_
    with_reducible refine' WX.raise1 ?k1 ?k2 ?_
    case k1 => exact rfl
    case k2 => k_is
    exact h2 e
theorem t_checked {x : Str} (hl : x.length ≤ 10000) (hd : 1 ≤ d) (h1 : x.length ≤ 255 → Q (.str x) σ) (h2 : ¬ x.length ≤ 255 → X "LS" σ) : CT w d (.ref 114) [.str x] σ Q X := by
  refine' CT.more (CT.defn (d := ?d0) (names := ?n0) ?k1 ?k2 ?k3 ?k4 ?k5 ?_ ?c1 ?c2 ?c3) ?hd
  case k1 => k_is
  case k2 => k_is
  case c1 => exact rfl
  case c2 => exact rfl
  case c3 => exact rfl
  case n0 => exact ["text"]
  case k3 => intro s rvs hl; obtain ⟨a, rfl⟩ := len1 hl; exact BindsTo.of_eq rfl
  case d0 => exact 0
  case k4 => exact rfl
  case k5 => decide
  case hd => first | assumption | omega
  intro L'
  show WS _ _ _ _ [("text", .str x)] _ _ _ _
  with_reducible refine WS.cons ?_
  with_reducible refine WX.if ?_
  with_reducible refine' WT.cmp1 ?_ ?k1
  case k1 => exact rfl
  with_reducible refine' WE.callB ?k1 ?k2 ?k3 ?k8 ?k9 ?_ ?k4 ?k5 ?k6 ?k7
  case k1 => exact rfl
  case k2 => k_is
  case k3 => boot_fast
  case k8 => decide
  case k9 => exact rfl
  case k4 => decide
  case k5 => exact rfl
  case k6 => exact rfl
  case k7 => intro _ _; exact rfl
  with_reducible refine' WL.cons ?_ ?k1
  case k1 => exact rfl
  with_reducible refine' WE.name ?k1 ?k2 ?_ ?k3
  case k1 => exact rfl
  case k2 => exact rfl
  case k3 => decide
  with_reducible refine WL.nil ?_
  refine CT.lenS (by omega) ?_
  with_reducible refine' WE.top ?k1 ?k2 ?_ ?k3
  case k1 => exact rfl
  case k2 => k_is
  case k3 => decide
  with_reducible refine ⟨_, CmpOk.gtI, ?_⟩
  refine ite_dec (fun h => ?_) (fun h => ?_)
  · with_reducible refine WS.cons ?_
    with_reducible refine' WX.raise1 ?k1 ?k2 ?_
    case k1 => exact rfl
    case k2 => k_is
    exact h2 (by omega)
  · with_reducible refine WS.nil ?_
    with_reducible refine WS.cons ?_
    with_reducible refine WX.ret ?_
    with_reducible refine' WE.name ?k1 ?k2 ?_ ?k3
    case k1 => exact rfl
    case k2 => exact rfl
    case k3 => decide
    exact h1 (by omega)
theorem t_joined {a b : Str} (ha : a.length ≤ 300) (hb : b.length ≤ 300) (hd : 2 ≤ d) (h1 : (a ++ b).length ≤ 255 → Q (.str (a ++ b)) σ) (h2 : ¬ (a ++ b).length ≤ 255 → X "LS" σ) : CT w d (.ref 199) [.str a, .str b] σ Q X := by
  refine' CT.more (CT.defn (d := ?d0) (names := ?n0) ?k1 ?k2 ?k3 ?k4 ?k5 ?_ ?c1 ?c2 ?c3) ?hd
  case k1 => k_is
  case k2 => k_is
  case c1 => exact rfl
  case c2 => exact rfl
  case c3 => exact rfl
  case n0 => exact ["one", "other"]
  case k3 => intro s rvs hl; obtain ⟨a, b, rfl⟩ := len2 hl; exact BindsTo.of_eq rfl
  case d0 => exact 1
  case k4 => exact rfl
  case k5 => decide
  case hd => first | assumption | omega
  intro L'
  show WS _ _ _ _ [("other", .str b), ("one", .str a)] _ _ _ _
  with_reducible refine WS.cons ?_
  with_reducible refine WX.ret ?_
  with_reducible refine' WE.callK ?k1 ?k2 ?k3 ?_ ?k4 ?k5 ?k6 ?k7
  case k1 => exact rfl
  case k2 => k_is
  case k3 => k_is
  case k4 => decide
  case k5 => exact rfl
  case k6 => exact rfl
  case k7 => intro _ _; exact rfl
  with_reducible refine' WL.cons ?_ ?k1
  case k1 => exact rfl
  with_reducible refine WE.bin ?_
  with_reducible refine' WE.callK ?k1 ?k2 ?k3 ?_ ?k4 ?k5 ?k6 ?k7
  case k1 => exact rfl
  case k2 => k_is
  case k3 => k_is
  case k4 => decide
  case k5 => exact rfl
  case k6 => exact rfl
  case k7 => intro _ _; exact rfl
  with_reducible refine' WL.cons ?_ ?k1
  case k1 => exact rfl
  with_reducible refine' WE.name ?k1 ?k2 ?_ ?k3
  case k1 => exact rfl
  case k2 => exact rfl
  case k3 => decide
  with_reducible refine WL.nil ?_
  refine t_text_of ⟨_, .str _⟩ (fun z => by cases z) (by omega) (fun _ => ?_) (fun z => by cases z)
  with_reducible refine' WE.callK ?k1 ?k2 ?k3 ?_ ?k4 ?k5 ?k6 ?k7
  case k1 => exact rfl
  case k2 => k_is
  case k3 => k_is
  case k4 => decide
  case k5 => exact rfl
  case k6 => exact rfl
  case k7 => intro _ _; exact rfl
  with_reducible refine' WL.cons ?_ ?k1
  case k1 => exact rfl
  with_reducible refine' WE.name ?k1 ?k2 ?_ ?k3
  case k1 => exact rfl
  case k2 => exact rfl
  case k3 => decide
  with_reducible refine WL.nil ?_
  refine t_text_of ⟨_, .str _⟩ (fun z => by cases z) (by omega) (fun _ => ?_) (fun z => by cases z)
  refine ⟨_, BinOk.cat (by rw [sizeLine_eq]; omega), ?_⟩
  with_reducible refine WL.nil ?_
  have hl : (a ++ b).length = a.length + b.length := Array.size_append
  exact t_checked (by omega) (by omega) h1 h2
theorem t_joinedTM {i : Int} {b : V} (hd : 2 ≤ d) (h2 : X "TM" σ) : CT w d (.ref 199) [.int i, b] σ Q X := by
  refine' CT.more (CT.defn (d := ?d0) (names := ?n0) ?k1 ?k2 ?k3 ?k4 ?k5 ?_ ?c1 ?c2 ?c3) ?hd
  case k1 => k_is
  case k2 => k_is
  case c1 => exact rfl
  case c2 => exact rfl
  case c3 => exact rfl
  case n0 => exact ["one", "other"]
  case k3 => intro s rvs hl; obtain ⟨a, b, rfl⟩ := len2 hl; exact BindsTo.of_eq rfl
  case d0 => exact 1
  case k4 => exact rfl
  case k5 => decide
  case hd => first | assumption | omega
  intro L'
  show WS _ _ _ _ [("other", b), ("one", .int i)] _ _ _ _
  with_reducible refine WS.cons ?_
  with_reducible refine WX.ret ?_
  with_reducible refine' WE.callK ?k1 ?k2 ?k3 ?_ ?k4 ?k5 ?k6 ?k7
  case k1 => exact rfl
  case k2 => k_is
  case k3 => k_is
  case k4 => decide
  case k5 => exact rfl
  case k6 => exact rfl
  case k7 => intro _ _; exact rfl
  with_reducible refine' WL.cons ?_ ?k1
  case k1 => exact rfl
  with_reducible refine WE.bin ?_
  with_reducible refine' WE.callK ?k1 ?k2 ?k3 ?_ ?k4 ?k5 ?k6 ?k7
  case k1 => exact rfl
  case k2 => k_is
  case k3 => k_is
  case k4 => decide
  case k5 => exact rfl
  case k6 => exact rfl
  case k7 => intro _ _; exact rfl
  with_reducible refine' WL.cons ?_ ?k1
  case k1 => exact rfl
  with_reducible refine' WE.name ?k1 ?k2 ?_ ?k3
  case k1 => exact rfl
  case k2 => exact rfl
  case k3 => decide
  with_reducible refine WL.nil ?_
  exact t_text_of ⟨_, .int _⟩ (fun z => by cases z) (by omega) (fun z => by cases z) (fun _ => h2)
theorem t_first {k : Str} (hk : k = "text" ∨ k = "whole" ∨ k = "decimal") (hd : 1 ≤ d) (q : Q (if k = "text" then .str "" else if k = "whole" then .int 0 else tw 0 0) σ) : CT w d (.ref 51) [.str k] σ Q X := by
  refine' CT.more (CT.defn (d := ?d0) (names := ?n0) ?k1 ?k2 ?k3 ?k4 ?k5 ?_ ?c1 ?c2 ?c3) ?hd
  case k1 => k_is
  case k2 => k_is
  case c1 => exact rfl
  case c2 => exact rfl
  case c3 => exact rfl
  case n0 => exact ["kind"]
  case k3 => intro s rvs hl; obtain ⟨a, rfl⟩ := len1 hl; exact BindsTo.of_eq rfl
  case d0 => exact 0
  case k4 => exact rfl
  case k5 => decide
  case hd => first | assumption | omega
  intro L'
  show WS _ _ _ _ [("kind", .str k)] _ _ _ _
  with_reducible refine WS.cons ?_
  with_reducible refine WX.if ?_
  with_reducible refine' WT.cmp1 ?_ ?k1
  case k1 => exact rfl
  with_reducible refine' WE.name ?k1 ?k2 ?_ ?k3
  case k1 => exact rfl
  case k2 => exact rfl
  case k3 => decide
  with_reducible refine WE.str ?_
  with_reducible refine ⟨_, CmpOk.eqS, ?_⟩
  refine ite_beq (fun h => ?_) (fun h => ?_)
  · with_reducible refine WS.cons ?_
    with_reducible refine WX.ret ?_
    with_reducible refine WE.str ?_
    rw [if_pos h] at q; exact q
  rw [if_neg h] at q
  with_reducible refine WS.nil ?_
  with_reducible refine WS.cons ?_
  with_reducible refine WX.ret ?_
  with_reducible refine WE.ifexp ?_
  with_reducible refine' WT.cmp1 ?_ ?k1
  case k1 => exact rfl
  with_reducible refine' WE.name ?k1 ?k2 ?_ ?k3
  case k1 => exact rfl
  case k2 => exact rfl
  case k3 => decide
  with_reducible refine WE.str ?_
  with_reducible refine ⟨_, CmpOk.eqS, ?_⟩
  refine ite_beq (fun h => ?_) (fun h => ?_)
  · with_reducible refine WE.int ?_
    rw [if_pos h] at q; exact q
  · with_reducible refine WE.tup ?_
    with_reducible refine' WL.cons ?_ ?k1
    case k1 => exact rfl
    with_reducible refine WE.int ?_
    with_reducible refine' WL.cons ?_ ?k1
    case k1 => exact rfl
    with_reducible refine WE.int ?_
    with_reducible refine WL.nil ?_
    with_reducible refine ⟨?k1, ?_⟩
    case k1 => exact Nat.le_of_ble_eq_true rfl
    rw [if_neg h] at q; exact q
theorem t_suited {v : V} {k : Str} {b g : Nat} (hk : k = "text" ∨ k = "whole" ∨ k = "decimal") (h : Dm v) (hb : 1 ≤ b) (hb2 : b ≤ 64) (hg : 3 ≤ g) (hg2 : g ≤ 10) (hd : 5 ≤ d) (q : ∀ r, kp v k b g = .ok r → Q r σ) (qx : ∀ c, kp v k b g = .err c → X c σ) : CT w d (.ref 121) [v, .str k, .int b, .int g] σ Q X := by
  refine' CT.more (CT.defn (d := ?d0) (names := ?n0) ?k1 ?k2 ?k3 ?k4 ?k5 ?_ ?c1 ?c2 ?c3) ?hd
  case k1 => k_is
  case k2 => k_is
  case c1 => exact rfl
  case c2 => exact rfl
  case c3 => exact rfl
  case n0 => exact ["value", "kind", "bits", "digits"]
  case k3 => intro s rvs hl; obtain ⟨a, b, c, e, rfl⟩ := len4 hl; exact BindsTo.of_eq rfl
  case d0 => exact 4
  case k4 => exact rfl
  case k5 => decide
  case hd => first | assumption | omega
  intro L'
  show WS _ _ _ _ [("digits", .int g), ("bits", .int b), ("kind", .str k), ("value", v)] _ _ _ _
  with_reducible refine WS.cons ?_
  with_reducible refine WX.if ?_
  with_reducible refine' WT.cmp1 ?_ ?k1
  case k1 => exact rfl
  with_reducible refine' WE.name ?k1 ?k2 ?_ ?k3
  case k1 => exact rfl
  case k2 => exact rfl
  case k3 => decide
  with_reducible refine WE.str ?_
  with_reducible refine ⟨_, CmpOk.eqS, ?_⟩
  refine ite_beq (fun hk => ?_) (fun h1 => ?_)
  · subst hk
    with_reducible refine WS.cons ?_
    with_reducible refine WX.ret ?_
    with_reducible refine' WE.callK ?k1 ?k2 ?k3 ?_ ?k4 ?k5 ?k6 ?k7
    case k1 => exact rfl
    case k2 => k_is
    case k3 => k_is
    case k4 => decide
    case k5 => exact rfl
    case k6 => exact rfl
    case k7 => intro _ _; exact rfl
    with_reducible refine' WL.cons ?_ ?k1
    case k1 => exact rfl
    with_reducible refine' WE.callK ?k1 ?k2 ?k3 ?_ ?k4 ?k5 ?k6 ?k7
    case k1 => exact rfl
    case k2 => k_is
    case k3 => k_is
    case k4 => decide
    case k5 => exact rfl
    case k6 => exact rfl
    case k7 => intro _ _; exact rfl
    with_reducible refine' WL.cons ?_ ?k1
    case k1 => exact rfl
    with_reducible refine' WE.name ?k1 ?k2 ?_ ?k3
    case k1 => exact rfl
    case k2 => exact rfl
    case k3 => decide
    with_reducible refine WL.nil ?_
    cases h with
    | @int i h => exact t_text_of ⟨_, .int _⟩ (fun z => by cases z) (by omega) (fun z => by cases z) (fun _ => qx _ kpN_text)
    | @pair c e h => exact t_text_of ⟨_, .pair _ _⟩ (fun z => by cases z) (by omega) (fun z => by cases z) (fun _ => qx _ kpN_text)
    | @str x h _ =>
      refine t_text_of ⟨_, .str _⟩ (fun z => by cases z) (by omega) (fun _ => ?_) (fun z => by cases z)
      with_reducible refine WL.nil ?_
      have e : kp (.str x) "text" b g = if x.length ≤ 255 then .ok (.str x) else .err "LS"   := kp_str
      rw [e] at q qx
      exact t_checked (by omega) (by omega) (fun z => q _ (if_pos z)) (fun z => qx _ (if_neg z))
  with_reducible refine WS.nil ?_
  with_reducible refine WS.cons ?_
  with_reducible refine WX.ret ?_
  with_reducible refine WE.ifexp ?_
  with_reducible refine' WT.cmp1 ?_ ?k1
  case k1 => exact rfl
  with_reducible refine' WE.name ?k1 ?k2 ?_ ?k3
  case k1 => exact rfl
  case k2 => exact rfl
  case k3 => decide
  with_reducible refine WE.str ?_
  with_reducible refine ⟨_, CmpOk.eqS, ?_⟩
  refine ite_beq (fun hk => ?_) (fun h2 => ?_)
  · subst hk
    with_reducible refine' WE.callK ?k1 ?k2 ?k3 ?_ ?k4 ?k5 ?k6 ?k7
    case k1 => exact rfl
    case k2 => k_is
    case k3 => k_is
    case k4 => decide
    case k5 => exact rfl
    case k6 => exact rfl
    case k7 => intro _ _; exact rfl
    with_reducible refine' WL.cons ?_ ?k1
    case k1 => exact rfl
    with_reducible refine' WE.name ?k1 ?k2 ?_ ?k3
    case k1 => exact rfl
    case k2 => exact rfl
    case k3 => decide
    with_reducible refine' WL.cons ?_ ?k1
    case k1 => exact rfl
    with_reducible refine' WE.name ?k1 ?k2 ?_ ?k3
    case k1 => exact rfl
    case k2 => exact rfl
    case k3 => decide
    with_reducible refine WL.nil ?_
    exact t_whole h hb hb2 (by omega) q qx
  · with_reducible refine' WE.callK ?k1 ?k2 ?k3 ?_ ?k4 ?k5 ?k6 ?k7
    case k1 => exact rfl
    case k2 => k_is
    case k3 => k_is
    case k4 => decide
    case k5 => exact rfl
    case k6 => exact rfl
    case k7 => intro _ _; exact rfl
    with_reducible refine' WL.cons ?_ ?k1
    case k1 => exact rfl
    with_reducible refine' WE.name ?k1 ?k2 ?_ ?k3
    case k1 => exact rfl
    case k2 => exact rfl
    case k3 => decide
    with_reducible refine' WL.cons ?_ ?k1
    case k1 => exact rfl
    with_reducible refine' WE.name ?k1 ?k2 ?_ ?k3
    case k1 => exact rfl
    case k2 => exact rfl
    case k3 => decide
    with_reducible refine WL.nil ?_
    have hk : k = "decimal" := by rcases hk with z | z | z; exact absurd z h1; exact absurd z h2; exact z
    subst hk
    exact t_decimal h hg hg2 (by omega) q qx
end
section
variable {w : World} {σ : St} {Q : V → St → Prop} {X : Str → St → Prop} {d : Nat}
/-- what the law keeps, or the text of the error -/
def due (v : V) (k : Str) (b g : Nat) : V := match kp v k b g with | .ok r => r | .err c => .str ("error " ++ c)
theorem due_ok {v r : V} {k : Str} {b g : Nat} (h : kp v k b g = .ok r) : due v k b g = r := by unfold due; rw [h]
theorem due_err {v : V} {k c : Str} {b g : Nat} (h : kp v k b g = .err c) : due v k b g = .str ("error " ++ c) := by unfold due; rw [h]
theorem t_kept {v : V} {k : Str} {b g : Nat} (hk : k = "text" ∨ k = "whole" ∨ k = "decimal") (h : Dm v) (hb : 1 ≤ b) (hb2 : b ≤ 64) (hg : 3 ≤ g) (hg2 : g ≤ 10) (hd : 4 ≤ d) (q : Q (due v k b g) σ) : CT w d (.ref 234) [v, .str k, .int b, .int g] σ Q X := by
  refine' CT.more (CT.defn (d := ?d0) (names := ?n0) ?k1 ?k2 ?k3 ?k4 ?k5 ?_ ?c1 ?c2 ?c3) ?hd
  case k1 => k_is
  case k2 => k_is
  case c1 => exact rfl
  case c2 => exact rfl
  case c3 => exact rfl
  case n0 => exact ["value", "kind", "bits", "digits"]
  case k3 => intro s rvs hl; obtain ⟨a, b, c, e, rfl⟩ := len4 hl; exact BindsTo.of_eq rfl
  case d0 => exact 3
  case k4 => exact rfl
  case k5 => decide
  case hd => first | assumption | omega
  intro L'
  show WS _ _ _ _ [("digits", .int g), ("bits", .int b), ("kind", .str k), ("value", v)] _ _ _ _
  with_reducible refine WS.cons ?_
  with_reducible refine WX.if ?_
  with_reducible refine' WT.cmp1 ?_ ?k1
  case k1 => exact rfl
  with_reducible refine' WE.cmp1 ?_ ?k1
  case k1 => exact rfl
  with_reducible refine' WE.name ?k1 ?k2 ?_ ?k3
  case k1 => exact rfl
  case k2 => exact rfl
  case k3 => decide
  with_reducible refine WE.str ?_
  with_reducible refine ⟨_, CmpOk.eqS, ?_⟩
  with_reducible refine' WE.callB ?k1 ?k2 ?k3 ?k8 ?k9 ?_ ?k4 ?k5 ?k6 ?k7
  case k1 => exact rfl
  case k2 => k_is
  case k3 => boot_fast
  case k8 => decide
  case k9 => exact rfl
  case k4 => decide
  case k5 => exact rfl
  case k6 => exact rfl
  case k7 => intro _ _; exact rfl
  with_reducible refine' WL.cons ?_ ?k1
  case k1 => exact rfl
  with_reducible refine' WE.name ?k1 ?k2 ?_ ?k3
  case k1 => exact rfl
  case k2 => exact rfl
  case k3 => decide
  with_reducible refine' WL.cons ?_ ?k1
  case k1 => exact rfl
  with_reducible refine' WE.tyName ?k1 ?k2 ?k4 ?k5 ?_ ?k3
  case k1 => exact rfl
  case k2 => k_is
  case k4 => boot_fast
  case k5 => decide
  case k3 => decide
  with_reducible refine WL.nil ?_
  refine CT.isStr h.plain h.notNone ?_
  with_reducible refine ⟨_, CmpOk.neB, ?_⟩
  cases hs : isS v with
  | true =>
    obtain ⟨x, rfl⟩ : ∃ x, v = .str x := by cases v with | str x => exact ⟨x, rfl⟩ | _ => cases hs
    have hx : x.length ≤ 256 := by cases h with | str z _ => exact z
    by_cases hk1 : k = "text"
    · subst hk1
      refine (if_neg Bool.false_ne_true).mpr ?_
      with_reducible refine WS.nil ?_
      with_reducible refine WS.cons ?_
      with_reducible refine WX.if ?_
      with_reducible refine' WT.cmp1 ?_ ?k1
      case k1 => exact rfl
      with_reducible refine' WE.name ?k1 ?k2 ?_ ?k3
      case k1 => exact rfl
      case k2 => exact rfl
      case k3 => decide
      with_reducible refine WE.str ?_
      with_reducible refine ⟨_, CmpOk.eqS, ?_⟩
      refine (if_pos (rfl : true = true)).mpr ?_
      with_reducible refine WS.cons ?_
      with_reducible refine WX.ret ?_
      with_reducible refine WE.ifexp ?_
      with_reducible refine' WT.cmp1 ?_ ?k1
      case k1 => exact rfl
      with_reducible refine' WE.callB ?k1 ?k2 ?k3 ?k8 ?k9 ?_ ?k4 ?k5 ?k6 ?k7
      case k1 => exact rfl
      case k2 => k_is
      case k3 => boot_fast
      case k8 => decide
      case k9 => exact rfl
      case k4 => decide
      case k5 => exact rfl
      case k6 => exact rfl
      case k7 => intro _ _; exact rfl
      with_reducible refine' WL.cons ?_ ?k1
      case k1 => exact rfl
      with_reducible refine' WE.name ?k1 ?k2 ?_ ?k3
      case k1 => exact rfl
      case k2 => exact rfl
      case k3 => decide
      with_reducible refine WL.nil ?_
      refine CT.lenS (by omega) ?_
      with_reducible refine WE.int ?_
      with_reducible refine ⟨_, CmpOk.leI, ?_⟩
      refine ite_dec (fun h => ?_) (fun h => ?_)
      · with_reducible refine' WE.name ?k1 ?k2 ?_ ?k3
        case k1 => exact rfl
        case k2 => exact rfl
        case k3 => decide
        rw [due_ok (kp_str.trans (if_pos (by omega)))] at q
        exact q
      · with_reducible refine WE.str ?_
        rw [due_err (kp_str.trans (if_neg (by omega)))] at q
        exact q
    · rw [beq_eq_false_iff_ne.mpr hk1]
      refine (if_pos (rfl : true = true)).mpr ?_
      with_reducible refine WS.cons ?_
      with_reducible refine WX.ret ?_
      with_reducible refine WE.str ?_
      rw [due_err (kp_tm hk1)] at q
      exact q
  | false =>
    obtain ⟨c, e, hc, he, hkp, ht⟩ : ∃ c e : Int, c.natAbs < 10 ^ 7 ∧ e.natAbs ≤ 10 ∧ kp v k b g = kpN c e k b g ∧ (isTp v = true → v = tw c e) ∧ (isTp v = false → v = .int c ∧ e = 0) := by
      cases h with
      | @int i h => exact ⟨i, 0, h, by decide, rfl, (fun z => by cases z), fun _ => ⟨rfl, rfl⟩⟩
      | @pair c e h1 h2 => exact ⟨c, e, h1, h2, rfl, (fun z => rfl), fun z => by cases z⟩
      | str h _ => cases hs
    by_cases hk1 : k = "text"
    · subst hk1
      refine (if_pos (rfl : true = true)).mpr ?_
      with_reducible refine WS.cons ?_
      with_reducible refine WX.ret ?_
      with_reducible refine WE.str ?_
      rw [due_err (hkp.trans kpN_text)] at q
      exact q
    rw [beq_eq_false_iff_ne.mpr hk1]
    refine (if_neg Bool.false_ne_true).mpr ?_
    with_reducible refine WS.nil ?_
    with_reducible refine WS.cons ?_
    with_reducible refine WX.if ?_
    with_reducible refine' WT.cmp1 ?_ ?k1
    case k1 => exact rfl
    with_reducible refine' WE.name ?k1 ?k2 ?_ ?k3
    case k1 => exact rfl
    case k2 => exact rfl
    case k3 => decide
    with_reducible refine WE.str ?_
    with_reducible refine ⟨_, CmpOk.eqS, ?_⟩
    rw [beq_eq_false_iff_ne.mpr hk1]
    refine (if_neg Bool.false_ne_true).mpr ?_
    with_reducible refine WS.nil ?_
    with_reducible refine WS.cons ?_
    with_reducible refine' WX.assign ?_ ?k1 ?k2 ?k3
    case k1 => exact rfl
    case k2 => exact rfl
    case k3 => exact rfl
    with_reducible refine WE.ifexp ?_
    with_reducible refine' WT.plain ?_ ?k1
    case k1 => intro _; exact rfl
    with_reducible refine' WE.callB ?k1 ?k2 ?k3 ?k8 ?k9 ?_ ?k4 ?k5 ?k6 ?k7
    case k1 => exact rfl
    case k2 => k_is
    case k3 => boot_fast
    case k8 => decide
    case k9 => exact rfl
    case k4 => decide
    case k5 => exact rfl
    case k6 => exact rfl
    case k7 => intro _ _; exact rfl
    with_reducible refine' WL.cons ?_ ?k1
    case k1 => exact rfl
    with_reducible refine' WE.name ?k1 ?k2 ?_ ?k3
    case k1 => exact rfl
    case k2 => exact rfl
    case k3 => decide
    with_reducible refine' WL.cons ?_ ?k1
    case k1 => exact rfl
    with_reducible refine' WE.tyName ?k1 ?k2 ?k4 ?k5 ?_ ?k3
    case k1 => exact rfl
    case k2 => k_is
    case k4 => boot_fast
    case k5 => decide
    case k3 => decide
    with_reducible refine WL.nil ?_
    refine CT.isTup h.plain h.notNone ?_
    with_reducible refine ⟨_, rfl, ?_⟩
    refine WE.join2 (fun u s => s = σ ∧ u = tw c e) ?_ ?_
    · cases hz : isTp v with
      | true =>
        refine (if_pos (rfl : true = true)).mpr ?_
        with_reducible refine' WE.name ?k1 ?k2 ?_ ?k3
        case k1 => exact rfl
        case k2 => exact rfl
        case k3 => decide
        exact ⟨rfl, ht.1 hz⟩
      | false =>
        refine (if_neg Bool.false_ne_true).mpr ?_
        with_reducible refine WE.tup ?_
        with_reducible refine' WL.cons ?_ ?k1
        case k1 => exact rfl
        with_reducible refine' WE.name ?k1 ?k2 ?_ ?k3
        case k1 => exact rfl
        case k2 => exact rfl
        case k3 => decide
        with_reducible refine' WL.cons ?_ ?k1
        case k1 => exact rfl
        with_reducible refine WE.int ?_
        with_reducible refine WL.nil ?_
        with_reducible refine ⟨?k1, ?_⟩
        case k1 => exact Nat.le_of_ble_eq_true rfl
        obtain ⟨rfl, rfl⟩ := ht.2 hz
        exact ⟨rfl, rfl⟩
    rintro u s ⟨hs1, hu⟩
    subst s u
    unfold tw
    with_reducible refine' WA.tup ?k1 ?k2 ?_
    case k1 => exact rfl
    case k2 => exact rfl
    with_reducible refine' WAs.cons ?_ ?k1
    case k1 => exact rfl
    with_reducible refine' WA.name ?k1 ?_
    case k1 => exact rfl
    with_reducible refine' WAs.cons ?_ ?k1
    case k1 => exact rfl
    with_reducible refine' WA.name ?k1 ?_
    case k1 => exact rfl
    with_reducible refine WAs.nil ?_
    with_reducible refine WS.cons ?_
    with_reducible refine WX.if ?_
    with_reducible refine' WT.cmp1 ?_ ?k1
    case k1 => exact rfl
    with_reducible refine' WE.name ?k1 ?k2 ?_ ?k3
    case k1 => exact rfl
    case k2 => exact rfl
    case k3 => decide
    with_reducible refine WE.str ?_
    with_reducible refine ⟨_, CmpOk.eqS, ?_⟩
    refine ite_beq (fun hk2 => ?_) (fun hk2 => ?_)
    · subst hk2
      with_reducible refine WS.cons ?_
      with_reducible refine WX.ret ?_
      with_reducible refine' WE.callK ?k1 ?k2 ?k3 ?_ ?k4 ?k5 ?k6 ?k7
      case k1 => exact rfl
      case k2 => k_is
      case k3 => k_is
      case k4 => decide
      case k5 => exact rfl
      case k6 => exact rfl
      case k7 => intro _ _; exact rfl
      with_reducible refine' WL.cons ?_ ?k1
      case k1 => exact rfl
      with_reducible refine' WE.name ?k1 ?k2 ?_ ?k3
      case k1 => exact rfl
      case k2 => exact rfl
      case k3 => decide
      with_reducible refine' WL.cons ?_ ?k1
      case k1 => exact rfl
      with_reducible refine' WE.name ?k1 ?k2 ?_ ?k3
      case k1 => exact rfl
      case k2 => exact rfl
      case k3 => decide
      with_reducible refine' WL.cons ?_ ?k1
      case k1 => exact rfl
      with_reducible refine' WE.name ?k1 ?k2 ?_ ?k3
      case k1 => exact rfl
      case k2 => exact rfl
      case k3 => decide
      with_reducible refine WL.nil ?_
      refine t_ldec hc he hg hg2 (by omega) ?_
      rw [due_ok (hkp.trans kp_dec)] at q
      exact q
    have hk3 : k = "whole" := by rcases hk with z | z | z; exact absurd z hk1; exact z; exact absurd z hk2
    subst hk3
    with_reducible refine WS.nil ?_
    with_reducible refine WS.cons ?_
    with_reducible refine' WX.assign ?_ ?k1 ?k2 ?k3
    case k1 => exact rfl
    case k2 => exact rfl
    case k3 => exact rfl
    with_reducible refine WE.ifexp ?_
    with_reducible refine' WT.cmp1 ?_ ?k1
    case k1 => exact rfl
    with_reducible refine' WE.name ?k1 ?k2 ?_ ?k3
    case k1 => exact rfl
    case k2 => exact rfl
    case k3 => decide
    with_reducible refine WE.int ?_
    with_reducible refine ⟨_, CmpOk.geI, ?_⟩
    obtain ⟨z, hz⟩ : ∃ z : Int, (if 0 ≤ e then (c.natAbs : Int) * 10 ^ e.toNat else near c.natAbs (-e).toNat) = z := ⟨_, rfl⟩
    have hwn : wn c e = if c < 0 then -z else z := by subst hz; rfl
    refine WE.join2 (fun u s => s = σ ∧ u = .int z) ?_ ?_
    · refine ite_dec (fun h => ?_) (fun h => ?_)
      · obtain ⟨p, rfl⟩ : ∃ p : Nat, e = p := ⟨e.toNat, by omega⟩
        with_reducible refine WE.bin ?_
        with_reducible refine' WE.callB ?k1 ?k2 ?k3 ?k8 ?k9 ?_ ?k4 ?k5 ?k6 ?k7
        case k1 => exact rfl
        case k2 => k_is
        case k3 => boot_fast
        case k8 => decide
        case k9 => exact rfl
        case k4 => decide
        case k5 => exact rfl
        case k6 => exact rfl
        case k7 => intro _ _; exact rfl
        with_reducible refine' WL.cons ?_ ?k1
        case k1 => exact rfl
        with_reducible refine' WE.name ?k1 ?k2 ?_ ?k3
        case k1 => exact rfl
        case k2 => exact rfl
        case k3 => decide
        with_reducible refine WL.nil ?_
        with_reducible refine CT.absN ?_
        with_reducible refine WE.bin ?_
        with_reducible refine WE.int ?_
        with_reducible refine' WE.name ?k1 ?k2 ?_ ?k3
        case k1 => exact rfl
        case k2 => exact rfl
        case k3 => decide
        refine ⟨_, BinOk.pow10 (by omega), ?_⟩
        skip
        refine ⟨_, BinOk.mul (by omega) (by omega), rfl, ?_⟩
        rw [if_pos h, Int.toNat_natCast] at hz
        rw [← hz]
        push_cast
        rfl
      · with_reducible refine' WE.callK ?k1 ?k2 ?k3 ?_ ?k4 ?k5 ?k6 ?k7
        case k1 => exact rfl
        case k2 => k_is
        case k3 => k_is
        case k4 => decide
        case k5 => exact rfl
        case k6 => exact rfl
        case k7 => intro _ _; exact rfl
        with_reducible refine' WL.cons ?_ ?k1
        case k1 => exact rfl
        with_reducible refine' WE.callB ?k1 ?k2 ?k3 ?k8 ?k9 ?_ ?k4 ?k5 ?k6 ?k7
        case k1 => exact rfl
        case k2 => k_is
        case k3 => boot_fast
        case k8 => decide
        case k9 => exact rfl
        case k4 => decide
        case k5 => exact rfl
        case k6 => exact rfl
        case k7 => intro _ _; exact rfl
        with_reducible refine' WL.cons ?_ ?k1
        case k1 => exact rfl
        with_reducible refine' WE.name ?k1 ?k2 ?_ ?k3
        case k1 => exact rfl
        case k2 => exact rfl
        case k3 => decide
        with_reducible refine WL.nil ?_
        with_reducible refine CT.absN ?_
        with_reducible refine' WL.cons ?_ ?k1
        case k1 => exact rfl
        with_reducible refine WE.bin ?_
        with_reducible refine WE.int ?_
        with_reducible refine' WE.name ?k1 ?k2 ?_ ?k3
        case k1 => exact rfl
        case k2 => exact rfl
        case k3 => decide
        with_reducible refine ⟨_, BinOk.sub, ?_⟩
        with_reducible refine WL.nil ?_
        obtain ⟨p, hp⟩ : ∃ p : Nat, -e = p := ⟨(-e).toNat, by omega⟩
        have hp2 : 0 - e = p := by omega
        rw [hp2]
        refine t_near (by omega) (by omega) (by omega) ⟨rfl, ?_⟩
        rw [if_neg h, hp, Int.toNat_natCast] at hz
        rw [← hz]
    rintro u s ⟨hs1, hu⟩
    subst s u
    with_reducible refine' WA.name ?k1 ?_
    case k1 => exact rfl
    with_reducible refine WS.cons ?_
    with_reducible refine' WX.assign ?_ ?k1 ?k2 ?k3
    case k1 => exact rfl
    case k2 => exact rfl
    case k3 => exact rfl
    with_reducible refine WE.ifexp ?_
    with_reducible refine' WT.cmp1 ?_ ?k1
    case k1 => exact rfl
    with_reducible refine' WE.name ?k1 ?k2 ?_ ?k3
    case k1 => exact rfl
    case k2 => exact rfl
    case k3 => decide
    with_reducible refine WE.int ?_
    with_reducible refine ⟨_, CmpOk.ltI, ?_⟩
    refine WE.join2 (fun u s => s = σ ∧ u = .int (wn c e)) ?_ ?_
    · refine ite_dec (fun h => ?_) (fun h => ?_)
      · with_reducible refine WE.bin ?_
        with_reducible refine WE.int ?_
        with_reducible refine' WE.name ?k1 ?k2 ?_ ?k3
        case k1 => exact rfl
        case k2 => exact rfl
        case k3 => decide
        with_reducible refine ⟨_, BinOk.sub, ?_⟩
        refine ⟨rfl, ?_⟩
        rw [hwn, if_pos h, Int.zero_sub]
      · with_reducible refine' WE.name ?k1 ?k2 ?_ ?k3
        case k1 => exact rfl
        case k2 => exact rfl
        case k3 => decide
        refine ⟨rfl, ?_⟩
        rw [hwn, if_neg h]
    rintro u s ⟨hs1, hu⟩
    subst s u
    with_reducible refine' WA.name ?k1 ?_
    case k1 => exact rfl
    with_reducible refine WS.cons ?_
    with_reducible refine WX.ret ?_
    with_reducible refine WE.ifexp ?_
    with_reducible refine' WT.cmp2 ?_ ?k1
    case k1 => exact rfl
    with_reducible refine WE.bin ?_
    with_reducible refine WE.int ?_
    with_reducible refine WE.bin ?_
    with_reducible refine WE.int ?_
    with_reducible refine WE.bin ?_
    with_reducible refine' WE.name ?k1 ?k2 ?_ ?k3
    case k1 => exact rfl
    case k2 => exact rfl
    case k3 => decide
    with_reducible refine WE.int ?_
    with_reducible refine ⟨_, BinOk.sub, ?_⟩
    have hk : (b : Int) - 1 = ((b - 1 : Nat) : Int) := by omega
    rw [hk]
    refine ⟨_, BinOk.pow (by omega) (by omega) (by decide), ?_⟩
    rw [Int.toNat_natCast]
    with_reducible refine ⟨_, BinOk.sub, ?_⟩
    with_reducible refine' WE.name ?k1 ?k2 ?_ ?k3
    case k1 => exact rfl
    case k2 => exact rfl
    case k3 => decide
    with_reducible refine ⟨_, CmpOk.leI, ?_⟩
    refine ite_dec (fun h1 => ?_) (fun h1 => ?_)
    · with_reducible refine WE.bin ?_
      with_reducible refine WE.int ?_
      with_reducible refine WE.bin ?_
      with_reducible refine' WE.name ?k1 ?k2 ?_ ?k3
      case k1 => exact rfl
      case k2 => exact rfl
      case k3 => decide
      with_reducible refine WE.int ?_
      with_reducible refine ⟨_, BinOk.sub, ?_⟩
      rw [hk]
      refine ⟨_, BinOk.pow (by omega) (by omega) (by decide), ?_⟩
      rw [Int.toNat_natCast]
      refine ⟨_, CmpOk.ltI, ?_⟩
      refine ite_dec (fun h2 => ?_) (fun h2 => ?_)
      · with_reducible refine' WE.name ?k1 ?k2 ?_ ?k3
        case k1 => exact rfl
        case k2 => exact rfl
        case k3 => decide
        rw [due_ok (hkp.trans (kp_whole.trans (if_pos ⟨by omega, h2⟩)))] at q
        exact q
      · with_reducible refine WE.str ?_
        rw [due_err (hkp.trans (kp_whole.trans (if_neg (fun z => h2 z.2))))] at q
        exact q
    · refine (if_neg Bool.false_ne_true).mpr ?_
      with_reducible refine WE.str ?_
      rw [due_err (hkp.trans (kp_whole.trans (if_neg (fun z => h1 (by have := z.1; omega)))))] at q
      exact q
end
section
variable {w : World} {σ : St} {Q : V → St → Prop} {X : Str → St → Prop} {d : Nat}
def names7 : List Str := ["A%", "A$", "A", "IX", "I!", "T", "T%"]
/-- the kinds told of, before and after a clear -/
def told (b : Bool) : List (Str × V) := if b = true then [("I", .str "whole"), ("T", .str "text")] else []
def lastOf (n : Str) : Str := Txt.item n (n.length - 1)
def headOf (n : Str) : Str := Txt.item n 0
def kindOf (n : Str) (b : Bool) : Str :=
  if lastOf n = "$" then "text" else if lastOf n = "%" then "whole" else if lastOf n = "!" then "decimal" else
  if b = true then (if headOf n = "I" then "whole" else if headOf n = "T" then "text" else "decimal") else "decimal"
theorem told_get (n : Str) (b : Bool) : (alook (told b) n).getD (.str "decimal") = .str (if b = true then (if n = "I" then "whole" else if n = "T" then "text" else "decimal") else "decimal") := by
  cases b with
  | false => rfl
  | true =>
    unfold told
    rw [if_pos rfl, if_pos rfl]
    unfold alook alook alook
    by_cases h1 : n = "I"
    · subst h1; rfl
    · rw [if_neg h1, if_neg h1]
      by_cases h2 : n = "T"
      · subst h2; rfl
      · rw [if_neg h2, if_neg h2]; rfl
theorem kindOf_or (n : Str) (b : Bool) : kindOf n b = "text" ∨ kindOf n b = "whole" ∨ kindOf n b = "decimal" := by
  unfold kindOf
  repeat' split
  all_goals first | exact .inl rfl | exact .inr (.inl rfl) | exact .inr (.inr rfl)
theorem t_kind {n : Str} {b : Bool} {a : Addr} (h1 : 1 ≤ n.length) (h2 : n.length ≤ 100) (ha : σ a = some (.dict (told b))) (hd : 1 ≤ d) (q : Q (.str (kindOf n b)) σ) : CT w d (.ref 44) [.str n, .ref a] σ Q X := by
  refine' CT.more (CT.defn (d := ?d0) (names := ?n0) ?k1 ?k2 ?k3 ?k4 ?k5 ?_ ?c1 ?c2 ?c3) ?hd
  case k1 => k_is
  case k2 => k_is
  case c1 => exact rfl
  case c2 => exact rfl
  case c3 => exact rfl
  case n0 => exact ["name", "kinds"]
  case k3 => intro s rvs hl; obtain ⟨a, b, rfl⟩ := len2 hl; exact BindsTo.of_eq rfl
  case d0 => exact 0
  case k4 => exact rfl
  case k5 => decide
  case hd => first | assumption | omega
  intro L'
  show WS _ _ _ _ [("kinds", .ref a), ("name", .str n)] _ _ _ _
  with_reducible refine WS.cons ?_
  with_reducible refine' WX.assign ?_ ?k1 ?k2 ?k3
  case k1 => exact rfl
  case k2 => exact rfl
  case k3 => exact rfl
  with_reducible refine' WE.sub ?_ ?k1
  case k1 => intro _ _; exact rfl
  with_reducible refine' WE.name ?k1 ?k2 ?_ ?k3
  case k1 => exact rfl
  case k2 => exact rfl
  case k3 => decide
  with_reducible refine WE.bin ?_
  with_reducible refine' WE.callB ?k1 ?k2 ?k3 ?k8 ?k9 ?_ ?k4 ?k5 ?k6 ?k7
  case k1 => exact rfl
  case k2 => k_is
  case k3 => boot_fast
  case k8 => decide
  case k9 => exact rfl
  case k4 => decide
  case k5 => exact rfl
  case k6 => exact rfl
  case k7 => intro _ _; exact rfl
  with_reducible refine' WL.cons ?_ ?k1
  case k1 => exact rfl
  with_reducible refine' WE.name ?k1 ?k2 ?_ ?k3
  case k1 => exact rfl
  case k2 => exact rfl
  case k3 => decide
  with_reducible refine WL.nil ?_
  refine CT.lenS (by omega) ?_
  with_reducible refine WE.int ?_
  with_reducible refine ⟨_, BinOk.sub, ?_⟩
  refine ⟨_, ItemOk.str (by omega) (by omega) (by omega), ?_⟩
  with_reducible refine' WA.name ?k1 ?_
  case k1 => exact rfl
  with_reducible refine WS.cons ?_
  with_reducible refine WX.if ?_
  with_reducible refine' WT.cmp1 ?_ ?k1
  case k1 => exact rfl
  with_reducible refine' WE.name ?k1 ?k2 ?_ ?k3
  case k1 => exact rfl
  case k2 => exact rfl
  case k3 => decide
  with_reducible refine WE.str ?_
  with_reducible refine ⟨_, CmpOk.eqS, ?_⟩
  unfold kindOf at q
  refine ite_beq (fun h => ?_) (fun h => ?_)
  · with_reducible refine WS.cons ?_
    with_reducible refine WX.ret ?_
    with_reducible refine WE.str ?_
    rw [if_pos (show lastOf n = "$" from h)] at q
    exact q
  rw [if_neg (show ¬ lastOf n = "$" from h)] at q
  with_reducible refine WS.nil ?_
  with_reducible refine WS.cons ?_
  with_reducible refine WX.if ?_
  with_reducible refine' WT.cmp1 ?_ ?k1
  case k1 => exact rfl
  with_reducible refine' WE.name ?k1 ?k2 ?_ ?k3
  case k1 => exact rfl
  case k2 => exact rfl
  case k3 => decide
  with_reducible refine WE.str ?_
  with_reducible refine ⟨_, CmpOk.eqS, ?_⟩
  refine ite_beq (fun h => ?_) (fun h => ?_)
  · with_reducible refine WS.cons ?_
    with_reducible refine WX.ret ?_
    with_reducible refine WE.str ?_
    rw [if_pos (show lastOf n = "%" from h)] at q
    exact q
  rw [if_neg (show ¬ lastOf n = "%" from h)] at q
  with_reducible refine WS.nil ?_
  with_reducible refine WS.cons ?_
  with_reducible refine WX.ret ?_
  with_reducible refine WE.ifexp ?_
  with_reducible refine' WT.cmp1 ?_ ?k1
  case k1 => exact rfl
  with_reducible refine' WE.name ?k1 ?k2 ?_ ?k3
  case k1 => exact rfl
  case k2 => exact rfl
  case k3 => decide
  with_reducible refine WE.str ?_
  with_reducible refine ⟨_, CmpOk.eqS, ?_⟩
  refine ite_beq (fun h => ?_) (fun h => ?_)
  · with_reducible refine WE.str ?_
    rw [if_pos (show lastOf n = "!" from h)] at q
    exact q
  rw [if_neg (show ¬ lastOf n = "!" from h)] at q
  with_reducible refine' WE.get ?_ ?k1 ?k2 ?k3
  case k1 => exact rfl
  case k2 => exact rfl
  case k3 => exact rfl
  with_reducible refine' WE.name ?k1 ?k2 ?_ ?k3
  case k1 => exact rfl
  case k2 => exact rfl
  case k3 => decide
  with_reducible refine ⟨_, rfl, ?_⟩
  refine ⟨⟨_, ha⟩, ?_⟩
  with_reducible refine' WE.sub ?_ ?k1
  case k1 => intro _ _; exact rfl
  with_reducible refine' WE.name ?k1 ?k2 ?_ ?k3
  case k1 => exact rfl
  case k2 => exact rfl
  case k3 => decide
  with_reducible refine WE.int ?_
  refine ⟨_, ItemOk.str (by omega) (by omega) (by omega), ?_⟩
  with_reducible refine WE.str ?_
  refine ⟨_, _, rfl, ha, ?_⟩
  rw [told_get]
  exact q

theorem alook_aset : ∀ {l : List (Str × V)} {k : Str} {x : V}, alook (aset l k x) k = some x
  | [], k, x => by unfold aset alook; exact if_pos rfl
  | (k', y) :: l, k, x => by
    unfold aset
    split
    · unfold alook; exact if_pos (by assumption)
    · unfold alook; rw [if_neg (by assumption)]; exact alook_aset
theorem alook_asetN : ∀ {l : List (Str × V)} {k k' : Str} {x : V}, k' ≠ k → alook (aset l k x) k' = alook l k'
  | [], k, k', x, h => by unfold aset alook; rw [if_neg h]; rfl
  | (k₂, y) :: l, k, k', x, h => by
    unfold aset
    split
    · rename_i e
      subst e
      unfold alook
      rw [if_neg h, if_neg h]
    · unfold alook
      split
      · rfl
      · exact alook_asetN h
theorem worldCls (w : World) : WorldCls w := by
  refine ⟨?_, ?_, ?_⟩
  · k_is
  · k_is
  · k_is
theorem af_steps (w : World) : AttrFree w "steps" := by constructor <;> k_is
theorem af_most (w : World) : AttrFree w "most_steps" := by constructor <;> k_is
theorem t_step {a dx : Addr} {l : List (Str × V)} {i m : Int} (ha : σ a = some (.inst dx l)) (hl : l.length ≤ 50) (h1 : alook l "steps" = some (.int i)) (h2 : alook l "most_steps" = some (.int m)) (hd : 1 ≤ d)
    (q : ¬ i + 1 > m → Q .none (upd σ a (.inst dx (aset l "steps" (.int (i + 1)))))) (qx : i + 1 > m → X "ST" (upd σ a (.inst dx (aset l "steps" (.int (i + 1)))))) : CT w d (.ref 150) [.ref a] σ Q X := by
  refine' CT.more (CT.defn (d := ?d0) (names := ?n0) ?k1 ?k2 ?k3 ?k4 ?k5 ?_ ?c1 ?c2 ?c3) ?hd
  case k1 => k_is
  case k2 => k_is
  case c1 => exact rfl
  case c2 => exact rfl
  case c3 => exact rfl
  case n0 => exact ["world"]
  case k3 => intro s rvs hl; obtain ⟨a, rfl⟩ := len1 hl; exact BindsTo.of_eq rfl
  case d0 => exact 0
  case k4 => exact rfl
  case k5 => decide
  case hd => first | assumption | omega
  intro L'
  show WS _ _ _ _ [("world", .ref a)] _ _ _ _
  with_reducible refine WS.cons ?_
  with_reducible refine' WX.augA ?_
  with_reducible refine' WE.name ?k1 ?k2 ?_ ?k3
  case k1 => exact rfl
  case k2 => exact rfl
  case k3 => decide
  refine ⟨_, _, _, _, rfl, worldCls w, af_steps w, ha, h1, ?_⟩
  with_reducible refine WE.int ?_
  refine ⟨_, _, AugOk.add, ha, by omega, ?_⟩
  with_reducible refine WS.cons ?_
  with_reducible refine WX.if ?_
  with_reducible refine' WT.cmp1 ?_ ?k1
  case k1 => exact rfl
  with_reducible refine' WE.attr ?_ ?k1
  case k1 => exact rfl
  with_reducible refine' WE.name ?k1 ?k2 ?_ ?k3
  case k1 => exact rfl
  case k2 => exact rfl
  case k3 => decide
  refine ⟨_, _, _, _, rfl, worldCls w, af_steps w, upd_self, alook_aset, ?_⟩
  with_reducible refine' WE.attr ?_ ?k1
  case k1 => exact rfl
  with_reducible refine' WE.name ?k1 ?k2 ?_ ?k3
  case k1 => exact rfl
  case k2 => exact rfl
  case k3 => decide
  refine ⟨_, _, _, _, rfl, worldCls w, af_most w, upd_self, (alook_asetN (by decide)).trans h2, ?_⟩
  with_reducible refine ⟨_, CmpOk.gtI, ?_⟩
  refine ite_dec (fun h => ?_) (fun h => ?_)
  · with_reducible refine WS.cons ?_
    with_reducible refine' WX.raise2 ?k1 ?k2 ?_
    case k1 => exact rfl
    case k2 => k_is
    exact qx h
  · with_reducible refine WS.nil ?_
    with_reducible refine WS.nil ?_
    exact q h

theorem af_kinds (w : World) : AttrFree w "kinds" := by constructor <;> k_is
theorem af_names (w : World) : AttrFree w "names" := by constructor <;> k_is
theorem af_bits (w : World) : AttrFree w "bits" := by constructor <;> k_is
theorem af_digits (w : World) : AttrFree w "digits" := by constructor <;> k_is
theorem af_out (w : World) : AttrFree w "out" := by constructor <;> k_is
theorem af_row (w : World) : AttrFree w "row" := by constructor <;> k_is
theorem t_kind_here {n : Str} {b : Bool} {a dx ka : Addr} {l : List (Str × V)} (n1 : 1 ≤ n.length) (n2 : n.length ≤ 100) (ha : σ a = some (.inst dx l)) (h1 : alook l "kinds" = some (.ref ka)) (h2 : σ ka = some (.dict (told b))) (hd : 2 ≤ d) (q : Q (.str (kindOf n b)) σ) : CT w d (.ref 157) [.ref a, .str n] σ Q X := by
  refine' CT.more (CT.defn (d := ?d0) (names := ?n0) ?k1 ?k2 ?k3 ?k4 ?k5 ?_ ?c1 ?c2 ?c3) ?hd
  case k1 => k_is
  case k2 => k_is
  case c1 => exact rfl
  case c2 => exact rfl
  case c3 => exact rfl
  case n0 => exact ["world", "name"]
  case k3 => intro s rvs hl; obtain ⟨a, b, rfl⟩ := len2 hl; exact BindsTo.of_eq rfl
  case d0 => exact 1
  case k4 => exact rfl
  case k5 => decide
  case hd => first | assumption | omega
  intro L'
  show WS _ _ _ _ [("name", .str n), ("world", .ref a)] _ _ _ _
  with_reducible refine WS.cons ?_
  with_reducible refine WX.ret ?_
  with_reducible refine' WE.callK ?k1 ?k2 ?k3 ?_ ?k4 ?k5 ?k6 ?k7
  case k1 => exact rfl
  case k2 => k_is
  case k3 => k_is
  case k4 => decide
  case k5 => exact rfl
  case k6 => exact rfl
  case k7 => intro _ _; exact rfl
  with_reducible refine' WL.cons ?_ ?k1
  case k1 => exact rfl
  with_reducible refine' WE.name ?k1 ?k2 ?_ ?k3
  case k1 => exact rfl
  case k2 => exact rfl
  case k3 => decide
  with_reducible refine' WL.cons ?_ ?k1
  case k1 => exact rfl
  with_reducible refine' WE.attr ?_ ?k1
  case k1 => exact rfl
  with_reducible refine' WE.name ?k1 ?k2 ?_ ?k3
  case k1 => exact rfl
  case k2 => exact rfl
  case k3 => decide
  refine ⟨_, _, _, _, rfl, worldCls w, af_kinds w, ha, h1, ?_⟩
  with_reducible refine WL.nil ?_
  exact t_kind n1 n2 h2 (by omega) q
def firstOf (k : Str) : V := if k = "text" then .str "" else if k = "whole" then .int 0 else tw 0 0
theorem t_get_name {n : Str} {b : Bool} {a dx ka na : Addr} {l bk : List (Str × V)} (n1 : 1 ≤ n.length) (n2 : n.length ≤ 100) (ha : σ a = some (.inst dx l)) (h1 : alook l "kinds" = some (.ref ka)) (h2 : σ ka = some (.dict (told b))) (h3 : alook l "names" = some (.ref na)) (h4 : σ na = some (.dict bk)) (hd : 3 ≤ d) (q : Q ((alook bk n).getD (firstOf (kindOf n b))) σ) : CT w d (.ref 164) [.ref a, .str n] σ Q X := by
  refine' CT.more (CT.defn (d := ?d0) (names := ?n0) ?k1 ?k2 ?k3 ?k4 ?k5 ?_ ?c1 ?c2 ?c3) ?hd
  case k1 => k_is
  case k2 => k_is
  case c1 => exact rfl
  case c2 => exact rfl
  case c3 => exact rfl
  case n0 => exact ["world", "name"]
  case k3 => intro s rvs hl; obtain ⟨a, b, rfl⟩ := len2 hl; exact BindsTo.of_eq rfl
  case d0 => exact 2
  case k4 => exact rfl
  case k5 => decide
  case hd => first | assumption | omega
  intro L'
  show WS _ _ _ _ [("name", .str n), ("world", .ref a)] _ _ _ _
  with_reducible refine WS.cons ?_
  with_reducible refine WX.ret ?_
  with_reducible refine WE.ifexp ?_
  with_reducible refine' WT.cmp1 ?_ ?k1
  case k1 => exact rfl
  with_reducible refine' WE.name ?k1 ?k2 ?_ ?k3
  case k1 => exact rfl
  case k2 => exact rfl
  case k3 => decide
  with_reducible refine' WE.attr ?_ ?k1
  case k1 => exact rfl
  with_reducible refine' WE.name ?k1 ?k2 ?_ ?k3
  case k1 => exact rfl
  case k2 => exact rfl
  case k3 => decide
  refine ⟨_, _, _, _, rfl, worldCls w, af_names w, ha, h3, ?_⟩
  refine ⟨_, CmpOk.inD h4, ?_⟩
  cases e : alook bk n with
  | some v =>
    rw [e] at q
    refine (if_pos (rfl : true = true)).mpr ?_
    with_reducible refine' WE.sub ?_ ?k1
    case k1 => intro _ _; exact rfl
    with_reducible refine' WE.attr ?_ ?k1
    case k1 => exact rfl
    with_reducible refine' WE.name ?k1 ?k2 ?_ ?k3
    case k1 => exact rfl
    case k2 => exact rfl
    case k3 => decide
    refine ⟨_, _, _, _, rfl, worldCls w, af_names w, ha, h3, ?_⟩
    with_reducible refine' WE.name ?k1 ?k2 ?_ ?k3
    case k1 => exact rfl
    case k2 => exact rfl
    case k3 => decide
    exact ⟨_, ItemOk.dict h4 e, q⟩
  | none =>
    rw [e] at q
    refine (if_neg Bool.false_ne_true).mpr ?_
    with_reducible refine' WE.callK ?k1 ?k2 ?k3 ?_ ?k4 ?k5 ?k6 ?k7
    case k1 => exact rfl
    case k2 => k_is
    case k3 => k_is
    case k4 => decide
    case k5 => exact rfl
    case k6 => exact rfl
    case k7 => intro _ _; exact rfl
    with_reducible refine' WL.cons ?_ ?k1
    case k1 => exact rfl
    with_reducible refine' WE.callK ?k1 ?k2 ?k3 ?_ ?k4 ?k5 ?k6 ?k7
    case k1 => exact rfl
    case k2 => k_is
    case k3 => k_is
    case k4 => decide
    case k5 => exact rfl
    case k6 => exact rfl
    case k7 => intro _ _; exact rfl
    with_reducible refine' WL.cons ?_ ?k1
    case k1 => exact rfl
    with_reducible refine' WE.name ?k1 ?k2 ?_ ?k3
    case k1 => exact rfl
    case k2 => exact rfl
    case k3 => decide
    with_reducible refine' WL.cons ?_ ?k1
    case k1 => exact rfl
    with_reducible refine' WE.name ?k1 ?k2 ?_ ?k3
    case k1 => exact rfl
    case k2 => exact rfl
    case k3 => decide
    with_reducible refine WL.nil ?_
    refine t_kind_here n1 n2 ha h1 h2 (by omega) ?_
    with_reducible refine WL.nil ?_
    exact t_first (kindOf_or n b) (by omega) q
theorem t_set_name {n : Str} {b : Bool} {a dx ka na : Addr} {l bk : List (Str × V)} {v : V} {bits g : Nat} (n1 : 1 ≤ n.length) (n2 : n.length ≤ 100) (ha : σ a = some (.inst dx l)) (h1 : alook l "kinds" = some (.ref ka)) (h2 : σ ka = some (.dict (told b))) (h3 : alook l "names" = some (.ref na)) (h4 : σ na = some (.dict bk))
    (h5 : alook l "bits" = some (.int bits)) (h6 : alook l "digits" = some (.int g)) (hv : Dm v) (hb : 1 ≤ bits) (hb2 : bits ≤ 64) (hg : 3 ≤ g) (hg2 : g ≤ 10) (hbk : bk.length ≤ 1000) (hd : 6 ≤ d)
    (q : ∀ r, kp v (kindOf n b) bits g = .ok r → Q .none (upd σ na (.dict (aset bk n r)))) (qx : ∀ c, kp v (kindOf n b) bits g = .err c → X c σ) : CT w d (.ref 171) [.ref a, .str n, v] σ Q X := by
  refine' CT.more (CT.defn (d := ?d0) (names := ?n0) ?k1 ?k2 ?k3 ?k4 ?k5 ?_ ?c1 ?c2 ?c3) ?hd
  case k1 => k_is
  case k2 => k_is
  case c1 => exact rfl
  case c2 => exact rfl
  case c3 => exact rfl
  case n0 => exact ["world", "name", "value"]
  case k3 => intro s rvs hl; obtain ⟨a, b, c, rfl⟩ := len3 hl; exact BindsTo.of_eq rfl
  case d0 => exact 5
  case k4 => exact rfl
  case k5 => decide
  case hd => first | assumption | omega
  intro L'
  show WS _ _ _ _ [("value", v), ("name", .str n), ("world", .ref a)] _ _ _ _
  with_reducible refine WS.cons ?_
  with_reducible refine' WX.assign ?_ ?k1 ?k2 ?k3
  case k1 => exact rfl
  case k2 => exact rfl
  case k3 => exact rfl
  with_reducible refine' WE.callK ?k1 ?k2 ?k3 ?_ ?k4 ?k5 ?k6 ?k7
  case k1 => exact rfl
  case k2 => k_is
  case k3 => k_is
  case k4 => decide
  case k5 => exact rfl
  case k6 => exact rfl
  case k7 => intro _ _; exact rfl
  with_reducible refine' WL.cons ?_ ?k1
  case k1 => exact rfl
  with_reducible refine' WE.name ?k1 ?k2 ?_ ?k3
  case k1 => exact rfl
  case k2 => exact rfl
  case k3 => decide
  with_reducible refine' WL.cons ?_ ?k1
  case k1 => exact rfl
  with_reducible refine' WE.callK ?k1 ?k2 ?k3 ?_ ?k4 ?k5 ?k6 ?k7
  case k1 => exact rfl
  case k2 => k_is
  case k3 => k_is
  case k4 => decide
  case k5 => exact rfl
  case k6 => exact rfl
  case k7 => intro _ _; exact rfl
  with_reducible refine' WL.cons ?_ ?k1
  case k1 => exact rfl
  with_reducible refine' WE.name ?k1 ?k2 ?_ ?k3
  case k1 => exact rfl
  case k2 => exact rfl
  case k3 => decide
  with_reducible refine' WL.cons ?_ ?k1
  case k1 => exact rfl
  with_reducible refine' WE.name ?k1 ?k2 ?_ ?k3
  case k1 => exact rfl
  case k2 => exact rfl
  case k3 => decide
  with_reducible refine WL.nil ?_
  refine t_kind_here n1 n2 ha h1 h2 (by omega) ?_
  with_reducible refine' WL.cons ?_ ?k1
  case k1 => exact rfl
  with_reducible refine' WE.attr ?_ ?k1
  case k1 => exact rfl
  with_reducible refine' WE.name ?k1 ?k2 ?_ ?k3
  case k1 => exact rfl
  case k2 => exact rfl
  case k3 => decide
  refine ⟨_, _, _, _, rfl, worldCls w, af_bits w, ha, h5, ?_⟩
  with_reducible refine' WL.cons ?_ ?k1
  case k1 => exact rfl
  with_reducible refine' WE.attr ?_ ?k1
  case k1 => exact rfl
  with_reducible refine' WE.name ?k1 ?k2 ?_ ?k3
  case k1 => exact rfl
  case k2 => exact rfl
  case k3 => decide
  refine ⟨_, _, _, _, rfl, worldCls w, af_digits w, ha, h6, ?_⟩
  with_reducible refine WL.nil ?_
  refine t_suited (kindOf_or n b) hv hb hb2 hg hg2 (by omega) (fun r hr => ?_) qx
  with_reducible refine WA.sub ?_
  with_reducible refine' WE.attr ?_ ?k1
  case k1 => exact rfl
  with_reducible refine' WE.name ?k1 ?k2 ?_ ?k3
  case k1 => exact rfl
  case k2 => exact rfl
  case k3 => decide
  refine ⟨_, _, _, _, rfl, worldCls w, af_names w, ha, h3, ?_⟩
  with_reducible refine' WE.name ?k1 ?k2 ?_ ?k3
  case k1 => exact rfl
  case k2 => exact rfl
  case k3 => decide
  refine .inl ⟨_, _, _, rfl, rfl, h4, by omega, ?_⟩
  with_reducible refine WS.nil ?_
  exact q r hr
theorem t_put_row {a dx oa : Addr} {l : List (Str × V)} {rows : List V} {row text : Str} (ha : σ a = some (.inst dx l)) (h1 : alook l "out" = some (.ref oa)) (h2 : σ oa = some (.list rows)) (h3 : alook l "row" = some (.str row)) (hl : l.length ≤ 50) (hr : rows.length ≤ 1000) (h4 : row.length ≤ 1000) (h5 : text.length ≤ 1000) (hd : 1 ≤ d)
    (q : Q .none (upd (upd σ oa (.list (rows ++ [.str (row ++ text)]))) a (.inst dx (aset l "row" (.str ""))))) : CT w d (.ref 185) [.ref a, .str text] σ Q X := by
  refine' CT.more (CT.defn (d := ?d0) (names := ?n0) ?k1 ?k2 ?k3 ?k4 ?k5 ?_ ?c1 ?c2 ?c3) ?hd
  case k1 => k_is
  case k2 => k_is
  case c1 => exact rfl
  case c2 => exact rfl
  case c3 => exact rfl
  case n0 => exact ["world", "text"]
  case k3 => intro s rvs hl; obtain ⟨a, b, rfl⟩ := len2 hl; exact BindsTo.of_eq rfl
  case d0 => exact 0
  case k4 => exact rfl
  case k5 => decide
  case hd => first | assumption | omega
  intro L'
  show WS _ _ _ _ [("text", .str text), ("world", .ref a)] _ _ _ _
  with_reducible refine WS.cons ?_
  with_reducible refine' WX.expr ?_ ?k1 ?k2
  case k1 => exact rfl
  case k2 => exact rfl
  with_reducible refine' WE.append ?_ ?k1 ?k2 ?k3
  case k1 => exact rfl
  case k2 => exact rfl
  case k3 => exact rfl
  with_reducible refine' WE.attr ?_ ?k1
  case k1 => exact rfl
  with_reducible refine' WE.name ?k1 ?k2 ?_ ?k3
  case k1 => exact rfl
  case k2 => exact rfl
  case k3 => decide
  refine ⟨_, _, _, _, rfl, worldCls w, af_out w, ha, h1, _, rfl, ⟨_, h2⟩, ?_⟩
  with_reducible refine WE.bin ?_
  with_reducible refine' WE.attr ?_ ?k1
  case k1 => exact rfl
  with_reducible refine' WE.name ?k1 ?k2 ?_ ?k3
  case k1 => exact rfl
  case k2 => exact rfl
  case k3 => decide
  refine ⟨_, _, _, _, rfl, worldCls w, af_row w, ha, h3, ?_⟩
  with_reducible refine' WE.name ?k1 ?k2 ?_ ?k3
  case k1 => exact rfl
  case k2 => exact rfl
  case k3 => decide
  refine ⟨_, BinOk.cat (by rw [sizeLine_eq]; omega), ?_⟩
  refine ⟨_, h2, by omega, ?_⟩
  have hne : a ≠ oa := fun z => by rw [z, h2] at ha; cases ha
  with_reducible refine WS.cons ?_
  with_reducible refine' WX.assign ?_ ?k1 ?k2 ?k3
  case k1 => exact rfl
  case k2 => exact rfl
  case k3 => exact rfl
  with_reducible refine WE.str ?_
  with_reducible refine WA.attr ?_
  with_reducible refine' WE.name ?k1 ?k2 ?_ ?k3
  case k1 => exact rfl
  case k2 => exact rfl
  case k3 => decide
  refine ⟨_, _, _, rfl, worldCls w, af_row w, (upd_ne hne).trans ha, by omega, ?_⟩
  with_reducible refine WS.nil ?_
  exact q
theorem t_rows {a dx oa : Addr} {l : List (Str × V)} {rows : List V} {row : Str} (ha : σ a = some (.inst dx l)) (h1 : alook l "out" = some (.ref oa)) (h2 : σ oa = some (.list rows)) (h3 : alook l "row" = some (.str row)) (hrow : row ≠ "") (hr : rows.length ≤ 1000) (hd : 1 ≤ d)
    (q : ∀ c, σ c = none → Q (.ref c) (upd σ c (.list (rows ++ [.str row])))) : CT w d (.ref 192) [.ref a] σ Q X := by
  refine CT.shed ?_
  refine' CT.more (CT.defn (d := ?d0) (names := ?n0) ?k1 ?k2 ?k3 ?k4 ?k5 ?_ ?c1 ?c2 ?c3) ?hd
  case k1 => k_is
  case k2 => k_is
  case c1 => exact rfl
  case c2 => exact rfl
  case c3 => exact rfl
  case n0 => exact ["world"]
  case k3 => intro s rvs hl; obtain ⟨a, rfl⟩ := len1 hl; exact BindsTo.of_eq rfl
  case d0 => exact 0
  case k4 => exact rfl
  case k5 => decide
  case hd => first | assumption | omega
  intro L'
  show WS _ _ _ _ [("world", .ref a)] _ _ _ _
  refine WS.cons (WX.ret (WE.cat ?_))
  with_reducible refine' WE.attr ?_ ?k1
  case k1 => exact rfl
  with_reducible refine' WE.name ?k1 ?k2 ?_ ?k3
  case k1 => exact rfl
  case k2 => exact rfl
  case k3 => decide
  refine ⟨_, _, _, _, rfl, worldCls w, af_out w, ha, h1, ?_⟩
  with_reducible refine WE.ifexp ?_
  with_reducible refine' WT.cmp1 ?_ ?k1
  case k1 => exact rfl
  with_reducible refine' WE.attr ?_ ?k1
  case k1 => exact rfl
  with_reducible refine' WE.name ?k1 ?k2 ?_ ?k3
  case k1 => exact rfl
  case k2 => exact rfl
  case k3 => decide
  refine ⟨_, _, _, _, rfl, worldCls w, af_row w, ha, h3, ?_⟩
  with_reducible refine WE.str ?_
  with_reducible refine ⟨_, CmpOk.neS, ?_⟩
  rw [show (row != ("" : Str)) = true from by simpa using hrow]
  with_reducible refine (if_pos (rfl : true = true)).mpr ?_
  with_reducible refine WE.list ?_
  with_reducible refine' WL.cons ?_ ?k1
  case k1 => exact rfl
  with_reducible refine' WE.attr ?_ ?k1
  case k1 => exact rfl
  with_reducible refine' WE.name ?k1 ?k2 ?_ ?k3
  case k1 => exact rfl
  case k2 => exact rfl
  case k3 => decide
  refine ⟨_, _, _, _, rfl, worldCls w, af_row w, ha, h3, ?_⟩
  with_reducible refine WL.nil ?_
  with_reducible refine ⟨?k1, ?_⟩
  case k1 => exact Nat.le_of_ble_eq_true rfl
  intro c0 hc0
  have n0 : oa ≠ c0 := fun z => by rw [z, hc0] at h2; cases h2
  refine ⟨_, _, _, _, rfl, rfl, (upd_ne n0).trans h2, upd_self, by simp; omega, fun c hc => ?_⟩
  have n1 : c ≠ c0 := fun z => by rw [z, upd_self] at hc; cases hc
  rw [upd_ne n1] at hc
  refine ⟨_, fun b o e => ?_, q c hc⟩
  by_cases hb : b = c
  · subst hb
    rw [upd_self] at e ⊢
    exact e
  · rw [upd_ne hb] at e ⊢
    rw [upd_ne (fun z => by rw [z, hc0] at e; cases e)]
    exact e
end
section
variable {w : World} {σ : St} {Q : V → St → Prop} {X : Str → St → Prop} {d : Nat}
def AllInt (l : List V) : Prop := ∀ v ∈ l, ∃ i, v = .int i
theorem t_draw {ha sa : Addr} {sl : List V} {at' many : Nat} (h1 : σ ha = some (.list [.int at', .ref sa])) (h2 : σ sa = some (.list sl)) (hs : AllInt sl) (hl : sl.length ≤ 100) (hat : at' ≤ 100000) (hm : 0 < many) (hd : 1 ≤ d)
    (q : ∀ r : Nat, r < many → Q (.int r) (upd σ ha (.list [.int ((at' + 1 : Nat) : Int), .ref sa]))) : CT w d (.ref 206) [.ref ha, .int many] σ Q X := by
  refine' CT.more (CT.defn (d := ?d0) (names := ?n0) ?k1 ?k2 ?k3 ?k4 ?k5 ?_ ?c1 ?c2 ?c3) ?hd
  case k1 => k_is
  case k2 => k_is
  case c1 => exact rfl
  case c2 => exact rfl
  case c3 => exact rfl
  case n0 => exact ["hat", "many"]
  case k3 => intro s rvs hl; obtain ⟨a, b, rfl⟩ := len2 hl; exact BindsTo.of_eq rfl
  case d0 => exact 0
  case k4 => exact rfl
  case k5 => decide
  case hd => first | assumption | omega
  intro L'
  show WS _ _ _ _ [("many", .int many), ("hat", .ref ha)] _ _ _ _
  with_reducible refine WS.cons ?_
  with_reducible refine' WX.assign ?_ ?k1 ?k2 ?k3
  case k1 => exact rfl
  case k2 => exact rfl
  case k3 => exact rfl
  with_reducible refine' WE.sub ?_ ?k1
  case k1 => intro _ _; exact rfl
  with_reducible refine' WE.name ?k1 ?k2 ?_ ?k3
  case k1 => exact rfl
  case k2 => exact rfl
  case k3 => decide
  with_reducible refine WE.int ?_
  refine ⟨_, ItemOk.list h1 (by decide) (by decide) rfl, ?_⟩
  with_reducible refine' WA.name ?k1 ?_
  case k1 => exact rfl
  with_reducible refine WS.cons ?_
  with_reducible refine' WX.assign ?_ ?k1 ?k2 ?k3
  case k1 => exact rfl
  case k2 => exact rfl
  case k3 => exact rfl
  with_reducible refine WE.bin ?_
  with_reducible refine' WE.name ?k1 ?k2 ?_ ?k3
  case k1 => exact rfl
  case k2 => exact rfl
  case k3 => decide
  with_reducible refine WE.int ?_
  with_reducible refine ⟨_, BinOk.add, ?_⟩
  with_reducible refine WA.sub ?_
  with_reducible refine' WE.name ?k1 ?k2 ?_ ?k3
  case k1 => exact rfl
  case k2 => exact rfl
  case k3 => decide
  with_reducible refine WE.int ?_
  refine .inr ⟨_, _, _, rfl, rfl, h1, by decide, by simp, by decide, ?_⟩
  have e1 : List.set [V.int at', .ref sa] (Int.toNat 0) (.int (at' + 1)) = [.int ((at' + 1 : Nat) : Int), .ref sa] := by push_cast; rfl
  rw [e1]
  generalize hσ : upd σ ha (.list [.int ((at' + 1 : Nat) : Int), .ref sa]) = τ at *
  have hne : sa ≠ ha := fun z => by
    rw [z, h1] at h2; cases h2
    obtain ⟨i, hi⟩ := hs (.ref sa) (by simp)
    cases hi
  have t1 : τ ha = some (.list [.int ((at' + 1 : Nat) : Int), .ref sa]) := by subst hσ; exact upd_self
  have t2 : τ sa = some (.list sl) := by subst hσ; exact (upd_ne hne).trans h2
  with_reducible refine WS.cons ?_
  with_reducible refine WX.ret ?_
  with_reducible refine WE.ifexp ?_
  with_reducible refine' WT.cmp1 ?_ ?k1
  case k1 => exact rfl
  with_reducible refine' WE.name ?k1 ?k2 ?_ ?k3
  case k1 => exact rfl
  case k2 => exact rfl
  case k3 => decide
  with_reducible refine' WE.callB ?k1 ?k2 ?k3 ?k8 ?k9 ?_ ?k4 ?k5 ?k6 ?k7
  case k1 => exact rfl
  case k2 => k_is
  case k3 => boot_fast
  case k8 => decide
  case k9 => exact rfl
  case k4 => decide
  case k5 => exact rfl
  case k6 => exact rfl
  case k7 => intro _ _; exact rfl
  with_reducible refine' WL.cons ?_ ?k1
  case k1 => exact rfl
  with_reducible refine' WE.sub ?_ ?k1
  case k1 => intro _ _; exact rfl
  with_reducible refine' WE.name ?k1 ?k2 ?_ ?k3
  case k1 => exact rfl
  case k2 => exact rfl
  case k3 => decide
  with_reducible refine WE.int ?_
  refine ⟨_, ItemOk.list t1 (by decide) (by decide) rfl, ?_⟩
  with_reducible refine WL.nil ?_
  refine CT.lenL t2 (by omega) ?_
  with_reducible refine ⟨_, CmpOk.ltI, ?_⟩
  refine ite_dec (fun h => ?_) (fun h => ?_)
  · with_reducible refine WE.bin ?_
    with_reducible refine' WE.callB ?k1 ?k2 ?k3 ?k8 ?k9 ?_ ?k4 ?k5 ?k6 ?k7
    case k1 => exact rfl
    case k2 => k_is
    case k3 => boot_fast
    case k8 => decide
    case k9 => exact rfl
    case k4 => decide
    case k5 => exact rfl
    case k6 => exact rfl
    case k7 => intro _ _; exact rfl
    with_reducible refine' WL.cons ?_ ?k1
    case k1 => exact rfl
    with_reducible refine' WE.sub ?_ ?k1
    case k1 => intro _ _; exact rfl
    with_reducible refine' WE.sub ?_ ?k1
    case k1 => intro _ _; exact rfl
    with_reducible refine' WE.name ?k1 ?k2 ?_ ?k3
    case k1 => exact rfl
    case k2 => exact rfl
    case k3 => decide
    with_reducible refine WE.int ?_
    refine ⟨_, ItemOk.list t1 (by decide) (by decide) rfl, ?_⟩
    with_reducible refine' WE.name ?k1 ?k2 ?_ ?k3
    case k1 => exact rfl
    case k2 => exact rfl
    case k3 => decide
    obtain ⟨v, hv⟩ : ∃ v, sl[at']? = some v := ⟨_, List.getElem?_eq_getElem (by omega)⟩
    obtain ⟨i, rfl⟩ := hs v (List.mem_of_getElem? hv)
    refine ⟨_, ItemOk.list t2 (by omega) (by omega) (by rw [Int.toNat_natCast]; exact hv), ?_⟩
    with_reducible refine WL.nil ?_
    with_reducible refine CT.absN ?_
    with_reducible refine' WE.name ?k1 ?k2 ?_ ?k3
    case k1 => exact rfl
    case k2 => exact rfl
    case k3 => decide
    exact ⟨_, BinOk.modN hm, q _ (Nat.mod_lt _ hm)⟩
  · with_reducible refine WE.bin ?_
    with_reducible refine WE.bin ?_
    with_reducible refine WE.bin ?_
    with_reducible refine WE.bin ?_
    with_reducible refine WE.int ?_
    with_reducible refine' WE.name ?k1 ?k2 ?_ ?k3
    case k1 => exact rfl
    case k2 => exact rfl
    case k3 => decide
    refine ⟨_, BinOk.mul (by decide) (by decide), ?_⟩
    with_reducible refine WE.bin ?_
    with_reducible refine' WE.name ?k1 ?k2 ?_ ?k3
    case k1 => exact rfl
    case k2 => exact rfl
    case k3 => decide
    with_reducible refine WE.int ?_
    refine ⟨_, BinOk.divN (b := 4) (by decide) (pow10_lt (p := 1) (by decide) |> Nat.lt_trans (by decide)), ?_⟩
    with_reducible refine ⟨_, BinOk.add, ?_⟩
    with_reducible refine WE.int ?_
    with_reducible refine ⟨_, BinOk.add, ?_⟩
    with_reducible refine' WE.name ?k1 ?k2 ?_ ?k3
    case k1 => exact rfl
    case k2 => exact rfl
    case k3 => decide
    have e2 : 7 * (at' : Int) + ((at' / 4 : Nat) : Int) + 2 = ((7 * at' + at' / 4 + 2 : Nat) : Int) := by push_cast; rfl
    rw [e2]
    exact ⟨_, BinOk.modN hm, q _ (Nat.mod_lt _ hm)⟩
theorem x_slice {k : Nat} (h : k < 5) : Txt.slice (Txt.mul "x" (k : Int)) none (some 6) ≠ "error " := by
  match k, h with
  | 0, _ => decide +kernel
  | 1, _ => decide +kernel
  | 2, _ => decide +kernel
  | 3, _ => decide +kernel
  | 4, _ => decide +kernel
theorem long_slice : Txt.slice (Txt.mul "long" 64) none (some 6) ≠ "error " := by decide +kernel
theorem t_value {ha sa : Addr} {sl : List V} {at' : Nat} (h1 : σ ha = some (.list [.int at', .ref sa])) (h2 : σ sa = some (.list sl)) (hs : AllInt sl) (hl : sl.length ≤ 100) (hat : at' ≤ 10000) (hd : 2 ≤ d)
    (q : ∀ v, Dm v → Q v (upd σ ha (.list [.int ((at' + 2 : Nat) : Int), .ref sa]))) : CT w d (.ref 241) [.ref ha] σ Q X := by
  refine CT.shed ?_
  refine' CT.more (CT.defn (d := ?d0) (names := ?n0) ?k1 ?k2 ?k3 ?k4 ?k5 ?_ ?c1 ?c2 ?c3) ?hd
  case k1 => k_is
  case k2 => k_is
  case c1 => exact rfl
  case c2 => exact rfl
  case c3 => exact rfl
  case n0 => exact ["hat"]
  case k3 => intro s rvs hl; obtain ⟨a, rfl⟩ := len1 hl; exact BindsTo.of_eq rfl
  case d0 => exact 1
  case k4 => exact rfl
  case k5 => decide
  case hd => first | assumption | omega
  intro L'
  show WS _ _ _ _ [("hat", .ref ha)] _ _ _ _
  have hne : sa ≠ ha := fun z => by
    rw [z, h1] at h2; cases h2
    obtain ⟨i, hi⟩ := hs (.ref sa) (by simp)
    cases hi
  with_reducible refine WS.cons ?_
  with_reducible refine' WX.assign ?_ ?k1 ?k2 ?k3
  case k1 => exact rfl
  case k2 => exact rfl
  case k3 => exact rfl
  with_reducible refine' WE.callK ?k1 ?k2 ?k3 ?_ ?k4 ?k5 ?k6 ?k7
  case k1 => exact rfl
  case k2 => k_is
  case k3 => k_is
  case k4 => decide
  case k5 => exact rfl
  case k6 => exact rfl
  case k7 => intro _ _; exact rfl
  with_reducible refine' WL.cons ?_ ?k1
  case k1 => exact rfl
  with_reducible refine' WE.name ?k1 ?k2 ?_ ?k3
  case k1 => exact rfl
  case k2 => exact rfl
  case k3 => decide
  with_reducible refine' WL.cons ?_ ?k1
  case k1 => exact rfl
  with_reducible refine WE.int ?_
  with_reducible refine WL.nil ?_
  refine t_draw (many := 100000) h1 h2 hs hl (by omega) (by decide) (by omega) fun n hn => ?_
  with_reducible refine' WA.name ?k1 ?_
  case k1 => exact rfl
  with_reducible refine WS.cons ?_
  with_reducible refine WX.ret ?_
  with_reducible refine' WE.sub ?_ ?k1
  case k1 => intro _ _; exact rfl
  with_reducible refine WE.list ?_
  with_reducible refine' WL.cons ?_ ?k1
  case k1 => exact rfl
  with_reducible refine WE.bin ?_
  with_reducible refine' WE.name ?k1 ?k2 ?_ ?k3
  case k1 => exact rfl
  case k2 => exact rfl
  case k3 => decide
  with_reducible refine WE.int ?_
  refine ⟨_, BinOk.modN (b := 128) (by decide), ?_⟩
  with_reducible refine' WL.cons ?_ ?k1
  case k1 => exact rfl
  with_reducible refine WE.bin ?_
  with_reducible refine WE.int ?_
  with_reducible refine WE.bin ?_
  with_reducible refine' WE.name ?k1 ?k2 ?_ ?k3
  case k1 => exact rfl
  case k2 => exact rfl
  case k3 => decide
  with_reducible refine WE.int ?_
  refine ⟨_, BinOk.modN (b := 129) (by decide), ?_⟩
  with_reducible refine ⟨_, BinOk.sub, ?_⟩
  with_reducible refine' WL.cons ?_ ?k1
  case k1 => exact rfl
  with_reducible refine WE.tup ?_
  with_reducible refine' WL.cons ?_ ?k1
  case k1 => exact rfl
  with_reducible refine WE.bin ?_
  with_reducible refine WE.bin ?_
  with_reducible refine WE.int ?_
  with_reducible refine' WE.name ?k1 ?k2 ?_ ?k3
  case k1 => exact rfl
  case k2 => exact rfl
  case k3 => decide
  refine ⟨_, BinOk.mul (by decide) (by decide), ?_⟩
  with_reducible refine WE.int ?_
  with_reducible refine ⟨_, BinOk.add, ?_⟩
  with_reducible refine' WL.cons ?_ ?k1
  case k1 => exact rfl
  with_reducible refine WE.bin ?_
  with_reducible refine WE.bin ?_
  with_reducible refine WE.int ?_
  with_reducible refine WE.int ?_
  with_reducible refine ⟨_, BinOk.sub, ?_⟩
  with_reducible refine WE.bin ?_
  with_reducible refine' WE.name ?k1 ?k2 ?_ ?k3
  case k1 => exact rfl
  case k2 => exact rfl
  case k3 => decide
  with_reducible refine WE.int ?_
  refine ⟨_, BinOk.modN (b := 4) (by decide), ?_⟩
  with_reducible refine ⟨_, BinOk.sub, ?_⟩
  with_reducible refine WL.nil ?_
  with_reducible refine ⟨?k1, ?_⟩
  case k1 => exact Nat.le_of_ble_eq_true rfl
  with_reducible refine' WL.cons ?_ ?k1
  case k1 => exact rfl
  with_reducible refine WE.tup ?_
  with_reducible refine' WL.cons ?_ ?k1
  case k1 => exact rfl
  with_reducible refine WE.bin ?_
  with_reducible refine WE.bin ?_
  with_reducible refine WE.int ?_
  with_reducible refine' WE.name ?k1 ?k2 ?_ ?k3
  case k1 => exact rfl
  case k2 => exact rfl
  case k3 => decide
  refine ⟨_, BinOk.mul (by decide) (by decide), ?_⟩
  with_reducible refine WE.int ?_
  with_reducible refine ⟨_, BinOk.sub, ?_⟩
  with_reducible refine' WL.cons ?_ ?k1
  case k1 => exact rfl
  with_reducible refine WE.bin ?_
  with_reducible refine WE.int ?_
  with_reducible refine WE.int ?_
  with_reducible refine ⟨_, BinOk.sub, ?_⟩
  with_reducible refine WL.nil ?_
  with_reducible refine ⟨?k1, ?_⟩
  case k1 => exact Nat.le_of_ble_eq_true rfl
  with_reducible refine' WL.cons ?_ ?k1
  case k1 => exact rfl
  with_reducible refine WE.bin ?_
  with_reducible refine WE.str ?_
  with_reducible refine WE.bin ?_
  with_reducible refine' WE.name ?k1 ?k2 ?_ ?k3
  case k1 => exact rfl
  case k2 => exact rfl
  case k3 => decide
  with_reducible refine WE.int ?_
  refine ⟨_, BinOk.modN (b := 5) (by decide), ?_⟩
  have m5 : n % 5 < 5 := Nat.mod_lt _ (by decide)
  refine ⟨_, BinOk.rep (mulOk_of 1 5 (by decide) (by omega) (by omega) (by decide) (by decide)), ?_⟩
  with_reducible refine' WL.cons ?_ ?k1
  case k1 => exact rfl
  with_reducible refine WE.bin ?_
  with_reducible refine WE.str ?_
  with_reducible refine WE.int ?_
  refine ⟨_, BinOk.rep (mulOk_of 4 64 (by decide) (by decide) (by decide) (by decide) (by decide)), ?_⟩
  with_reducible refine' WL.cons ?_ ?k1
  case k1 => exact rfl
  with_reducible refine WE.tup ?_
  with_reducible refine' WL.cons ?_ ?k1
  case k1 => exact rfl
  with_reducible refine WE.bin ?_
  with_reducible refine WE.bin ?_
  with_reducible refine' WE.name ?k1 ?k2 ?_ ?k3
  case k1 => exact rfl
  case k2 => exact rfl
  case k3 => decide
  with_reducible refine WE.int ?_
  refine ⟨_, BinOk.modN (b := 9) (by decide), ?_⟩
  with_reducible refine WE.int ?_
  with_reducible refine ⟨_, BinOk.add, ?_⟩
  with_reducible refine' WL.cons ?_ ?k1
  case k1 => exact rfl
  with_reducible refine WE.int ?_
  with_reducible refine WL.nil ?_
  with_reducible refine ⟨?k1, ?_⟩
  case k1 => exact Nat.le_of_ble_eq_true rfl
  with_reducible refine WL.nil ?_
  with_reducible refine ⟨?k1, ?_⟩
  case k1 => exact Nat.le_of_ble_eq_true rfl
  intro a ha0
  generalize hτ : upd σ ha (.list [.int ((at' + 1 : Nat) : Int), .ref sa]) = τ at *
  have t1 : τ ha = some (.list [.int ((at' + 1 : Nat) : Int), .ref sa]) := by subst hτ; exact upd_self
  have t2 : τ sa = some (.list sl) := by subst hτ; exact (upd_ne hne).trans h2
  have n1 : ha ≠ a := fun z => by rw [z, ha0] at t1; cases t1
  have n2 : sa ≠ a := fun z => by rw [z, ha0] at t2; cases t2
  with_reducible refine' WE.callK ?k1 ?k2 ?k3 ?_ ?k4 ?k5 ?k6 ?k7
  case k1 => exact rfl
  case k2 => k_is
  case k3 => k_is
  case k4 => decide
  case k5 => exact rfl
  case k6 => exact rfl
  case k7 => intro _ _; exact rfl
  with_reducible refine' WL.cons ?_ ?k1
  case k1 => exact rfl
  with_reducible refine' WE.name ?k1 ?k2 ?_ ?k3
  case k1 => exact rfl
  case k2 => exact rfl
  case k3 => decide
  with_reducible refine' WL.cons ?_ ?k1
  case k1 => exact rfl
  with_reducible refine WE.int ?_
  with_reducible refine WL.nil ?_
  refine t_draw (many := 7) ((upd_ne n1).trans t1) ((upd_ne n2).trans t2) hs hl (by omega) (by decide) (by omega) fun r hr => ?_
  have fin : ∀ v, Dm v → ∃ σ'', (∀ b o, σ'' b = some o → (upd (upd τ a (.list [.int ((n % 128 : Nat) : Int), .int (0 - ((n % 129 : Nat) : Int)), .tup [.int (2 * (n : Int) + 1), .int (0 - 1 - ((n % 4 : Nat) : Int))], .tup [.int (10 * (n : Int) - 25), .int (0 - 1)], .str (Txt.mul "x" ((n % 5 : Nat) : Int)), .str (Txt.mul "long" 64), .tup [.int (((n % 9 : Nat) : Int) + 1), .int 5]])) ha (.list [.int ((at' + 1 + 1 : Nat) : Int), .ref sa])) b = some o) ∧ Q v σ'' := fun v hv => ⟨_, fun b o e => ?_, q v hv⟩
  · obtain ⟨v, hv, dv⟩ : ∃ v, ([.int ((n % 128 : Nat) : Int), .int (0 - ((n % 129 : Nat) : Int)), .tup [.int (2 * (n : Int) + 1), .int (0 - 1 - ((n % 4 : Nat) : Int))], .tup [.int (10 * (n : Int) - 25), .int (0 - 1)], .str (Txt.mul "x" ((n % 5 : Nat) : Int)), .str (Txt.mul "long" 64), .tup [.int (((n % 9 : Nat) : Int) + 1), .int 5]] : List V)[r]? = some v ∧ Dm v := by
      have m1 := Nat.mod_lt n (show 0 < 128 by decide)
      have m2 := Nat.mod_lt n (show 0 < 129 by decide)
      have m3 := Nat.mod_lt n (show 0 < 4 by decide)
      have m4 := Nat.mod_lt n (show 0 < 9 by decide)
      match r, hr with
      | 0, _ => exact ⟨_, rfl, .int (by omega)⟩
      | 1, _ => exact ⟨_, rfl, .int (by omega)⟩
      | 2, _ => exact ⟨_, rfl, .pair (by omega) (by omega)⟩
      | 3, _ => exact ⟨_, rfl, .pair (by omega) (by omega)⟩
      | 4, _ => exact ⟨_, rfl, .str (Nat.le_trans (len_mul_leN (L := 1) (N := 5) (by decide) (by omega)) (by decide)) (x_slice m5)⟩
      | 5, _ => exact ⟨_, rfl, .str (Nat.le_trans (len_mul_leN (L := 4) (N := 64) (by decide) (by decide)) (by decide)) long_slice⟩
      | 6, _ => exact ⟨_, rfl, .pair (by omega) (by omega)⟩
    exact ⟨v, ItemOk.list ((upd_ne (fun z => n1 z.symm)).trans upd_self) (by omega) (by omega) (by rw [Int.toNat_natCast]; exact hv), fin v dv⟩
  · by_cases hb : b = ha
    · subst hb
      rw [upd_self] at e ⊢
      exact e
    · rw [upd_ne hb] at e ⊢
      have hba : b ≠ a := fun z => by
        subst hτ
        rw [upd_ne (z ▸ hb), ← z] at ha0
        rw [e] at ha0; cases ha0
      rw [upd_ne hba]
      subst hτ
      rw [upd_ne hb]
      exact e
end
section
variable {w : World} {σ : St} {Q : V → St → Prop} {X : Str → St → Prop} {d : Nat}
structure Wd where
  bits : V
  digits : V
  most_steps : V
  most_depth : V
  room : V
  names : V
  arrays : V
  kinds : V
  fns : V
  out : V
  row : V
  inputs : V
  files : V
  opened : V
  fields : V
  data : V
  spot : V
  base : V
  seed : V
  steps : V
  depth : V
  handler : V
  is_handling : V
  error_line : V
  error_code : V
  is_traced : V
  traces : V
  common : V
def wl (r : Wd) : List (Str × V) := [("bits", r.bits), ("digits", r.digits), ("most_steps", r.most_steps), ("most_depth", r.most_depth), ("room", r.room), ("names", r.names), ("arrays", r.arrays), ("kinds", r.kinds), ("fns", r.fns), ("out", r.out), ("row", r.row), ("inputs", r.inputs), ("files", r.files), ("open", r.opened), ("fields", r.fields), ("data", r.data), ("spot", r.spot), ("base", r.base), ("seed", r.seed), ("steps", r.steps), ("depth", r.depth), ("handler", r.handler), ("is_handling", r.is_handling), ("error_line", r.error_line), ("error_code", r.error_code), ("is_traced", r.is_traced), ("traces", r.traces), ("common", r.common)]
theorem af_most_depth (w : World) : AttrFree w "most_depth" := by constructor <;> k_is
theorem af_room (w : World) : AttrFree w "room" := by constructor <;> k_is
theorem af_arrays (w : World) : AttrFree w "arrays" := by constructor <;> k_is
theorem af_fns (w : World) : AttrFree w "fns" := by constructor <;> k_is
theorem af_inputs (w : World) : AttrFree w "inputs" := by constructor <;> k_is
theorem af_files (w : World) : AttrFree w "files" := by constructor <;> k_is
theorem af_open (w : World) : AttrFree w "open" := by constructor <;> k_is
theorem af_fields (w : World) : AttrFree w "fields" := by constructor <;> k_is
theorem af_data (w : World) : AttrFree w "data" := by constructor <;> k_is
theorem af_spot (w : World) : AttrFree w "spot" := by constructor <;> k_is
theorem af_base (w : World) : AttrFree w "base" := by constructor <;> k_is
theorem af_seed (w : World) : AttrFree w "seed" := by constructor <;> k_is
theorem af_depth (w : World) : AttrFree w "depth" := by constructor <;> k_is
theorem af_handler (w : World) : AttrFree w "handler" := by constructor <;> k_is
theorem af_is_handling (w : World) : AttrFree w "is_handling" := by constructor <;> k_is
theorem af_error_line (w : World) : AttrFree w "error_line" := by constructor <;> k_is
theorem af_error_code (w : World) : AttrFree w "error_code" := by constructor <;> k_is
theorem af_is_traced (w : World) : AttrFree w "is_traced" := by constructor <;> k_is
theorem af_traces (w : World) : AttrFree w "traces" := by constructor <;> k_is
theorem af_common (w : World) : AttrFree w "common" := by constructor <;> k_is
theorem aset_bits {r : Wd} {v : V} : aset (wl r) "bits" v = wl { r with bits := v } := rfl
theorem aset_digits {r : Wd} {v : V} : aset (wl r) "digits" v = wl { r with digits := v } := rfl
theorem aset_most_steps {r : Wd} {v : V} : aset (wl r) "most_steps" v = wl { r with most_steps := v } := rfl
theorem aset_most_depth {r : Wd} {v : V} : aset (wl r) "most_depth" v = wl { r with most_depth := v } := rfl
theorem aset_room {r : Wd} {v : V} : aset (wl r) "room" v = wl { r with room := v } := rfl
theorem aset_names {r : Wd} {v : V} : aset (wl r) "names" v = wl { r with names := v } := rfl
theorem aset_arrays {r : Wd} {v : V} : aset (wl r) "arrays" v = wl { r with arrays := v } := rfl
theorem aset_kinds {r : Wd} {v : V} : aset (wl r) "kinds" v = wl { r with kinds := v } := rfl
theorem aset_fns {r : Wd} {v : V} : aset (wl r) "fns" v = wl { r with fns := v } := rfl
theorem aset_out {r : Wd} {v : V} : aset (wl r) "out" v = wl { r with out := v } := rfl
theorem aset_row {r : Wd} {v : V} : aset (wl r) "row" v = wl { r with row := v } := rfl
theorem aset_inputs {r : Wd} {v : V} : aset (wl r) "inputs" v = wl { r with inputs := v } := rfl
theorem aset_files {r : Wd} {v : V} : aset (wl r) "files" v = wl { r with files := v } := rfl
theorem aset_open {r : Wd} {v : V} : aset (wl r) "open" v = wl { r with opened := v } := rfl
theorem aset_fields {r : Wd} {v : V} : aset (wl r) "fields" v = wl { r with fields := v } := rfl
theorem aset_data {r : Wd} {v : V} : aset (wl r) "data" v = wl { r with data := v } := rfl
theorem aset_spot {r : Wd} {v : V} : aset (wl r) "spot" v = wl { r with spot := v } := rfl
theorem aset_base {r : Wd} {v : V} : aset (wl r) "base" v = wl { r with base := v } := rfl
theorem aset_seed {r : Wd} {v : V} : aset (wl r) "seed" v = wl { r with seed := v } := rfl
theorem aset_steps {r : Wd} {v : V} : aset (wl r) "steps" v = wl { r with steps := v } := rfl
theorem aset_depth {r : Wd} {v : V} : aset (wl r) "depth" v = wl { r with depth := v } := rfl
theorem aset_handler {r : Wd} {v : V} : aset (wl r) "handler" v = wl { r with handler := v } := rfl
theorem aset_is_handling {r : Wd} {v : V} : aset (wl r) "is_handling" v = wl { r with is_handling := v } := rfl
theorem aset_error_line {r : Wd} {v : V} : aset (wl r) "error_line" v = wl { r with error_line := v } := rfl
theorem aset_error_code {r : Wd} {v : V} : aset (wl r) "error_code" v = wl { r with error_code := v } := rfl
theorem aset_is_traced {r : Wd} {v : V} : aset (wl r) "is_traced" v = wl { r with is_traced := v } := rfl
theorem aset_traces {r : Wd} {v : V} : aset (wl r) "traces" v = wl { r with traces := v } := rfl
theorem aset_common {r : Wd} {v : V} : aset (wl r) "common" v = wl { r with common := v } := rfl
theorem upd_upd {σ : St} {a : Addr} {o o' : O} : upd (upd σ a o) a o' = upd σ a o' := by
  funext b
  unfold upd
  split <;> rfl
theorem t_clear {a dx : Addr} {r : Wd} (ha : σ a = some (.inst dx (wl r))) (hd : 1 ≤ d)
    (q : ∀ n1 n2 n3 n4 n5 (σ' : St), σ n1 = none → σ n3 = none → n1 ≠ n3 → σ' n1 = some (.dict []) → σ' n3 = some (.dict []) →
      σ' a = some (.inst dx (wl { r with names := .ref n1, arrays := .ref n2, kinds := .ref n3, fns := .ref n4, spot := .int 0, base := .int 0, seed := .int 1, handler := .int 0, is_handling := .bool false, error_line := .int 0, error_code := .str "", common := .ref n5 })) →
      (∀ b o, b ≠ a → σ b = some o → σ' b = some o) → Q .none σ') : CT w d (.ref 178) [.ref a] σ Q X := by
  refine' CT.more (CT.defn (d := ?d0) (names := ?n0) ?k1 ?k2 ?k3 ?k4 ?k5 ?_ ?c1 ?c2 ?c3) ?hd
  case k1 => k_is
  case k2 => k_is
  case c1 => exact rfl
  case c2 => exact rfl
  case c3 => exact rfl
  case n0 => exact ["world"]
  case k3 => intro s rvs hl; obtain ⟨a, rfl⟩ := len1 hl; exact BindsTo.of_eq rfl
  case d0 => exact 0
  case k4 => exact rfl
  case k5 => decide
  case hd => first | assumption | omega
  intro L'
  show WS _ _ _ _ [("world", .ref a)] _ _ _ _
  with_reducible refine WS.cons ?_
  with_reducible refine' WX.assign ?_ ?k1 ?k2 ?k3
  case k1 => exact rfl
  case k2 => exact rfl
  case k3 => exact rfl
  with_reducible refine WE.tup ?_
  with_reducible refine' WL.cons ?_ ?k1
  case k1 => exact rfl
  with_reducible refine WE.dict0 ?_
  intro n1 h1
  with_reducible refine' WL.cons ?_ ?k1
  case k1 => exact rfl
  with_reducible refine WE.dict0 ?_
  intro n2 h2
  with_reducible refine' WL.cons ?_ ?k1
  case k1 => exact rfl
  with_reducible refine WE.dict0 ?_
  intro n3 h3
  with_reducible refine' WL.cons ?_ ?k1
  case k1 => exact rfl
  with_reducible refine WE.dict0 ?_
  intro n4 h4
  with_reducible refine WL.nil ?_
  with_reducible refine ⟨?k1, ?_⟩
  case k1 => exact Nat.le_of_ble_eq_true rfl
  with_reducible refine' WA.tup ?k1 ?k2 ?_
  case k1 => exact rfl
  case k2 => exact rfl
  with_reducible refine' WAs.cons ?_ ?k1
  case k1 => exact rfl
  with_reducible refine WA.attr ?_
  with_reducible refine' WE.name ?k1 ?k2 ?_ ?k3
  case k1 => exact rfl
  case k2 => exact rfl
  case k3 => decide
  generalize hτ : upd (upd (upd (upd σ n1 (.dict [])) n2 (.dict [])) n3 (.dict [])) n4 (.dict []) = τ at *
  have ht : τ a = some (.inst dx (wl r)) := by
    have na : ∀ {ρ : St} {n : Addr}, ρ a = some (.inst dx (wl r)) → ρ n = none → a ≠ n := fun e1 e2 z => by rw [← z, e1] at e2; cases e2
    have a1 := (upd_ne (o := .dict []) (na ha h1)).trans ha
    have a2 := (upd_ne (o := .dict []) (na a1 h2)).trans a1
    have a3 := (upd_ne (o := .dict []) (na a2 h3)).trans a2
    have a4 := (upd_ne (o := .dict []) (na a3 h4)).trans a3
    rw [← hτ]; exact a4
  refine ⟨_, _, _, rfl, worldCls w, af_names w, ht, Nat.le_of_ble_eq_true rfl, ?_⟩
  rw [aset_names]
  try dsimp only
  with_reducible refine' WAs.cons ?_ ?k1
  case k1 => exact rfl
  with_reducible refine WA.attr ?_
  with_reducible refine' WE.name ?k1 ?k2 ?_ ?k3
  case k1 => exact rfl
  case k2 => exact rfl
  case k3 => decide
  refine ⟨_, _, _, rfl, worldCls w, af_arrays w, upd_self, Nat.le_of_ble_eq_true rfl, ?_⟩
  rw [upd_upd, aset_arrays]
  try dsimp only
  with_reducible refine' WAs.cons ?_ ?k1
  case k1 => exact rfl
  with_reducible refine WA.attr ?_
  with_reducible refine' WE.name ?k1 ?k2 ?_ ?k3
  case k1 => exact rfl
  case k2 => exact rfl
  case k3 => decide
  refine ⟨_, _, _, rfl, worldCls w, af_kinds w, upd_self, Nat.le_of_ble_eq_true rfl, ?_⟩
  rw [upd_upd, aset_kinds]
  try dsimp only
  with_reducible refine' WAs.cons ?_ ?k1
  case k1 => exact rfl
  with_reducible refine WA.attr ?_
  with_reducible refine' WE.name ?k1 ?k2 ?_ ?k3
  case k1 => exact rfl
  case k2 => exact rfl
  case k3 => decide
  refine ⟨_, _, _, rfl, worldCls w, af_fns w, upd_self, Nat.le_of_ble_eq_true rfl, ?_⟩
  rw [upd_upd, aset_fns]
  try dsimp only
  with_reducible refine WAs.nil ?_
  with_reducible refine WS.cons ?_
  with_reducible refine' WX.assign ?_ ?k1 ?k2 ?k3
  case k1 => exact rfl
  case k2 => exact rfl
  case k3 => exact rfl
  with_reducible refine WE.tup ?_
  with_reducible refine' WL.cons ?_ ?k1
  case k1 => exact rfl
  with_reducible refine WE.int ?_
  with_reducible refine' WL.cons ?_ ?k1
  case k1 => exact rfl
  with_reducible refine WE.int ?_
  with_reducible refine' WL.cons ?_ ?k1
  case k1 => exact rfl
  with_reducible refine WE.int ?_
  with_reducible refine WL.nil ?_
  with_reducible refine ⟨?k1, ?_⟩
  case k1 => exact Nat.le_of_ble_eq_true rfl
  with_reducible refine' WA.tup ?k1 ?k2 ?_
  case k1 => exact rfl
  case k2 => exact rfl
  with_reducible refine' WAs.cons ?_ ?k1
  case k1 => exact rfl
  with_reducible refine WA.attr ?_
  with_reducible refine' WE.name ?k1 ?k2 ?_ ?k3
  case k1 => exact rfl
  case k2 => exact rfl
  case k3 => decide
  refine ⟨_, _, _, rfl, worldCls w, af_spot w, upd_self, Nat.le_of_ble_eq_true rfl, ?_⟩
  rw [upd_upd, aset_spot]
  try dsimp only
  with_reducible refine' WAs.cons ?_ ?k1
  case k1 => exact rfl
  with_reducible refine WA.attr ?_
  with_reducible refine' WE.name ?k1 ?k2 ?_ ?k3
  case k1 => exact rfl
  case k2 => exact rfl
  case k3 => decide
  refine ⟨_, _, _, rfl, worldCls w, af_base w, upd_self, Nat.le_of_ble_eq_true rfl, ?_⟩
  rw [upd_upd, aset_base]
  try dsimp only
  with_reducible refine' WAs.cons ?_ ?k1
  case k1 => exact rfl
  with_reducible refine WA.attr ?_
  with_reducible refine' WE.name ?k1 ?k2 ?_ ?k3
  case k1 => exact rfl
  case k2 => exact rfl
  case k3 => decide
  refine ⟨_, _, _, rfl, worldCls w, af_seed w, upd_self, Nat.le_of_ble_eq_true rfl, ?_⟩
  rw [upd_upd, aset_seed]
  try dsimp only
  with_reducible refine WAs.nil ?_
  with_reducible refine WS.cons ?_
  with_reducible refine' WX.assign ?_ ?k1 ?k2 ?k3
  case k1 => exact rfl
  case k2 => exact rfl
  case k3 => exact rfl
  with_reducible refine WE.tup ?_
  with_reducible refine' WL.cons ?_ ?k1
  case k1 => exact rfl
  with_reducible refine WE.int ?_
  with_reducible refine' WL.cons ?_ ?k1
  case k1 => exact rfl
  with_reducible refine WE.bool ?_
  with_reducible refine' WL.cons ?_ ?k1
  case k1 => exact rfl
  with_reducible refine WE.int ?_
  with_reducible refine' WL.cons ?_ ?k1
  case k1 => exact rfl
  with_reducible refine WE.str ?_
  with_reducible refine WL.nil ?_
  with_reducible refine ⟨?k1, ?_⟩
  case k1 => exact Nat.le_of_ble_eq_true rfl
  with_reducible refine' WA.tup ?k1 ?k2 ?_
  case k1 => exact rfl
  case k2 => exact rfl
  with_reducible refine' WAs.cons ?_ ?k1
  case k1 => exact rfl
  with_reducible refine WA.attr ?_
  with_reducible refine' WE.name ?k1 ?k2 ?_ ?k3
  case k1 => exact rfl
  case k2 => exact rfl
  case k3 => decide
  refine ⟨_, _, _, rfl, worldCls w, af_handler w, upd_self, Nat.le_of_ble_eq_true rfl, ?_⟩
  rw [upd_upd, aset_handler]
  try dsimp only
  with_reducible refine' WAs.cons ?_ ?k1
  case k1 => exact rfl
  with_reducible refine WA.attr ?_
  with_reducible refine' WE.name ?k1 ?k2 ?_ ?k3
  case k1 => exact rfl
  case k2 => exact rfl
  case k3 => decide
  refine ⟨_, _, _, rfl, worldCls w, af_is_handling w, upd_self, Nat.le_of_ble_eq_true rfl, ?_⟩
  rw [upd_upd, aset_is_handling]
  try dsimp only
  with_reducible refine' WAs.cons ?_ ?k1
  case k1 => exact rfl
  with_reducible refine WA.attr ?_
  with_reducible refine' WE.name ?k1 ?k2 ?_ ?k3
  case k1 => exact rfl
  case k2 => exact rfl
  case k3 => decide
  refine ⟨_, _, _, rfl, worldCls w, af_error_line w, upd_self, Nat.le_of_ble_eq_true rfl, ?_⟩
  rw [upd_upd, aset_error_line]
  try dsimp only
  with_reducible refine' WAs.cons ?_ ?k1
  case k1 => exact rfl
  with_reducible refine WA.attr ?_
  with_reducible refine' WE.name ?k1 ?k2 ?_ ?k3
  case k1 => exact rfl
  case k2 => exact rfl
  case k3 => decide
  refine ⟨_, _, _, rfl, worldCls w, af_error_code w, upd_self, Nat.le_of_ble_eq_true rfl, ?_⟩
  rw [upd_upd, aset_error_code]
  try dsimp only
  with_reducible refine WAs.nil ?_
  with_reducible refine WS.cons ?_
  with_reducible refine' WX.assign ?_ ?k1 ?k2 ?k3
  case k1 => exact rfl
  case k2 => exact rfl
  case k3 => exact rfl
  with_reducible refine WE.list ?_
  with_reducible refine WL.nil ?_
  with_reducible refine ⟨?k1, ?_⟩
  case k1 => exact Nat.le_of_ble_eq_true rfl
  intro n5 h5
  with_reducible refine WA.attr ?_
  with_reducible refine' WE.name ?k1 ?k2 ?_ ?k3
  case k1 => exact rfl
  case k2 => exact rfl
  case k3 => decide
  have n5a : a ≠ n5 := fun z => by rw [← z, upd_self] at h5; cases h5
  refine ⟨_, _, _, rfl, worldCls w, af_common w, (upd_ne n5a).trans upd_self, Nat.le_of_ble_eq_true rfl, ?_⟩
  rw [aset_common]
  try dsimp only
  with_reducible refine WS.nil ?_
  have h5' : τ n5 = none := by rw [upd_ne n5a.symm] at h5; exact h5
  have e3 : ∀ b o, τ b = some o → b ≠ n5 := fun b o e z => by rw [z, h5'] at e; cases e
  have k1 : ∀ {ρ : St} {n : Addr} {o : O}, ρ n = none → ∀ b ob, ρ b = some ob → upd ρ n o b = some ob := fun h b ob e => by rw [upd_ne (fun z => by rw [z, h] at e; cases e)]; exact e
  have h31 : n3 ≠ n1 := fun z => by
    have := k1 (o := .dict []) h2 n1 (.dict []) upd_self
    rw [z] at h3; rw [h3] at this; cases this
  have τ1 : τ n1 = some (.dict []) := by rw [← hτ]; exact k1 h4 _ _ (k1 h3 _ _ (k1 h2 _ _ upd_self))
  have τ3 : τ n3 = some (.dict []) := by rw [← hτ]; exact k1 h4 _ _ upd_self
  have s3 : σ n3 = none := by
    cases e : σ n3 with
    | none => rfl
    | some o => have := k1 (o := .dict []) h2 _ _ (k1 (o := .dict []) h1 _ _ e); rw [h3] at this; cases this
  have na : ∀ b o, τ b = some o → (∀ l dx, o ≠ .inst dx l) → b ≠ a := fun b o e hn z => by rw [z, ht] at e; cases e; exact hn _ _ rfl
  have fin : ∀ b o, b ≠ a → τ b = some o → ∀ {X Y Z : O}, upd (upd (upd τ a X) n5 Y) a Z b = some o := fun b o n e X Y Z => by rw [upd_ne n, upd_ne (e3 b o e), upd_ne n]; exact e
  have key : ∀ ρ : St, (∃ X Y Z, ρ = upd (upd (upd τ a X) n5 Y) a Z) → ρ a = some (.inst dx (wl { r with names := .ref n1, arrays := .ref n2, kinds := .ref n3, fns := .ref n4, spot := .int 0, base := .int 0, seed := .int 1, handler := .int 0, is_handling := .bool false, error_line := .int 0, error_code := .str "", common := .ref n5 })) → Q .none ρ := by
    rintro ρ ⟨X, Y, Z, e⟩ hρ
    have f1 : ρ n1 = some (.dict []) := by rw [e]; exact fin n1 _ (na n1 _ τ1 fun _ _ z => by cases z) τ1
    have f3 : ρ n3 = some (.dict []) := by rw [e]; exact fin n3 _ (na n3 _ τ3 fun _ _ z => by cases z) τ3
    refine q n1 n2 n3 n4 n5 ρ h1 s3 h31.symm f1 f3 hρ fun b o n eb => ?_
    rw [e]
    refine fin b o n ?_
    rw [← hτ]; exact k1 h4 _ _ (k1 h3 _ _ (k1 h2 _ _ (k1 h1 _ _ eb)))
  refine key _ ⟨_, _, _, rfl⟩ ?_
  exact upd_self
end
section
variable {w : World} {σ : St} {Q : V → St → Prop} {X : Str → St → Prop} {d : Nat}
theorem t_heard {f c : Addr} {body : Expr} {scope : Scope} {cl : List (Str × Addr)} {qual : Str} (hf : σ f = some (.lam body scope cl qual c)) (hd : 1 ≤ d)
    (h : CT w (d - 1) (.ref f) [] σ Q (fun c σ' => c.length ≤ 100 ∧ Q (.str ("error " ++ c)) σ')) : CT w d (.ref 213) [.ref f] σ Q X := by
  refine' CT.more (CT.defn (d := ?d0) (names := ?n0) ?k1 ?k2 ?k3 ?k4 ?k5 ?_ ?c1 ?c2 ?c3) ?hd
  case k1 => k_is
  case k2 => k_is
  case c1 => exact rfl
  case c2 => exact rfl
  case c3 => exact rfl
  case n0 => exact ["work"]
  case k3 => intro s rvs hl; obtain ⟨a, rfl⟩ := len1 hl; exact BindsTo.of_eq rfl
  case d0 => exact d - 1
  case k4 => exact rfl
  case k5 => decide
  case hd => first | assumption | omega
  intro L'
  show WS _ _ _ _ [("work", .ref f)] _ _ _ _
  with_reducible refine WS.cons ?_
  refine' WX.heard ?k1 ?k2 ?k3 ?_
  case k1 => exact rfl
  case k2 => k_is
  case k3 => exact rfl
  with_reducible refine WS.cons ?_
  with_reducible refine WX.ret ?_
  refine' WE.call0 ?k1 ?k2 hf ?_
  case k1 => exact rfl
  case k2 => exact rfl
  exact h
end
section
variable {w : World} {σ : St} {Q : V → St → Prop} {X : Str → St → Prop} {d : Nat}
/-- all but x is as it was -/
def Kp (x : Addr) (σ τ : St) : Prop := ∀ b o, b ≠ x → σ b = some o → τ b = some o
theorem Kp.refl {x : Addr} {σ : St} : Kp x σ σ := fun _ _ _ e => e
theorem Kp.attr {x : Addr} {σ τ : St} {o : O} (k : Kp x σ τ) : Kp x σ (upd τ x o) := fun b ob n e => (upd_ne n).trans (k b ob n e)
theorem Kp.new {x n : Addr} {σ τ : St} {o : O} (k : Kp x σ τ) (f : τ n = none) : Kp x σ (upd τ n o) := fun b ob nb e => by
  have := k b ob nb e
  rw [upd_ne (fun z => by rw [z, f] at this; cases this)]
  exact this
theorem ne_of_none {σ : St} {x n : Addr} {o : O} (hx : σ x = some o) (f : σ n = none) : x ≠ n := fun z => by rw [z, f] at hx; cases hx
theorem nodup_ne {l : List Addr} (nd : l.Nodup) {i j : Nat} {a b : Addr} (hi : l[i]? = some a) (hj : l[j]? = some b) (n : i ≠ j) : a ≠ b := fun z => by
  obtain ⟨li, gi⟩ := List.getElem?_eq_some_iff.mp hi
  obtain ⟨lj, gj⟩ := List.getElem?_eq_some_iff.mp hj
  exact n ((List.getElem_inj nd).mp (gi.trans (z.trans gj.symm)))
/-- a world under way -/
structure SW (σ0 : St) (x dx : Addr) (l : List (Str × V)) (n : Nat) (news : List (Addr × O)) (τ : St) : Prop where
  kp : Kp x σ0 τ
  hx : τ x = some (.inst dx l)
  nw : ∀ p ∈ news, σ0 p.1 = none ∧ p.1 ≠ x ∧ τ p.1 = some p.2
  nd : (news.map (·.1)).Nodup
  len : l.length ≤ n
section
variable {env : Env} {loc : Loc} {τ σ0 : St} {N : Loc → St → Prop} {R : V → St → Prop} {x dx : Addr} {l : List (Str × V)} {n k : Nat} {news : List (Addr × O)} {name : Str} {rest : List Stmt} {p1 p2 p3 p4 : Pos}
theorem SW.attr {v : V} (S : SW σ0 x dx l n news τ) : SW σ0 x dx (aset l name v) (n + 1) news (upd τ x (.inst dx (aset l name v))) :=
  ⟨S.kp.attr, upd_self, fun p hp => ⟨(S.nw p hp).1, (S.nw p hp).2.1, (upd_ne (S.nw p hp).2.1).trans (S.nw p hp).2.2⟩, S.nd, Nat.le_trans (aset_len _ _ _) (Nat.succ_le_succ S.len)⟩
theorem SW.new {a : Addr} {o : O} (S : SW σ0 x dx l n news τ) (f : τ a = none) : SW σ0 x dx l n ((a, o) :: news) (upd τ a o) := by
  have ax : a ≠ x := fun z => by rw [z, S.hx] at f; cases f
  have f0 : σ0 a = none := by
    cases e : σ0 a with
    | none => rfl
    | some o' => have := S.kp a o' ax e; rw [f] at this; cases this
  refine ⟨S.kp.new f, (upd_ne ax.symm).trans S.hx, fun p hp => ?_, ?_, S.len⟩
  · rcases List.mem_cons.mp hp with rfl | hp
    · exact ⟨f0, ax, upd_self⟩
    · have h := S.nw p hp
      exact ⟨h.1, h.2.1, (upd_ne (fun z => by rw [z, f] at h; cases h.2.2)).trans h.2.2⟩
  · rw [List.map_cons, List.nodup_cons]
    refine ⟨fun hm => ?_, S.nd⟩
    obtain ⟨p, hp, hpa⟩ := List.mem_map.mp hm
    have h := (S.nw p hp).2.2
    rw [hpa, f] at h; cases h
theorem st_gen {e : Expr} (af : AttrFree w name) (hn : n ≤ 90) (hself : env.kindOf "self" = some .local) (hl : alook loc "self" = some (.ref x))
    (hs : swapsWithSole [.Attribute (.Name "self" p1) name p2] e p3.line env = pure false) (hw : swappedStores [.Attribute (.Name "self" p1) name p2] e env = pure none)
    (he : WE w d env e loc τ (fun v τ1 => ∃ news', SW σ0 x dx l n news' τ1 ∧ ∀ τ', SW σ0 x dx (aset l name v) (n + 1) news' τ' → WS w d env rest loc τ' N R X) X) :
    WS w d env (.Assign [.Attribute (.Name "self" p1) name p2] e p3 :: rest) loc τ N R X :=
  WS.cons (WX.assign (W.pv he fun v τ1 ⟨news', S1, h⟩ => WA.attr (WE.name hself hl ⟨x, dx, l, rfl, worldCls w, af, S1.hx, Nat.le_trans S1.len (Nat.le_trans hn (by decide)), h _ S1.attr⟩)) hs hw)
theorem st_v {y : Str} {v : V} (S : SW σ0 x dx l n news τ) (af : AttrFree w name) (hn : n ≤ 90) (hself : env.kindOf "self" = some .local) (hl : alook loc "self" = some (.ref x)) (hy : env.kindOf y = some .local) (hv : alook loc y = some v) (hdb : (y == ("__debug__" : Str)) = false)
    (h : ∀ τ', SW σ0 x dx (aset l name v) (n + 1) news τ' → WS w d env rest loc τ' N R X) : WS w d env (.Assign [.Attribute (.Name "self" p1) name p2] (.Name y p4) p3 :: rest) loc τ N R X :=
  st_gen af hn hself hl rfl rfl (WE.name hy hv ⟨news, S, h⟩ hdb)
theorem st_i {i : Int} (S : SW σ0 x dx l n news τ) (af : AttrFree w name) (hn : n ≤ 90) (hself : env.kindOf "self" = some .local) (hl : alook loc "self" = some (.ref x))
    (h : ∀ τ', SW σ0 x dx (aset l name (.int i)) (n + 1) news τ' → WS w d env rest loc τ' N R X) : WS w d env (.Assign [.Attribute (.Name "self" p1) name p2] (.Constant (.int i) k p4) p3 :: rest) loc τ N R X :=
  st_gen af hn hself hl rfl rfl (WE.int ⟨news, S, h⟩)
theorem st_s {i : Str} (S : SW σ0 x dx l n news τ) (af : AttrFree w name) (hn : n ≤ 90) (hself : env.kindOf "self" = some .local) (hl : alook loc "self" = some (.ref x))
    (h : ∀ τ', SW σ0 x dx (aset l name (.str i)) (n + 1) news τ' → WS w d env rest loc τ' N R X) : WS w d env (.Assign [.Attribute (.Name "self" p1) name p2] (.Constant (.str i) k p4) p3 :: rest) loc τ N R X :=
  st_gen af hn hself hl rfl rfl (WE.str ⟨news, S, h⟩)
theorem st_b {i : Bool} (S : SW σ0 x dx l n news τ) (af : AttrFree w name) (hn : n ≤ 90) (hself : env.kindOf "self" = some .local) (hl : alook loc "self" = some (.ref x))
    (h : ∀ τ', SW σ0 x dx (aset l name (.bool i)) (n + 1) news τ' → WS w d env rest loc τ' N R X) : WS w d env (.Assign [.Attribute (.Name "self" p1) name p2] (.Constant (.bool i) k p4) p3 :: rest) loc τ N R X :=
  st_gen af hn hself hl rfl rfl (WE.bool ⟨news, S, h⟩)
theorem st_d (S : SW σ0 x dx l n news τ) (af : AttrFree w name) (hn : n ≤ 90) (hself : env.kindOf "self" = some .local) (hl : alook loc "self" = some (.ref x))
    (h : ∀ a τ', SW σ0 x dx (aset l name (.ref a)) (n + 1) ((a, .dict []) :: news) τ' → WS w d env rest loc τ' N R X) : WS w d env (.Assign [.Attribute (.Name "self" p1) name p2] (.Dict [] [] p4) p3 :: rest) loc τ N R X :=
  st_gen af hn hself hl rfl rfl (WE.dict0 fun a ha => ⟨_, S.new ha, h a⟩)
theorem st_l (S : SW σ0 x dx l n news τ) (af : AttrFree w name) (hn : n ≤ 90) (hself : env.kindOf "self" = some .local) (hl : alook loc "self" = some (.ref x))
    (h : ∀ a τ', SW σ0 x dx (aset l name (.ref a)) (n + 1) ((a, .list []) :: news) τ' → WS w d env rest loc τ' N R X) : WS w d env (.Assign [.Attribute (.Name "self" p1) name p2] (.List [] p4) p3 :: rest) loc τ N R X :=
  st_gen af hn hself hl rfl rfl (WE.list (WL.nil ⟨Nat.zero_le _, fun a ha => ⟨_, S.new ha, h a⟩⟩))
end
theorem t_world {b g m : Int} (hdd : 2 ≤ d) (q : ∀ x dx na ka oa r σ', r.bits = .int b → r.digits = .int g → r.most_steps = .int m → r.names = .ref na → r.kinds = .ref ka → r.out = .ref oa → r.row = .str "" → r.steps = .int 0 →
    σ x = none → Kp x σ σ' → σ' x = some (.inst dx (wl r)) → σ na = none → σ ka = none → σ oa = none → na ≠ ka → σ' na = some (.dict []) → σ' ka = some (.dict []) → σ' oa = some (.list []) → Q (.ref x) σ') : CT w d (.ref 139) [.int b, .int g, .int m] σ Q X := by
  refine' CT.more (CT.cls (d := 0) (fI := 136) (binds := fun x rvs => (([("self", .ref x)] : List (Str × Value)) ++ List.zip (["bits", "digits", "most_steps"] : List Str) rvs) ++ ([("most_depth", .int 20 351), ("room", .int 2000 352)] : List (Str × Value))) (loc0 := fun x => [("room", .int 2000), ("most_depth", .int 20), ("most_steps", .int m), ("digits", .int g), ("bits", .int b), ("self", .ref x)]) ?k1 ?k2 ?k3 rfl ?k4 ?k5 ?k6 ?k7 ?k8 ?k9 ?_ ?c1 ?c2 ?c3) hdd
  (case k1 => k_is)
  (case k2 => k_is)
  (case k3 => k_is)
  (case k4 => k_is)
  (case k5 => k_is)
  (case c1 => exact rfl)
  (case c2 => exact rfl)
  (case c3 => exact rfl)
  (case k8 => decide)
  case k6 =>
    intro s x rvs hX hl
    obtain ⟨b, g, m, rfl⟩ := len3 hl
    refine' binds_K (K := hd.heap_39 w.params) hX ?a0 ?a ?b ?c ?e
    case a0 => exact rfl
    case a => k_is
    case b => exact rfl
    case c => exact rfl
    exact rfl
  case k7 =>
    intro x rvs y hy
    rcases List.mem_append.mp hy with hy | hy
    · rcases List.mem_append.mp hy with hy | hy
      · cases List.mem_singleton.mp hy; exact rfl
      · have := (List.of_mem_zip (show (y.1, y.2) ∈ _ from hy)).1
        simp only [List.mem_cons, List.not_mem_nil, or_false] at this
        rcases this with h | h | h <;> rw [h] <;> exact rfl
    · simp only [List.mem_cons, List.not_mem_nil, or_false] at hy
      rcases hy with rfl | rfl <;> exact rfl
  case k9 =>
    intro h x rvs rl
    obtain ⟨v, u, t, rfl, r1, r2, r3⟩ := three rl
    exact .cons .int (.cons .int (.cons r3 (.cons r2 (.cons r1 (.cons .ref .nil)))))
  intro x dx L' hx0
  have S : SW σ x dx [] 0 [] (upd σ x (.inst dx [])) := ⟨Kp.refl.attr, upd_self, (fun _ q => nomatch q), List.nodup_nil, Nat.le_refl 0⟩
  generalize upd σ x (.inst dx []) = τ at S ⊢
  refine st_v S (af_bits w) (Nat.le_of_ble_eq_true rfl) rfl rfl rfl rfl (by decide) ?_
  clear S τ
  intro τ S
  refine st_v S (af_digits w) (Nat.le_of_ble_eq_true rfl) rfl rfl rfl rfl (by decide) ?_
  clear S τ
  intro τ S
  refine st_v S (af_most w) (Nat.le_of_ble_eq_true rfl) rfl rfl rfl rfl (by decide) ?_
  clear S τ
  intro τ S
  refine st_v S (af_most_depth w) (Nat.le_of_ble_eq_true rfl) rfl rfl rfl rfl (by decide) ?_
  clear S τ
  intro τ S
  refine st_v S (af_room w) (Nat.le_of_ble_eq_true rfl) rfl rfl rfl rfl (by decide) ?_
  clear S τ
  intro τ S
  refine st_d S (af_names w) (Nat.le_of_ble_eq_true rfl) rfl rfl ?_
  clear S τ
  intro n5 τ S
  refine st_d S (af_arrays w) (Nat.le_of_ble_eq_true rfl) rfl rfl ?_
  clear S τ
  intro n6 τ S
  refine st_d S (af_kinds w) (Nat.le_of_ble_eq_true rfl) rfl rfl ?_
  clear S τ
  intro n7 τ S
  refine st_d S (af_fns w) (Nat.le_of_ble_eq_true rfl) rfl rfl ?_
  clear S τ
  intro n8 τ S
  refine st_l S (af_out w) (Nat.le_of_ble_eq_true rfl) rfl rfl ?_
  clear S τ
  intro n9 τ S
  refine st_s S (af_row w) (Nat.le_of_ble_eq_true rfl) rfl rfl ?_
  clear S τ
  intro τ S
  refine st_l S (af_inputs w) (Nat.le_of_ble_eq_true rfl) rfl rfl ?_
  clear S τ
  intro n11 τ S
  refine st_d S (af_files w) (Nat.le_of_ble_eq_true rfl) rfl rfl ?_
  clear S τ
  intro n12 τ S
  refine st_d S (af_open w) (Nat.le_of_ble_eq_true rfl) rfl rfl ?_
  clear S τ
  intro n13 τ S
  refine st_d S (af_fields w) (Nat.le_of_ble_eq_true rfl) rfl rfl ?_
  clear S τ
  intro n14 τ S
  refine st_l S (af_data w) (Nat.le_of_ble_eq_true rfl) rfl rfl ?_
  clear S τ
  intro n15 τ S
  refine st_i S (af_spot w) (Nat.le_of_ble_eq_true rfl) rfl rfl ?_
  clear S τ
  intro τ S
  refine st_i S (af_base w) (Nat.le_of_ble_eq_true rfl) rfl rfl ?_
  clear S τ
  intro τ S
  refine st_i S (af_seed w) (Nat.le_of_ble_eq_true rfl) rfl rfl ?_
  clear S τ
  intro τ S
  refine st_i S (af_steps w) (Nat.le_of_ble_eq_true rfl) rfl rfl ?_
  clear S τ
  intro τ S
  refine st_i S (af_depth w) (Nat.le_of_ble_eq_true rfl) rfl rfl ?_
  clear S τ
  intro τ S
  refine st_i S (af_handler w) (Nat.le_of_ble_eq_true rfl) rfl rfl ?_
  clear S τ
  intro τ S
  refine st_b S (af_is_handling w) (Nat.le_of_ble_eq_true rfl) rfl rfl ?_
  clear S τ
  intro τ S
  refine st_i S (af_error_line w) (Nat.le_of_ble_eq_true rfl) rfl rfl ?_
  clear S τ
  intro τ S
  refine st_s S (af_error_code w) (Nat.le_of_ble_eq_true rfl) rfl rfl ?_
  clear S τ
  intro τ S
  refine st_b S (af_is_traced w) (Nat.le_of_ble_eq_true rfl) rfl rfl ?_
  clear S τ
  intro τ S
  refine st_l S (af_traces w) (Nat.le_of_ble_eq_true rfl) rfl rfl ?_
  clear S τ
  intro n26 τ S
  refine st_l S (af_common w) (Nat.le_of_ble_eq_true rfl) rfl rfl ?_
  clear S τ
  intro n27 τ S
  with_reducible refine WS.nil ?_
  have hx := S.hx
  have nw := S.nw
  have ne57 := nodup_ne S.nd (i := 11) (j := 9) rfl rfl (by decide)
  have kp := S.kp
  clear S
  have w5 := nw (n5, .dict []) (List.mem_of_getElem? (i := 11) rfl)
  have w7 := nw (n7, .dict []) (List.mem_of_getElem? (i := 9) rfl)
  have w9 := nw (n9, .list []) (List.mem_of_getElem? (i := 7) rfl)
  clear nw
  generalize hl : aset _ _ _ = l at hx
  have hfin : l = wl { bits := .int b, digits := .int g, most_steps := .int m, most_depth := .int 20, room := .int 2000, names := .ref n5, arrays := .ref n6, kinds := .ref n7, fns := .ref n8, out := .ref n9, row := .str "", inputs := .ref n11, files := .ref n12, opened := .ref n13, fields := .ref n14, data := .ref n15, spot := .int 0, base := .int 0, seed := .int 1, steps := .int 0, depth := .int 0, handler := .int 0, is_handling := .bool false, error_line := .int 0, error_code := .str "", is_traced := .bool false, traces := .ref n26, common := .ref n27 } := by
    subst hl
    kernel_rfl
  rw [hfin] at hx
  clear hfin hl
  exact q x dx n5 n7 n9 _ τ rfl rfl rfl rfl rfl rfl rfl rfl hx0 kp hx w5.1 w7.1 w9.1 ne57 w5.2.2 w7.2.2 w9.2.2
end
section
variable {w : World} {σ : St} {Q : V → St → Prop} {X : Str → St → Prop} {d : Nat}
theorem mkCode {K : Frag} {c P : Addr} {o : Obj} {h : Heap} (X : K.In h) (hl : K.lookup c = some o) (f : ∀ h : Heap, h.get? c = some o → CodeHd h c P) : CodeHd h c P := f h (X _ _ hl)
theorem lawCode (w : World) (h : Heap) (X : (hd.heap_39 w.params).In h) : CodeHd h 247 243 := by
  refine' mkCode X ?a ?b
  case a => k_is
  intro h e
  exact ⟨_, _, _, _, _, _, _, _, _, e, rfl, rfl, rfl, rfl, rfl, rfl, rfl, rfl, by decide⟩
/-- what a state holds, each address once -/
structure Has (σ : St) (fs : List (Addr × O)) : Prop where
  nd : (fs.map (·.1)).Nodup
  at_ : ∀ p ∈ fs, σ p.1 = some p.2
theorem Has.get {fs : List (Addr × O)} (h : Has σ fs) (i : Nat) {a : Addr} {o : O} (hi : fs[i]? = some (a, o)) : σ a = some o := h.at_ (a, o) (List.mem_of_getElem? hi)
theorem Has.new {fs : List (Addr × O)} {n : Addr} {o : O} (h : Has σ fs) (f : σ n = none) : Has (upd σ n o) (fs ++ [(n, o)]) := by
  have fr : ∀ p ∈ fs, p.1 ≠ n := fun p hp z => by have := h.at_ p hp; rw [z, f] at this; cases this
  refine ⟨?_, fun p hp => ?_⟩
  · rw [List.map_append, List.nodup_append]
    refine ⟨h.nd, by simp, fun a ha b hb => ?_⟩
    obtain ⟨p, hp, rfl⟩ := List.mem_map.mp ha
    simp at hb
    rw [hb]; exact fr p hp
  · rcases List.mem_append.mp hp with hp | hp
    · rw [upd_ne (fr p hp)]; exact h.at_ p hp
    · cases List.mem_singleton.mp hp; exact upd_self
theorem Has.put {fs : List (Addr × O)} {a : Addr} {o o' : O} (h : Has σ fs) (i : Nat) (hi : fs[i]? = some (a, o)) : Has (upd σ a o') (fs.set i (a, o')) := by
  obtain ⟨hlt, hget⟩ := List.getElem?_eq_some_iff.mp hi
  have hm : (fs.set i (a, o')).map (·.1) = fs.map (·.1) := by
    rw [List.map_set]
    have : (fs.map (·.1))[i]'(by simpa using hlt) = a := by rw [List.getElem_map, hget]
    conv => rhs; rw [← List.set_getElem_self (as := fs.map (·.1)) (i := i) (by simpa using hlt)]
    rw [this]
  refine ⟨hm ▸ h.nd, fun p hp => ?_⟩
  rcases List.mem_iff_getElem.mp hp with ⟨j, hj, hjp⟩
  rw [List.length_set] at hj
  rw [List.getElem_set] at hjp
  split at hjp
  · subst hjp; exact upd_self
  · rename_i hne
    subst hjp
    have : fs[j].1 ≠ a := fun z => hne (by
      have nd := h.nd
      have e1 : (fs.map (·.1))[i]'(by simpa using hlt) = (fs.map (·.1))[j]'(by simpa using hj) := by rw [List.getElem_map, List.getElem_map, hget]; exact z.symm
      exact (List.getElem_inj nd).mp e1)
    rw [upd_ne this]
    exact h.at_ _ (List.getElem_mem hj)
theorem Has.keep {fs : List (Addr × O)} {σ' : St} (h : Has σ fs) (k : ∀ p ∈ fs, σ p.1 = some p.2 → σ' p.1 = some p.2) : Has σ' fs := ⟨h.nd, fun p hp => k p hp (h.at_ p hp)⟩
theorem Has.take {fs : List (Addr × O)} (h : Has σ fs) (n : Nat) : Has σ (fs.take n) := ⟨by rw [List.map_take]; exact h.nd.sublist (List.take_sublist n _), fun p hp => h.at_ p (List.mem_of_mem_take hp)⟩
theorem TabOk.new {P n : Addr} {q : Str} {o : O} (h : TabOk P q σ) (f : σ n = none) : TabOk P q (upd σ n o) := by
  obtain ⟨l, a, b⟩ := h
  exact ⟨l, le_upd f _ _ a, fun e he => le_upd f _ _ (b e he)⟩
theorem TabOk.put {P a : Addr} {q : Str} {o o' : O} (h : TabOk P q σ) (ha : σ a = some o) (n1 : ∀ l, o ≠ .tab l) (n2 : ∀ q, o ≠ .code q) : TabOk P q (upd σ a o') := by
  obtain ⟨l, x, y⟩ := h
  refine ⟨l, ?_, fun e he => ?_⟩
  · rw [upd_ne (fun z => by rw [z, ha] at x; cases x; exact n1 _ rfl)]; exact x
  · have := y e he
    rw [upd_ne (fun z => by rw [z, ha] at this; cases this; exact n2 _ rfl)]; exact this
theorem TabOk.keep {P : Addr} {q : Str} {σ' : St} {x : Addr} {o : O} (h : TabOk P q σ) (k : ∀ b o, b ≠ x → σ b = some o → σ' b = some o) (ha : σ x = some o) (n1 : ∀ l, o ≠ .tab l) (n2 : ∀ q, o ≠ .code q) : TabOk P q σ' := by
  obtain ⟨l, u, y⟩ := h
  refine ⟨l, k _ _ (fun z => by rw [z, ha] at u; cases u; exact n1 _ rfl) u, fun e he => ?_⟩
  have := y e he
  exact k _ _ (fun z => by rw [z, ha] at this; cases this; exact n2 _ rfl) this
theorem Has.erase {fs : List (Addr × O)} (h : Has σ fs) (i : Nat) : Has σ (fs.eraseIdx i) := ⟨h.nd.sublist ((List.eraseIdx_sublist fs i).map _), fun p hp => h.at_ p ((List.eraseIdx_sublist fs i).subset hp)⟩
theorem Has.many {fs new : List (Addr × O)} {σ' : St} (h : Has σ fs) (k : ∀ p ∈ fs, σ p.1 = some p.2 → σ' p.1 = some p.2) (hn : ∀ p ∈ new, σ p.1 = none ∧ σ' p.1 = some p.2) (nd : (new.map (·.1)).Nodup) : Has σ' (fs ++ new) := by
  refine ⟨?_, fun p hp => ?_⟩
  · rw [List.map_append, List.nodup_append]
    refine ⟨h.nd, nd, fun a ha b hb z => ?_⟩
    obtain ⟨p, hp, rfl⟩ := List.mem_map.mp ha
    obtain ⟨q, hq, rfl⟩ := List.mem_map.mp hb
    have := h.at_ p hp
    rw [z, (hn q hq).1] at this; cases this
  · rcases List.mem_append.mp hp with hp | hp
    · exact k p hp (h.at_ p hp)
    · exact (hn p hp).2
theorem WE.dict2 {env : Env} {loc : Loc} {k1 k2 : Str} {n1 n2 : Nat} {p1 p2 pos : Pos} {e1 e2 : Expr} (h : ∀ a, σ a = none → WE w d env e1 loc (upd σ a (.dict [])) (fun v1 σ1 => WE w d env e2 loc σ1 (fun v2 σ2 => σ2 a = some (.dict []) ∧ Q (.ref a) (upd σ2 a (.dict (aset (aset [] k1 v1) k2 v2)))) X) X) :
    WE w d env (.Dict [some (.Constant (.str k1) n1 p1), some (.Constant (.str k2) n2 p2)] [e1, e2] pos) loc σ Q X :=
  WE.dict (items := [⟨k1, n1, p1, e1⟩, ⟨k2, n2, p2, e2⟩]) (fun a ha => WPs.cons (W.pv (h a ha) fun v1 σ1 q => WPs.cons (W.pv q fun v2 σ2 q => WPs.nil q))) rfl (fun h => by cases h) (Nat.le_of_ble_eq_true rfl)
theorem WE.dict3 {env : Env} {loc : Loc} {k1 k2 k3 : Str} {n1 n2 n3 : Nat} {p1 p2 p3 pos : Pos} {e1 e2 e3 : Expr} (h : ∀ a, σ a = none → WE w d env e1 loc (upd σ a (.dict [])) (fun v1 σ1 => WE w d env e2 loc σ1 (fun v2 σ2 => WE w d env e3 loc σ2 (fun v3 σ3 => σ3 a = some (.dict []) ∧ Q (.ref a) (upd σ3 a (.dict (aset (aset (aset [] k1 v1) k2 v2) k3 v3)))) X) X) X) :
    WE w d env (.Dict [some (.Constant (.str k1) n1 p1), some (.Constant (.str k2) n2 p2), some (.Constant (.str k3) n3 p3)] [e1, e2, e3] pos) loc σ Q X :=
  WE.dict (items := [⟨k1, n1, p1, e1⟩, ⟨k2, n2, p2, e2⟩, ⟨k3, n3, p3, e3⟩]) (fun a ha => WPs.cons (W.pv (h a ha) fun v1 σ1 q => WPs.cons (W.pv q fun v2 σ2 q => WPs.cons (W.pv q fun v3 σ3 q => WPs.nil q)))) rfl (fun h => by cases h) (Nat.le_of_ble_eq_true rfl)
def seven : List V := [.str "A%", .str "A$", .str "A", .str "IX", .str "I!", .str "T", .str "T%"]
/-- what the law's state holds at a turn of its loop -/
def lawSt (cw cn cv cs b ha wa dx na ka oa nl ra ta ba : Addr) (vn vv : Option V) (sq : List V) (at' : Nat) (r : Wd) (bk : List (Str × V)) (rows : List V) (tb : Bool) : List (Addr × O) :=
  [(cw, .cell (some (.ref wa))), (cn, .cell vn), (cv, .cell vv), (cs, .cell none), (b, .list sq), (ha, .list [.int (at' : Int), .ref b]), (wa, .inst dx (wl r)), (na, .dict bk), (ka, .dict (told tb)), (oa, .list rows), (nl, .list seven), (ra, .list rows), (ta, .dict (told tb)), (ba, .dict bk)]
theorem Has.pick {fs : List (Addr × O)} (h : Has σ fs) : ∀ idx : List Nat, idx.Nodup → Has σ (idx.filterMap fun i => fs[i]?)
  | [], _ => ⟨by simp, fun p hp => by simp at hp⟩
  | i :: idx, nd => by
    have ih := h.pick idx (List.nodup_cons.mp nd).2
    have hni := (List.nodup_cons.mp nd).1
    cases e : fs[i]? with
    | none => rw [List.filterMap_cons, e]; exact ih
    | some p =>
      rw [List.filterMap_cons, e]
      refine ⟨?_, fun q hq => ?_⟩
      · rw [List.map_cons, List.nodup_cons]
        refine ⟨fun hm => ?_, ih.nd⟩
        obtain ⟨q, hq, hqp⟩ := List.mem_map.mp hm
        obtain ⟨j, hj, hjq⟩ := List.mem_filterMap.mp hq
        obtain ⟨li, gi⟩ := List.getElem?_eq_some_iff.mp e
        obtain ⟨lj, gj⟩ := List.getElem?_eq_some_iff.mp hjq
        have : (fs.map (·.1))[i]'(by simpa using li) = (fs.map (·.1))[j]'(by simpa using lj) := by rw [List.getElem_map, List.getElem_map, gi, gj]; exact hqp.symm
        have := (List.getElem_inj h.nd).mp this
        exact hni (this ▸ hj)
      · rcases List.mem_cons.mp hq with rfl | hq
        · exact h.at_ _ (List.mem_of_getElem? e)
        · exact ih.at_ q hq
structure AA where
  (cw cn cv cs b ha wa dx oa nl ra : Addr)
/-- what holds at each turn of the law's loop -/
structure LJ0 (A : AA) (sq : List V) (bits g most : Nat) (i : Nat) (loc : Loc) (σ : St) (vn vv : Option V) (at' count : Nat) (r : Wd) (na ka ta ba : Addr) (bk : List (Str × V)) (rows : List V) (tb : Bool) : Prop where
  hloc : loc = ([("told", .ref ta), ("book", .ref ba), ("count", .int count), ("rows", .ref A.ra), ("names", .ref A.nl), ("bits", .int bits), ("digits", .int g), ("most", .int most), ("hat", .ref A.ha)] : Loc)
  H : Has σ (lawSt A.cw A.cn A.cv A.cs A.b A.ha A.wa A.dx na ka A.oa A.nl A.ra ta ba vn vv sq at' r bk rows tb)
  T : TabOk 243 "law.<locals>.<lambda>" σ
  e1 : r.bits = .int bits
  e2 : r.digits = .int g
  e3 : r.most_steps = .int most
  e4 : r.names = .ref na
  e5 : r.kinds = .ref ka
  e6 : r.out = .ref A.oa
  e7 : r.row = .str ""
  e8 : r.steps = .int count
  hat : at' ≤ 4 + 10 * i
  hrows : rows.length ≤ i
  hbk : bk.length ≤ i
  pbk : ∀ p ∈ bk, Plain p.2
  prows : ∀ v ∈ rows, Plain v
def LJ (A : AA) (sq : List V) (bits g most : Nat) (i : Nat) (loc : Loc) (σ : St) : Prop :=
  ∃ vn vv at' count r na ka ta ba bk rows tb, LJ0 A sq bits g most i loc σ vn vv at' count r na ka ta ba bk rows tb
def marks3 : List (Str × V) := [("%", .str "whole"), ("$", .str "text"), ("!", .str "decimal")]
theorem kindOf_law (n : Str) (tb : Bool) : (alook marks3 (lastOf n)).getD ((alook (told tb) (headOf n)).getD (.str "decimal")) = .str (kindOf n tb) := by
  rw [told_get]
  unfold kindOf marks3
  unfold alook alook alook alook
  by_cases h1 : lastOf n = "%"
  · rw [if_pos h1, h1]; rfl
  rw [if_neg h1]
  by_cases h2 : lastOf n = "$"
  · rw [if_pos h2, if_pos h2]; rfl
  rw [if_neg h2, if_neg h2, if_neg h1]
  by_cases h3 : lastOf n = "!"
  · rw [if_pos h3, if_pos h3]; rfl
  rw [if_neg h3, if_neg h3]
  rfl
theorem kp_plain {v r : V} {k : Str} {b g : Nat} (hv : Dm v) (h : kp v k b g = .ok r) : Plain r := by
  have hN : ∀ {c e : Int}, kpN c e k b g = .ok r → Plain r := fun {c e} h => by
    unfold kpN at h
    split at h
    · cases h
    split at h
    · cases h
      unfold mk
      dsimp only
      repeat' split
      all_goals exact ⟨_, .pair _ _⟩
    split at h
    · cases h; exact ⟨_, .int _⟩
    · cases h
  cases hv with
  | int _ => exact hN h
  | pair _ _ => exact hN h
  | str _ _ =>
    unfold kp at h
    dsimp only at h
    split at h
    · split at h
      · cases h; exact ⟨_, .str _⟩
      · cases h
    · cases h
theorem kp_code {v : V} {k c : Str} {b g : Nat} (h : kp v k b g = .err c) : c = "TM" ∨ c = "LS" ∨ c = "OV" := by
  have hN : ∀ {x e : Int}, kpN x e k b g = .err c → c = "TM" ∨ c = "LS" ∨ c = "OV" := fun {x e} h => by
    unfold kpN at h
    split at h
    · cases h; exact .inl rfl
    split at h
    · cases h
    split at h
    · cases h
    · cases h; exact .inr (.inr rfl)
  unfold kp at h
  split at h
  · split at h
    · split at h
      · cases h
      · cases h; exact .inr (.inl rfl)
    · cases h; exact .inl rfl
  · exact hN h
  · exact hN h
  · cases h; exact .inl rfl
theorem err_slice {c : Str} (h : c = "TM" ∨ c = "LS" ∨ c = "OV") : Txt.slice ("error " ++ c) none (some 6) = "error " ∧ ("error " ++ c).length = 8 := by
  rcases h with rfl | rfl | rfl <;> decide +kernel
/-- what is kept is no text that looks like an error -/
theorem kp_slice {v : V} {x k : Str} {b g : Nat} (hv : Dm v) (h : kp v k b g = .ok (.str x)) : Txt.slice x none (some 6) ≠ "error " ∧ x.length ≤ 256 := by
  have hN : ∀ {c e : Int}, kpN c e k b g = .ok (.str x) → False := fun {c e} h => by
    unfold kpN at h
    split at h
    · cases h
    split at h
    · have h := Rs.ok.inj h
      unfold mk at h
      dsimp only at h
      repeat' split at h
      all_goals cases h
    split at h
    · cases h
    · cases h
  cases hv with
  | int _ => exact (hN h).elim
  | pair _ _ => exact (hN h).elim
  | str h1 h2 =>
    unfold kp at h
    dsimp only at h
    split at h
    · split at h
      · cases h; exact ⟨h2, h1⟩
      · cases h
    · cases h
theorem WE.joinV {env : Env} {loc : Loc} {e : Expr} {Q' : V → St → Prop} (J : V → St → Prop) (h1 : WE w d env e loc σ J X) (h2 : ∀ v s, J v s → Q' v s) : WE w d env e loc σ Q' X := W.pv h1 h2
def wrong : Rs → Bool | .ok _ => false | .err _ => true
theorem due_plain {v : V} {k : Str} {b g : Nat} (hv : Dm v) : Plain (due v k b g) := by
  cases h : kp v k b g with
  | ok r => rw [due_ok h]; exact kp_plain hv h
  | err c => rw [due_err h]; exact ⟨_, .str _⟩
theorem kp_notNone {v r : V} {k : Str} {b g : Nat} (h : kp v k b g = .ok r) : r ≠ .none := fun z => by
  subst z
  have hN : ∀ {c e : Int}, kpN c e k b g = .ok .none → False := fun {c e} h => by
    unfold kpN at h
    split at h
    · cases h
    split at h
    · have h := Rs.ok.inj h
      unfold mk at h
      dsimp only at h
      repeat' split at h
      all_goals cases h
    split at h
    · cases h
    · cases h
  unfold kp at h
  split at h
  · split at h
    · split at h
      · cases h
      · cases h
    · cases h
  · exact hN h
  · exact hN h
  · cases h
theorem due_notNone {v : V} {k : Str} {b g : Nat} : due v k b g ≠ .none := by
  cases h : kp v k b g with
  | ok r => rw [due_ok h]; exact kp_notNone h
  | err c => rw [due_err h]; intro z; cases z
theorem lawSt_keep {cw cn cv cs b ha wa dx na ka oa nl ra ta ba : Addr} {vn vv : Option V} {sq : List V} {at' : Nat} {r : Wd} {bk : List (Str × V)} {rows : List V} {tb : Bool} {q : Str} {σ' : St}
    (h : Has σ (lawSt cw cn cv cs b ha wa dx na ka oa nl ra ta ba vn vv sq at' r bk rows tb)) (T : TabOk 243 q σ) (k : ∀ b o, b ≠ 243 → σ b = some o → σ' b = some o) : Has σ' (lawSt cw cn cv cs b ha wa dx na ka oa nl ra ta ba vn vv sq at' r bk rows tb) := by
  refine h.keep fun p hp e => k _ _ (fun z => ?_) e
  obtain ⟨l, hl, _⟩ := T
  rw [z, hl] at e
  have e := Option.some.inj e
  have hn : ∀ p ∈ lawSt cw cn cv cs b ha wa dx na ka oa nl ra ta ba vn vv sq at' r bk rows tb, ∀ l, p.2 ≠ .tab l := by
    intro p hp l
    simp only [lawSt, List.mem_cons, List.not_mem_nil, or_false] at hp
    rcases hp with rfl | rfl | rfl | rfl | rfl | rfl | rfl | rfl | rfl | rfl | rfl | rfl | rfl | rfl <;> intro z <;> cases z
  exact hn p hp l e.symm
theorem aset_mem {k : Str} {x : V} : ∀ {l : List (Str × V)} {p : Str × V}, p ∈ aset l k x → p ∈ l ∨ p.2 = x
  | [], p, h => by
    unfold aset at h
    cases List.mem_singleton.mp h
    exact .inr rfl
  | (k', y) :: l, p, h => by
    unfold aset at h
    split at h
    · rcases List.mem_cons.mp h with rfl | h
      · exact .inr rfl
      · exact .inl (.tail _ h)
    · rcases List.mem_cons.mp h with rfl | h
      · exact .inl (.head _)
      · rcases aset_mem h with h | h
        · exact .inl (.tail _ h)
        · exact .inr h
end
section
theorem plain_get : ∀ {bk : List (Str × V)} {n : Str} {v : V}, (∀ p ∈ bk, Plain p.2) → Plain v → Plain ((alook bk n).getD v)
  | [], _, _, _, hv => hv
  | (k, x) :: bk, n, v, h, hv => by
    unfold alook
    split
    · exact h _ (.head _)
    · exact plain_get (fun p hp => h p (.tail _ hp)) hv
theorem plain_first (k : Str) : Plain (firstOf k) := by
  unfold firstOf
  repeat' split
  · exact ⟨_, .str _⟩
  · exact ⟨_, .int _⟩
  · exact ⟨_, .pair _ _⟩
/-- what the law's state holds behind its loop -/
def lawZ (A : AA) (na ka ta ba : Addr) (vn vv : Option V) (sq : List V) (at' : Nat) (r : Wd) (bk : List (Str × V)) (rows : List V) (tb : Bool) (size : Nat) : List (Addr × O) :=
  [(A.cw, .cell (some (.ref A.wa))), (A.cn, .cell vn), (A.cv, .cell vv), (A.cs, .cell (some (.int size))), (A.b, .list sq), (A.ha, .list [.int (at' : Int), .ref A.b]), (A.wa, .inst A.dx (wl r)), (na, .dict bk), (ka, .dict (told tb)), (A.oa, .list rows), (A.nl, .list seven), (A.ra, .list rows), (ta, .dict (told tb)), (ba, .dict bk)]
theorem Has.keepT {σ σ' : St} {q : Str} {fs : List (Addr × O)} (h : Has σ fs) (T : TabOk 243 q σ) (k : ∀ b o, b ≠ 243 → σ b = some o → σ' b = some o) (hn : ∀ p ∈ fs, ∀ l, p.2 ≠ .tab l) : Has σ' fs := by
  refine h.keep fun p hp e => k _ _ (fun z => ?_) e
  obtain ⟨l, hl, _⟩ := T
  rw [z, hl] at e
  exact hn p hp l (Option.some.inj e).symm
theorem lawZ_keep {A : AA} {na ka ta ba : Addr} {vn vv : Option V} {sq : List V} {at' : Nat} {r : Wd} {bk : List (Str × V)} {rows : List V} {tb : Bool} {size : Nat} {q : Str} {σ σ' : St}
    (h : Has σ (lawZ A na ka ta ba vn vv sq at' r bk rows tb size)) (T : TabOk 243 q σ) (k : ∀ b o, b ≠ 243 → σ b = some o → σ' b = some o) : Has σ' (lawZ A na ka ta ba vn vv sq at' r bk rows tb size) := by
  refine h.keepT T k fun p hp l => ?_
  simp only [lawZ, List.mem_cons, List.not_mem_nil, or_false] at hp
  rcases hp with rfl | rfl | rfl | rfl | rfl | rfl | rfl | rfl | rfl | rfl | rfl | rfl | rfl | rfl <;> intro z <;> cases z
theorem rep_len {x : Str} (hx : x.length = 1) {n : Int} (h0 : 0 ≤ n) : (Txt.mul x n).length = n.toNat := by
  have := len_mul_k1 (n := n) hx
  rw [if_neg (by omega)] at this
  omega
theorem rep_ok {x : Str} (hx : x.length = 1) {n : Int} (h0 : 0 ≤ n) (h1 : n ≤ 256) : MulOk x n := mulOk_of 1 256 (by omega) (by omega) (by omega) (by decide) (by decide)
theorem cat_len (a b : Str) : (a ++ b).length = a.length + b.length := Array.size_append
theorem cat_nil (a : Str) : ("" : Str) ++ a = a := Str.ext' (by rw [Str.cps_append]; exact Array.empty_append)
theorem Has.cleared {σ σ' : St} {fs : List (Addr × O)} {a c1 c3 : Addr} {o o' : O} (h : Has σ fs) (i : Nat) (hi : fs[i]? = some (a, o)) (f1 : σ c1 = none) (f3 : σ c3 = none) (n : c1 ≠ c3) (g1 : σ' c1 = some (.dict [])) (g3 : σ' c3 = some (.dict [])) (ga : σ' a = some o') (k : ∀ b ob, b ≠ a → σ b = some ob → σ' b = some ob) : Has σ' (fs.set i (a, o') ++ [(c1, .dict []), (c3, .dict [])]) := by
  have ha := h.get i hi
  refine (h.put (o' := o') i hi).many (fun p _ e => ?_) (fun p hp => ?_) (by simpa using n)
  · by_cases z : p.1 = a
    · rw [z, upd_self] at e; rw [z, ga, ← e]
    · rw [upd_ne z] at e; exact k _ _ z e
  · rcases List.mem_cons.mp hp with rfl | hp
    · exact ⟨by rw [upd_ne (fun z => by have z : c1 = a := z; rw [z, ha] at f1; cases f1)]; exact f1, g1⟩
    · cases List.mem_singleton.mp hp
      exact ⟨by rw [upd_ne (fun z => by have z : c3 = a := z; rw [z, ha] at f3; cases f3)]; exact f3, g3⟩
/-- what is to be shown of the law's body, its first statement done -/
def LawG (w : World) (body : List Stmt) (scope : Scope) : Prop :=
  ∀ (L fa cw cn cv cs b ha : Addr) (cl : List (Str × Addr)) (sq : List V) (σ : St), cl.lookup ("world" : Str) = some cw → cl.lookup ("name" : Str) = some cn → cl.lookup ("value" : Str) = some cv → cl.lookup ("size" : Str) = some cs →
    Has σ [(cw, .cell none), (cn, .cell none), (cv, .cell none), (cs, .cell none), (b, .list sq), (ha, .list [.int ((0 : Nat) : Int), .ref b])] → TabOk 243 "law.<locals>.<lambda>" σ → AllInt sq → sq.length ≤ 100 →
    WS w 20 (envX "law" scope L fa (.ref 247) cl) body [("hat", .ref ha)] σ (fun _ _ => False) (fun v s => v = .bool true ∧ TabOk 243 "law.<locals>.<lambda>" s) (fun _ _ => False)
def LawIs (w : World) : Prop := ∃ (name qual : Str) (params : Arguments) (p1 p2 p3 p4 p5 p6 p7 p8 : Pos) (k1 k2 : Nat) (body : List Stmt) (scope : Scope) (dV kV doc pm cdv ct oc : Value) (an od : Option Addr) (osl : Array (Option Value)),
  (hd.heap_39 w.params).lookup 248 = some ⟨oc, od, .func (fnOf name qual params (.Assign [.Name "hat" p1] (.List [.Constant (.int 0) k1 p2, .Subscript (.Name "script" p3) (.Slice none (some (.Constant (.int 40) k2 p4)) none p5) p6] p7) p8 :: body) scope dV kV doc pm an cdv ct), osl⟩ ∧ LawG w body scope
theorem law_of {w : World} {name qual : Str} {params : Arguments} {p1 p2 p3 p4 p5 p6 p7 p8 : Pos} {k1 k2 : Nat} {body : List Stmt} {scope : Scope} {dV kV doc pm cdv ct oc : Value} {an od : Option Addr} {osl : Array (Option Value)}
    (ho : (hd.heap_39 w.params).lookup 248 = some ⟨oc, od, .func (fnOf name qual params (.Assign [.Name "hat" p1] (.List [.Constant (.int 0) k1 p2, .Subscript (.Name "script" p3) (.Slice none (some (.Constant (.int 40) k2 p4)) none p5) p6] p7) p8 :: body) scope dV kV doc pm an cdv ct), osl⟩) (h : LawG w body scope) : LawIs w :=
  ⟨name, qual, params, p1, p2, p3, p4, p5, p6, p7, p8, k1, k2, body, scope, dV, kV, doc, pm, cdv, ct, oc, an, od, osl, ho, h⟩
theorem law_ws (w : World) : LawIs w := by
  refine' law_of ?k1 ?_
  (case k1 => k_is)
  intro L fa cw cn cv cs b ha cl sq σ2 l1 l2 l3 l4 H2 T2 hai' hll'
  with_reducible refine WS.cons ?_
  with_reducible refine' WX.swap3 ?k1 ?k2 ?k4 ?k5 ?_ ?k3
  case k1 => exact rfl
  case k2 => exact rfl
  case k4 => exact rfl
  case k5 => exact rfl
  case k3 => exact rfl
  with_reducible refine WE.tup ?_
  with_reducible refine' WL.cons ?_ ?k1
  case k1 => exact rfl
  with_reducible refine' WE.sub ?_ ?k1
  case k1 => intro _ _; exact rfl
  with_reducible refine WE.list ?_
  with_reducible refine' WL.cons ?_ ?k1
  case k1 => exact rfl
  with_reducible refine WE.int ?_
  with_reducible refine' WL.cons ?_ ?k1
  case k1 => exact rfl
  with_reducible refine WE.int ?_
  with_reducible refine WL.nil ?_
  with_reducible refine ⟨?k1, ?_⟩
  case k1 => exact Nat.le_of_ble_eq_true rfl
  intro tl ftl
  have H3 := H2.new (o := .list [.int 8, .int 16]) ftl
  have T3 := T2.new (o := .list [.int 8, .int 16]) ftl
  generalize upd σ2 tl (.list [.int 8, .int 16]) = σ3 at H3 T3 ⊢
  clear H2 T2 ftl
  with_reducible refine' WE.callK ?k1 ?k2 ?k3 ?_ ?k4 ?k5 ?k6 ?k7
  case k1 => exact rfl
  case k2 => k_is
  case k3 => k_is
  case k4 => decide
  case k5 => exact rfl
  case k6 => exact rfl
  case k7 => intro _ _; exact rfl
  with_reducible refine' WL.cons ?_ ?k1
  case k1 => exact rfl
  with_reducible refine' WE.name ?k1 ?k2 ?_ ?k3
  case k1 => exact rfl
  case k2 => exact rfl
  case k3 => decide
  with_reducible refine' WL.cons ?_ ?k1
  case k1 => exact rfl
  with_reducible refine WE.int ?_
  with_reducible refine WL.nil ?_
  refine t_draw (many := 2) (H3.get 5 rfl) (H3.get 4 rfl) hai' hll' (by decide) (by decide) (by decide) fun r1 hr1 => ?_
  have H4 := H3.put (o' := .list [.int ((0 + 1 : Nat) : Int), .ref b]) 5 rfl
  have T4 := T3.put (o' := .list [.int ((0 + 1 : Nat) : Int), .ref b]) (H3.get 5 rfl) (fun _ z => by cases z) (fun _ z => by cases z)
  generalize upd σ3 ha (.list [.int ((0 + 1 : Nat) : Int), .ref b]) = σ4 at H4 T4 ⊢
  clear H3 T3
  obtain ⟨bits, hbi, hbits⟩ : ∃ bits : Nat, ([V.int 8, .int 16] : List V)[r1]? = some (.int bits) ∧ (bits = 8 ∨ bits = 16) := by
    match r1, hr1 with
    | 0, _ => exact ⟨8, rfl, .inl rfl⟩
    | 1, _ => exact ⟨16, rfl, .inr rfl⟩
  refine ⟨_, ItemOk.list (H4.get 6 rfl) (by omega) (by omega) (by rw [Int.toNat_natCast]; exact hbi), ?_⟩
  replace H4 : Has σ4 [(cw, .cell none), (cn, .cell none), (cv, .cell none), (cs, .cell none), (b, .list sq), (ha, .list [.int ((0 + 1 : Nat) : Int), .ref b])] := H4.take 6
  clear hbi hr1
  with_reducible refine' WL.cons ?_ ?k1
  case k1 => exact rfl
  with_reducible refine WE.bin ?_
  with_reducible refine WE.int ?_
  with_reducible refine' WE.callK ?k1 ?k2 ?k3 ?_ ?k4 ?k5 ?k6 ?k7
  case k1 => exact rfl
  case k2 => k_is
  case k3 => k_is
  case k4 => decide
  case k5 => exact rfl
  case k6 => exact rfl
  case k7 => intro _ _; exact rfl
  with_reducible refine' WL.cons ?_ ?k1
  case k1 => exact rfl
  with_reducible refine' WE.name ?k1 ?k2 ?_ ?k3
  case k1 => exact rfl
  case k2 => exact rfl
  case k3 => decide
  with_reducible refine' WL.cons ?_ ?k1
  case k1 => exact rfl
  with_reducible refine WE.int ?_
  with_reducible refine WL.nil ?_
  refine t_draw (many := 6) (H4.get 5 rfl) (H4.get 4 rfl) hai' hll' (by decide) (by decide) (by decide) fun r2 hr2 => ?_
  have H5 := H4.put (o' := .list [.int ((0 + 1 + 1 : Nat) : Int), .ref b]) 5 rfl
  have T5 := T4.put (o' := .list [.int ((0 + 1 + 1 : Nat) : Int), .ref b]) (H4.get 5 rfl) (fun _ z => by cases z) (fun _ z => by cases z)
  generalize upd σ4 ha (.list [.int ((0 + 1 + 1 : Nat) : Int), .ref b]) = σ5 at H5 T5 ⊢
  clear H4 T4
  with_reducible refine ⟨_, BinOk.add, ?_⟩
  with_reducible refine' WL.cons ?_ ?k1
  case k1 => exact rfl
  with_reducible refine' WE.callK ?k1 ?k2 ?k3 ?_ ?k4 ?k5 ?k6 ?k7
  case k1 => exact rfl
  case k2 => k_is
  case k3 => k_is
  case k4 => decide
  case k5 => exact rfl
  case k6 => exact rfl
  case k7 => intro _ _; exact rfl
  with_reducible refine' WL.cons ?_ ?k1
  case k1 => exact rfl
  with_reducible refine' WE.name ?k1 ?k2 ?_ ?k3
  case k1 => exact rfl
  case k2 => exact rfl
  case k3 => decide
  with_reducible refine' WL.cons ?_ ?k1
  case k1 => exact rfl
  with_reducible refine WE.int ?_
  with_reducible refine WL.nil ?_
  refine t_draw (many := 4) (H5.get 5 rfl) (H5.get 4 rfl) hai' hll' (by decide) (by decide) (by decide) fun most hmost => ?_
  have H6 := H5.put (o' := .list [.int ((0 + 1 + 1 + 1 : Nat) : Int), .ref b]) 5 rfl
  have T6 := T5.put (o' := .list [.int ((0 + 1 + 1 + 1 : Nat) : Int), .ref b]) (H5.get 5 rfl) (fun _ z => by cases z) (fun _ z => by cases z)
  generalize upd σ5 ha (.list [.int ((0 + 1 + 1 + 1 : Nat) : Int), .ref b]) = σ6 at H6 T6 ⊢
  clear H5 T5
  obtain ⟨g, hg⟩ : ∃ g : Nat, 3 + r2 = g := ⟨_, rfl⟩
  have hg2 : (3 : Int) + (r2 : Int) = (g : Int) := by omega
  with_reducible refine WL.nil ?_
  with_reducible refine ⟨?k1, ?_⟩
  case k1 => exact Nat.le_of_ble_eq_true rfl
  with_reducible refine ⟨_, _, _, rfl, ?_⟩
  with_reducible refine WS.cons ?_
  with_reducible refine' WX.assign ?_ ?k1 ?k2 ?k3
  case k1 => exact rfl
  case k2 => exact rfl
  case k3 => exact rfl
  with_reducible refine WE.tup ?_
  with_reducible refine' WL.cons ?_ ?k1
  case k1 => exact rfl
  with_reducible refine' WE.callK ?k1 ?k2 ?k3 ?_ ?k4 ?k5 ?k6 ?k7
  case k1 => exact rfl
  case k2 => k_is
  case k3 => k_is
  case k4 => decide
  case k5 => exact rfl
  case k6 => exact rfl
  case k7 => intro _ _; exact rfl
  with_reducible refine' WL.cons ?_ ?k1
  case k1 => exact rfl
  with_reducible refine' WE.name ?k1 ?k2 ?_ ?k3
  case k1 => exact rfl
  case k2 => exact rfl
  case k3 => decide
  with_reducible refine' WL.cons ?_ ?k1
  case k1 => exact rfl
  with_reducible refine' WE.name ?k1 ?k2 ?_ ?k3
  case k1 => exact rfl
  case k2 => exact rfl
  case k3 => decide
  with_reducible refine' WL.cons ?_ ?k1
  case k1 => exact rfl
  with_reducible refine' WE.name ?k1 ?k2 ?_ ?k3
  case k1 => exact rfl
  case k2 => exact rfl
  case k3 => decide
  with_reducible refine WL.nil ?_
  rw [hg2]
  have hg3 : 3 ≤ g ∧ g ≤ 10 := by omega
  clear hg hg2 hr2
  refine t_world (by decide) fun wa dx na ka oa r σ7 e1 e2 e3 e4 e5 e6 e7 e8 fw kp hw fn fk fo hnk hn hk ho => ?_
  have H7 : Has σ7 ([(cw, .cell none), (cn, .cell none), (cv, .cell none), (cs, .cell none), (b, .list sq), (ha, .list [.int ((0 + 1 + 1 + 1 : Nat) : Int), .ref b])] ++ [(wa, .inst dx (wl r)), (na, .dict []), (ka, .dict []), (oa, .list [])]) := by
    refine H6.many (fun p hp e => kp _ _ (fun z => by rw [z, fw] at e; cases e) e) (fun p hp => ?_) ?_
    · rcases List.mem_cons.mp hp with rfl | hp
      · exact ⟨fw, hw⟩
      rcases List.mem_cons.mp hp with rfl | hp
      · exact ⟨fn, hn⟩
      rcases List.mem_cons.mp hp with rfl | hp
      · exact ⟨fk, hk⟩
      cases List.mem_singleton.mp hp
      exact ⟨fo, ho⟩
    · have a1 : wa ≠ na := fun z => by rw [z, hn] at hw; cases hw
      have a2 : wa ≠ ka := fun z => by rw [z, hk] at hw; cases hw
      have a3 : wa ≠ oa := fun z => by rw [z, ho] at hw; cases hw
      have a4 : na ≠ oa := fun z => by rw [z, ho] at hn; cases hn
      have a5 : ka ≠ oa := fun z => by rw [z, ho] at hk; cases hk
      simp [a1, a2, a3, a4, a5, hnk]
  have T7 : TabOk 243 "law.<locals>.<lambda>" σ7 := by
    obtain ⟨l, u, v⟩ := T6
    exact ⟨l, kp _ _ (fun z => by rw [z, fw] at u; cases u) u, fun e he => kp _ _ (fun z => by have := v e he; rw [z, fw] at this; cases this) (v e he)⟩
  clear H6 T6 kp hw fn fk fo fw hn hk ho hnk
  with_reducible refine' WL.cons ?_ ?k1
  case k1 => exact rfl
  with_reducible refine WE.list ?_
  with_reducible refine' WL.cons ?_ ?k1
  case k1 => exact rfl
  with_reducible refine WE.str ?_
  with_reducible refine' WL.cons ?_ ?k1
  case k1 => exact rfl
  with_reducible refine WE.str ?_
  with_reducible refine' WL.cons ?_ ?k1
  case k1 => exact rfl
  with_reducible refine WE.str ?_
  with_reducible refine' WL.cons ?_ ?k1
  case k1 => exact rfl
  with_reducible refine WE.str ?_
  with_reducible refine' WL.cons ?_ ?k1
  case k1 => exact rfl
  with_reducible refine WE.str ?_
  with_reducible refine' WL.cons ?_ ?k1
  case k1 => exact rfl
  with_reducible refine WE.str ?_
  with_reducible refine' WL.cons ?_ ?k1
  case k1 => exact rfl
  with_reducible refine WE.str ?_
  with_reducible refine WL.nil ?_
  with_reducible refine ⟨?k1, ?_⟩
  case k1 => exact Nat.le_of_ble_eq_true rfl
  intro nl fnl
  have H8 := H7.new (o := .list [.str "A%", .str "A$", .str "A", .str "IX", .str "I!", .str "T", .str "T%"]) fnl
  have T8 := T7.new (o := .list [.str "A%", .str "A$", .str "A", .str "IX", .str "I!", .str "T", .str "T%"]) fnl
  generalize upd σ7 nl (.list [.str "A%", .str "A$", .str "A", .str "IX", .str "I!", .str "T", .str "T%"]) = σ8 at H8 T8 ⊢
  with_reducible refine' WL.cons ?_ ?k1
  case k1 => exact rfl
  with_reducible refine WE.list ?_
  with_reducible refine WL.nil ?_
  with_reducible refine ⟨?k1, ?_⟩
  case k1 => exact Nat.le_of_ble_eq_true rfl
  intro ra fra
  have H9 := H8.new (o := .list []) fra
  have T9 := T8.new (o := .list []) fra
  generalize upd σ8 ra (.list []) = σ9 at H9 T9 ⊢
  clear H7 T7 H8 T8 fnl fra
  with_reducible refine' WL.cons ?_ ?k1
  case k1 => exact rfl
  with_reducible refine WE.int ?_
  with_reducible refine WL.nil ?_
  with_reducible refine ⟨?k1, ?_⟩
  case k1 => exact Nat.le_of_ble_eq_true rfl
  with_reducible refine' WA.tup ?k1 ?k2 ?_
  case k1 => exact rfl
  case k2 => exact rfl
  with_reducible refine' WAs.cons ?_ ?k1
  case k1 => exact rfl
  refine' WA.nameC ?k1 l1 (H9.get 0 rfl) ?_
  case k1 => exact rfl
  have H10 := H9.put (o' := .cell (some (.ref wa))) 0 rfl
  have T10 := T9.put (o' := .cell (some (.ref wa))) (H9.get 0 rfl) (fun _ z => by cases z) (fun _ z => by cases z)
  generalize upd σ9 cw (.cell (some (.ref wa))) = σ10 at H10 T10 ⊢
  clear H9 T9
  with_reducible refine' WAs.cons ?_ ?k1
  case k1 => exact rfl
  with_reducible refine' WA.name ?k1 ?_
  case k1 => exact rfl
  with_reducible refine' WAs.cons ?_ ?k1
  case k1 => exact rfl
  with_reducible refine' WA.name ?k1 ?_
  case k1 => exact rfl
  with_reducible refine' WAs.cons ?_ ?k1
  case k1 => exact rfl
  with_reducible refine' WA.name ?k1 ?_
  case k1 => exact rfl
  with_reducible refine WAs.nil ?_
  with_reducible refine WS.cons ?_
  with_reducible refine' WX.swap2 ?k1 ?k2 ?k4 ?_ ?k3
  case k1 => exact rfl
  case k2 => exact rfl
  case k4 => exact rfl
  case k3 => exact rfl
  with_reducible refine WE.tup ?_
  with_reducible refine' WL.cons ?_ ?k1
  case k1 => exact rfl
  refine WE.dict2 ?_
  intro ta fta
  have H11 := H10.new (o := .dict []) fta
  have T11 := T10.new (o := .dict []) fta
  generalize upd σ10 ta (.dict []) = σ11 at H11 T11 ⊢
  clear H10 T10 fta
  with_reducible refine WE.str ?_
  with_reducible refine WE.str ?_
  refine ⟨H11.get 12 rfl, ?_⟩
  have H12 := H11.put (o' := .dict (told true)) 12 rfl
  have T12 := T11.put (o' := .dict (told true)) (H11.get 12 rfl) (fun _ z => by cases z) (fun _ z => by cases z)
  rw [show aset (aset [] "I" (.str "whole")) "T" (.str "text") = told true from rfl]
  generalize upd σ11 ta (.dict (told true)) = σ12 at H12 T12 ⊢
  clear H11 T11
  with_reducible refine' WL.cons ?_ ?k1
  case k1 => exact rfl
  with_reducible refine WE.dict0 ?_
  intro ba fba
  have H13 := H12.new (o := .dict []) fba
  have T13 := T12.new (o := .dict []) fba
  generalize upd σ12 ba (.dict []) = σ13 at H13 T13 ⊢
  clear H12 T12 fba
  with_reducible refine WL.nil ?_
  with_reducible refine ⟨?k1, ?_⟩
  case k1 => exact Nat.le_of_ble_eq_true rfl
  with_reducible refine ⟨_, _, rfl, ?_⟩
  with_reducible refine WS.cons ?_
  with_reducible refine' WX.assign ?_ ?k1 ?k2 ?k3
  case k1 => exact rfl
  case k2 => exact rfl
  case k3 => exact rfl
  with_reducible refine' WE.callB ?k1 ?k2 ?k3 ?k8 ?k9 ?_ ?k4 ?k5 ?k6 ?k7
  case k1 => exact rfl
  case k2 => k_is
  case k3 => boot_fast
  case k8 => decide
  case k9 => exact rfl
  case k4 => decide
  case k5 => exact rfl
  case k6 => exact rfl
  case k7 => intro _ _; exact rfl
  with_reducible refine' WL.cons ?_ ?k1
  case k1 => exact rfl
  with_reducible refine' WE.name ?k1 ?k2 ?_ ?k3
  case k1 => exact rfl
  case k2 => exact rfl
  case k3 => decide
  with_reducible refine WL.nil ?_
  refine CT.dictOf (H13.get 12 rfl) (by decide) ?_
  intro kb fkb
  have H14 := H13.new (o := .dict (told true)) fkb
  have T14 := T13.new (o := .dict (told true)) fkb
  generalize upd σ13 kb (.dict (told true)) = σ14 at H14 T14 ⊢
  clear H13 T13 fkb
  with_reducible refine WA.attr ?_
  refine' WE.nameC ?k1 l1 (H14.get 0 rfl) ?_ ?k2
  case k1 => exact rfl
  case k2 => decide
  refine ⟨_, _, _, rfl, worldCls w, af_kinds w, H14.get 6 rfl, Nat.le_of_ble_eq_true rfl, ?_⟩
  rw [aset_kinds]
  have H15 := H14.put (o' := .inst dx (wl { r with kinds := .ref kb })) 6 rfl
  have T15 := T14.put (o' := .inst dx (wl { r with kinds := .ref kb })) (H14.get 6 rfl) (fun _ z => by cases z) (fun _ z => by cases z)
  generalize upd σ14 wa (.inst dx (wl { r with kinds := .ref kb })) = σ15 at H15 T15 ⊢
  clear H14 T14
  have H16 : Has σ15 (lawSt cw cn cv cs b ha wa dx na kb oa nl ra ta ba none none sq 3 { r with kinds := .ref kb } [] [] true) := H15.pick [0, 1, 2, 3, 4, 5, 6, 7, 14, 9, 10, 11, 12, 13] (by decide)
  replace e5 : ({ r with kinds := .ref kb } : Wd).kinds = .ref kb := rfl
  generalize hr' : ({ r with kinds := .ref kb } : Wd) = r' at H16 e5
  replace e1 : r'.bits = .int bits := by rw [← hr']; exact e1
  replace e2 : r'.digits = .int g := by rw [← hr']; exact e2
  replace e3 : r'.most_steps = .int most := by rw [← hr']; exact e3
  replace e4 : r'.names = .ref na := by rw [← hr']; exact e4
  replace e6 : r'.out = .ref oa := by rw [← hr']; exact e6
  replace e7 : r'.row = .str "" := by rw [← hr']; exact e7
  replace e8 : r'.steps = .int 0 := by rw [← hr']; exact e8
  clear H15 hr'
  refine WS.cons ?_
  refine' WX.forRange (LJ ⟨cw, cn, cv, cs, b, ha, wa, dx, oa, nl, ra⟩ sq bits g most) ?k1 ?k2 ?k3 ?_
  case k1 => exact rfl
  case k2 => exact rfl
  case k3 => k_is
  with_reducible refine WE.bin ?_
  with_reducible refine WE.int ?_
  with_reducible refine' WE.callK ?k1 ?k2 ?k3 ?_ ?k4 ?k5 ?k6 ?k7
  case k1 => exact rfl
  case k2 => k_is
  case k3 => k_is
  case k4 => decide
  case k5 => exact rfl
  case k6 => exact rfl
  case k7 => intro _ _; exact rfl
  with_reducible refine' WL.cons ?_ ?k1
  case k1 => exact rfl
  with_reducible refine' WE.name ?k1 ?k2 ?_ ?k3
  case k1 => exact rfl
  case k2 => exact rfl
  case k3 => decide
  with_reducible refine' WL.cons ?_ ?k1
  case k1 => exact rfl
  with_reducible refine WE.int ?_
  with_reducible refine WL.nil ?_
  refine t_draw (many := 9) (H16.get 5 rfl) (H16.get 4 rfl) hai' hll' (by decide) (by decide) (by decide) fun turns hturns => ?_
  refine ⟨_, BinOk.add, 1 + turns, by push_cast; rfl, by omega, ⟨[("told", .ref ta), ("book", .ref ba), ("count", .int ((0 : Nat) : Int)), ("rows", .ref ra), ("names", .ref nl), ("bits", .int bits), ("digits", .int g), ("most", .int most), ("hat", .ref ha)], _, ?_, .refl, none, none, 4, 0, r', na, kb, ta, ba, [], [], true, rfl, H16.put 5 rfl, T15.put (H16.get 5 rfl) (fun _ z => by cases z) (fun _ z => by cases z), e1, e2, e3, e4, e5, e6, e7, e8, by omega, Nat.le_refl _, Nat.le_refl _, (fun _ z => nomatch z), (fun _ z => nomatch z)⟩, ?_, ?_⟩
  · refine Weak.cons rfl ?_
    refine Weak.cons rfl ?_
    refine Weak.cons rfl ?_
    refine Weak.cons rfl ?_
    refine Weak.cons rfl ?_
    refine Weak.cons rfl ?_
    refine Weak.cons rfl ?_
    refine Weak.cons rfl ?_
    refine Weak.cons rfl ?_
    exact Weak.nil
  · intro i loc₁ σ₂ hi hJ
    clear e1 e2 e3 e4 e5 e6 e7 e8 H16 T15
    generalize hA : (⟨cw, cn, cv, cs, b, ha, wa, dx, oa, nl, ra⟩ : AA) = A at hJ ⊢
    obtain ⟨vn, vv, at', count, r, na, ka, ta, ba, bk, rows, tb, J⟩ := hJ
    have hloc := J.hloc
    subst loc₁
    with_reducible refine WS.cons ?_
    with_reducible refine' WX.assign ?_ ?k1 ?k2 ?k3
    case k1 => exact rfl
    case k2 => exact rfl
    case k3 => exact rfl
    with_reducible refine WE.tup ?_
    with_reducible refine' WL.cons ?_ ?k1
    case k1 => exact rfl
    with_reducible refine' WE.callK ?k1 ?k2 ?k3 ?_ ?k4 ?k5 ?k6 ?k7
    case k1 => exact rfl
    case k2 => k_is
    case k3 => k_is
    case k4 => decide
    case k5 => exact rfl
    case k6 => exact rfl
    case k7 => intro _ _; exact rfl
    with_reducible refine' WL.cons ?_ ?k1
    case k1 => exact rfl
    with_reducible refine' WE.name ?k1 ?k2 ?_ ?k3
    case k1 => exact rfl
    case k2 => exact rfl
    case k3 => decide
    with_reducible refine' WL.cons ?_ ?k1
    case k1 => exact rfl
    with_reducible refine WE.int ?_
    with_reducible refine WL.nil ?_
    have hat := J.hat
    have H := J.H
    have T := J.T
    refine t_draw (many := 6) (H.get 5 rfl) (H.get 4 rfl) hai' hll' (by omega) (by decide) (by decide) fun form hform => ?_
    replace T := T.put (o' := .list [.int ((at' + 1 : Nat) : Int), .ref A.b]) (H.get 5 rfl) (fun _ z => by cases z) (fun _ z => by cases z)
    replace H : Has (upd σ₂ A.ha (.list [.int ((at' + 1 : Nat) : Int), .ref A.b])) (lawSt A.cw A.cn A.cv A.cs A.b A.ha A.wa A.dx na ka A.oa A.nl A.ra ta ba vn vv sq (at' + 1) r bk rows tb) := H.put 5 rfl
    generalize upd σ₂ A.ha (.list [.int ((at' + 1 : Nat) : Int), .ref A.b]) = σ3 at H T ⊢
    with_reducible refine' WL.cons ?_ ?k1
    case k1 => exact rfl
    with_reducible refine' WE.sub ?_ ?k1
    case k1 => intro _ _; exact rfl
    with_reducible refine' WE.name ?k1 ?k2 ?_ ?k3
    case k1 => exact rfl
    case k2 => exact rfl
    case k3 => decide
    with_reducible refine' WE.callK ?k1 ?k2 ?k3 ?_ ?k4 ?k5 ?k6 ?k7
    case k1 => exact rfl
    case k2 => k_is
    case k3 => k_is
    case k4 => decide
    case k5 => exact rfl
    case k6 => exact rfl
    case k7 => intro _ _; exact rfl
    with_reducible refine' WL.cons ?_ ?k1
    case k1 => exact rfl
    with_reducible refine' WE.name ?k1 ?k2 ?_ ?k3
    case k1 => exact rfl
    case k2 => exact rfl
    case k3 => decide
    with_reducible refine' WL.cons ?_ ?k1
    case k1 => exact rfl
    with_reducible refine WE.int ?_
    with_reducible refine WL.nil ?_
    refine t_draw (many := 7) (H.get 5 rfl) (H.get 4 rfl) hai' hll' (by omega) (by decide) (by decide) fun k hk => ?_
    replace T := T.put (o' := .list [.int ((at' + 1 + 1 : Nat) : Int), .ref A.b]) (H.get 5 rfl) (fun _ z => by cases z) (fun _ z => by cases z)
    replace H : Has (upd σ3 A.ha (.list [.int ((at' + 1 + 1 : Nat) : Int), .ref A.b])) (lawSt A.cw A.cn A.cv A.cs A.b A.ha A.wa A.dx na ka A.oa A.nl A.ra ta ba vn vv sq (at' + 1 + 1) r bk rows tb) := H.put 5 rfl
    generalize upd σ3 A.ha (.list [.int ((at' + 1 + 1 : Nat) : Int), .ref A.b]) = σ4 at H T ⊢
    obtain ⟨n, hn, n1, n2, n3⟩ : ∃ n : Str, seven[k]? = some (.str n) ∧ 1 ≤ n.length ∧ n.length ≤ 100 ∧ Txt.item n (-1) = lastOf n := by
      match k, hk with
      | 0, _ => exact ⟨"A%", rfl, by decide, by decide, by decide⟩
      | 1, _ => exact ⟨"A$", rfl, by decide, by decide, by decide⟩
      | 2, _ => exact ⟨"A", rfl, by decide, by decide, by decide⟩
      | 3, _ => exact ⟨"IX", rfl, by decide, by decide, by decide⟩
      | 4, _ => exact ⟨"I!", rfl, by decide, by decide, by decide⟩
      | 5, _ => exact ⟨"T", rfl, by decide, by decide, by decide⟩
      | 6, _ => exact ⟨"T%", rfl, by decide, by decide, by decide⟩
    refine ⟨_, ItemOk.list (H.get 10 rfl) (by omega) (by omega) (by rw [Int.toNat_natCast]; exact hn), ?_⟩
    clear hn hk
    with_reducible refine WL.nil ?_
    with_reducible refine ⟨?k1, ?_⟩
    case k1 => exact Nat.le_of_ble_eq_true rfl
    with_reducible refine' WA.tup ?k1 ?k2 ?_
    case k1 => exact rfl
    case k2 => exact rfl
    with_reducible refine' WAs.cons ?_ ?k1
    case k1 => exact rfl
    with_reducible refine' WA.name ?k1 ?_
    case k1 => exact rfl
    with_reducible refine' WAs.cons ?_ ?k1
    case k1 => exact rfl
    refine' WA.nameC ?k1 (by rw [← hA]; exact l2) (H.get 1 rfl) ?_
    case k1 => exact rfl
    replace T := T.put (o' := .cell (some (.str n))) (H.get 1 rfl) (fun _ z => by cases z) (fun _ z => by cases z)
    replace H : Has (upd σ4 A.cn (.cell (some (.str n)))) (lawSt A.cw A.cn A.cv A.cs A.b A.ha A.wa A.dx na ka A.oa A.nl A.ra ta ba (some (.str n)) vv sq (at' + 1 + 1) r bk rows tb) := H.put 1 rfl
    generalize upd σ4 A.cn (.cell (some (.str n))) = σ5 at H T ⊢
    with_reducible refine WAs.nil ?_
    with_reducible refine WS.cons ?_
    with_reducible refine' WX.assign ?_ ?k1 ?k2 ?k3
    case k1 => exact rfl
    case k2 => exact rfl
    case k3 => exact rfl
    with_reducible refine' WE.get ?_ ?k1 ?k2 ?k3
    case k1 => exact rfl
    case k2 => exact rfl
    case k3 => exact rfl
    have m1 : cl.lookup ("world" : Str) = some A.cw := by rw [← hA]; exact l1
    have m2 : cl.lookup ("name" : Str) = some A.cn := by rw [← hA]; exact l2
    have m3 : cl.lookup ("value" : Str) = some A.cv := by rw [← hA]; exact l3
    refine WE.dict3 ?_
    intro kd fkd
    have Hk := H.new (o := .dict []) fkd
    replace T := T.new (o := .dict []) fkd
    generalize upd σ5 kd (.dict []) = σ6 at Hk T ⊢
    with_reducible refine WE.str ?_
    with_reducible refine WE.str ?_
    with_reducible refine WE.str ?_
    refine ⟨Hk.get 14 rfl, ?_⟩
    rw [show aset (aset (aset [] "%" (.str "whole")) "$" (.str "text")) "!" (.str "decimal") = marks3 from rfl]
    replace T := T.put (o' := .dict marks3) (Hk.get 14 rfl) (fun _ z => by cases z) (fun _ z => by cases z)
    replace Hk := Hk.put (o' := .dict marks3) 14 rfl
    generalize upd σ6 kd (.dict marks3) = σ7 at Hk T ⊢
    refine ⟨_, rfl, ⟨_, Hk.get 14 rfl⟩, ?_⟩
    with_reducible refine' WE.sub ?_ ?k1
    case k1 => intro _ _; exact rfl
    refine' WE.nameC ?k1 m2 (Hk.get 1 rfl) ?_ ?k2
    case k1 => exact rfl
    case k2 => decide
    with_reducible refine WE.neg ?_
    with_reducible refine WE.int ?_
    with_reducible refine ⟨_, rfl, ?_⟩
    refine ⟨_, ItemOk.str (by omega) (by omega) (by omega), ?_⟩
    rw [n3]
    with_reducible refine' WE.get ?_ ?k1 ?k2 ?k3
    case k1 => exact rfl
    case k2 => exact rfl
    case k3 => exact rfl
    with_reducible refine' WE.name ?k1 ?k2 ?_ ?k3
    case k1 => exact rfl
    case k2 => exact rfl
    case k3 => decide
    refine ⟨_, rfl, ⟨_, Hk.get 12 rfl⟩, ?_⟩
    with_reducible refine' WE.sub ?_ ?k1
    case k1 => intro _ _; exact rfl
    refine' WE.nameC ?k1 m2 (Hk.get 1 rfl) ?_ ?k2
    case k1 => exact rfl
    case k2 => decide
    with_reducible refine WE.int ?_
    refine ⟨_, ItemOk.str (by omega) (by omega) (by omega), ?_⟩
    with_reducible refine WE.str ?_
    refine ⟨_, _, rfl, Hk.get 12 rfl, ?_⟩
    refine ⟨_, _, rfl, Hk.get 14 rfl, ?_⟩
    rw [show Txt.item n 0 = headOf n from rfl, kindOf_law]
    replace H : Has σ7 (lawSt A.cw A.cn A.cv A.cs A.b A.ha A.wa A.dx na ka A.oa A.nl A.ra ta ba (some (.str n)) vv sq (at' + 1 + 1) r bk rows tb) := Hk.take 14
    clear Hk fkd
    with_reducible refine' WA.name ?k1 ?_
    case k1 => exact rfl
    with_reducible refine WS.cons ?_
    refine WX.join (fun l s => ∃ l' vv at' count r na ka ta ba bk rows tb, Weak (("kind", .str (kindOf n tb)) :: l') l ∧ LJ0 A sq bits g most (i + 1) l' s (some (.str n)) vv at' count r na ka ta ba bk rows tb) ?_ ?_
    · with_reducible refine WX.if ?_
      with_reducible refine' WT.cmp1 ?_ ?k1
      case k1 => exact rfl
      with_reducible refine' WE.name ?k1 ?k2 ?_ ?k3
      case k1 => exact rfl
      case k2 => exact rfl
      case k3 => decide
      with_reducible refine WE.int ?_
      with_reducible refine ⟨_, CmpOk.ltI, ?_⟩
      refine ite_dec (fun h3 => ?_) (fun h3 => ?_)
      · with_reducible refine WS.cons ?_
        with_reducible refine' WX.assign ?_ ?k1 ?k2 ?k3
        case k1 => exact rfl
        case k2 => exact rfl
        case k3 => exact rfl
        with_reducible refine' WE.callK ?k1 ?k2 ?k3 ?_ ?k4 ?k5 ?k6 ?k7
        case k1 => exact rfl
        case k2 => k_is
        case k3 => k_is
        case k4 => decide
        case k5 => exact rfl
        case k6 => exact rfl
        case k7 => intro _ _; exact rfl
        with_reducible refine' WL.cons ?_ ?k1
        case k1 => exact rfl
        with_reducible refine' WE.name ?k1 ?k2 ?_ ?k3
        case k1 => exact rfl
        case k2 => exact rfl
        case k3 => decide
        with_reducible refine WL.nil ?_
        refine t_value (H.get 5 rfl) (H.get 4 rfl) hai' hll' (by omega) (by decide) fun v hv => ?_
        replace T := T.put (o' := .list [.int ((at' + 1 + 1 + 2 : Nat) : Int), .ref A.b]) (H.get 5 rfl) (fun _ z => by cases z) (fun _ z => by cases z)
        replace H : Has (upd σ7 A.ha (.list [.int ((at' + 1 + 1 + 2 : Nat) : Int), .ref A.b])) (lawSt A.cw A.cn A.cv A.cs A.b A.ha A.wa A.dx na ka A.oa A.nl A.ra ta ba (some (.str n)) vv sq (at' + 1 + 1 + 2) r bk rows tb) := H.put 5 rfl
        generalize upd σ7 A.ha (.list [.int ((at' + 1 + 1 + 2 : Nat) : Int), .ref A.b]) = σ8 at H T ⊢
        refine' WA.nameC ?k1 m3 (H.get 2 rfl) ?_
        case k1 => exact rfl
        replace T := T.put (o' := .cell (some v)) (H.get 2 rfl) (fun _ z => by cases z) (fun _ z => by cases z)
        replace H : Has (upd σ8 A.cv (.cell (some v))) (lawSt A.cw A.cn A.cv A.cs A.b A.ha A.wa A.dx na ka A.oa A.nl A.ra ta ba (some (.str n)) (some v) sq (at' + 1 + 1 + 2) r bk rows tb) := H.put 2 rfl
        generalize upd σ8 A.cv (.cell (some v)) = σ9 at H T ⊢
        with_reducible refine WS.cons ?_
        with_reducible refine' WX.assign ?_ ?k1 ?k2 ?k3
        case k1 => exact rfl
        case k2 => exact rfl
        case k3 => exact rfl
        with_reducible refine' WE.callK ?k1 ?k2 ?k3 ?_ ?k4 ?k5 ?k6 ?k7
        case k1 => exact rfl
        case k2 => k_is
        case k3 => k_is
        case k4 => decide
        case k5 => exact rfl
        case k6 => exact rfl
        case k7 => intro _ _; exact rfl
        with_reducible refine' WL.cons ?_ ?k1
        case k1 => exact rfl
        refine' WE.nameC ?k1 m3 (H.get 2 rfl) ?_ ?k2
        case k1 => exact rfl
        case k2 => decide
        with_reducible refine' WL.cons ?_ ?k1
        case k1 => exact rfl
        with_reducible refine' WE.name ?k1 ?k2 ?_ ?k3
        case k1 => exact rfl
        case k2 => exact rfl
        case k3 => decide
        with_reducible refine' WL.cons ?_ ?k1
        case k1 => exact rfl
        with_reducible refine' WE.name ?k1 ?k2 ?_ ?k3
        case k1 => exact rfl
        case k2 => exact rfl
        case k3 => decide
        with_reducible refine' WL.cons ?_ ?k1
        case k1 => exact rfl
        with_reducible refine' WE.name ?k1 ?k2 ?_ ?k3
        case k1 => exact rfl
        case k2 => exact rfl
        case k3 => decide
        with_reducible refine WL.nil ?_
        refine t_kept (kindOf_or n tb) hv (by omega) (by omega) hg3.1 hg3.2 (by decide) ?_
        with_reducible refine' WA.name ?k1 ?_
        case k1 => exact rfl
        with_reducible refine WS.cons ?_
        with_reducible refine' WX.assign ?_ ?k1 ?k2 ?k3
        case k1 => exact rfl
        case k2 => exact rfl
        case k3 => exact rfl
        refine WE.joinV (fun u s => s = σ9 ∧ u = .bool (wrong (kp v (kindOf n tb) bits g))) ?_ ?_
        · refine WE.and2 ?_
          with_reducible refine' WE.callB ?k1 ?k2 ?k3 ?k8 ?k9 ?_ ?k4 ?k5 ?k6 ?k7
          case k1 => exact rfl
          case k2 => k_is
          case k3 => boot_fast
          case k8 => decide
          case k9 => exact rfl
          case k4 => decide
          case k5 => exact rfl
          case k6 => exact rfl
          case k7 => intro _ _; exact rfl
          with_reducible refine' WL.cons ?_ ?k1
          case k1 => exact rfl
          with_reducible refine' WE.name ?k1 ?k2 ?_ ?k3
          case k1 => exact rfl
          case k2 => exact rfl
          case k3 => decide
          with_reducible refine' WL.cons ?_ ?k1
          case k1 => exact rfl
          with_reducible refine' WE.tyName ?k1 ?k2 ?k4 ?k5 ?_ ?k3
          case k1 => exact rfl
          case k2 => k_is
          case k4 => boot_fast
          case k5 => decide
          case k3 => decide
          with_reducible refine WL.nil ?_
          refine CT.isStr (due_plain hv) due_notNone ?_
          refine ⟨_, rfl, ?_⟩
          cases hkp : kp v (kindOf n tb) bits g with
          | ok x =>
            rw [due_ok hkp]
            cases hx : isS x with
            | false =>
              refine (if_neg Bool.false_ne_true).mpr ?_
              exact ⟨rfl, rfl⟩
            | true =>
              obtain ⟨y, rfl⟩ : ∃ y, x = .str y := by cases x with | str y => exact ⟨y, rfl⟩ | _ => cases hx
              obtain ⟨hs1, hs2⟩ := kp_slice hv hkp
              refine (if_pos (rfl : true = true)).mpr ?_
              with_reducible refine' WE.cmp1 ?_ ?k1
              case k1 => exact rfl
              refine WE.subS ?_
              with_reducible refine' WE.name ?k1 ?k2 ?_ ?k3
              case k1 => exact rfl
              case k2 => exact rfl
              case k3 => decide
              refine ⟨_, rfl, by omega, ?_⟩
              with_reducible refine WE.str ?_
              refine ⟨_, CmpOk.eqS, rfl, ?_⟩
              rw [beq_eq_false_iff_ne.mpr hs1]
              rfl
          | err c =>
            rw [due_err hkp]
            obtain ⟨hs1, hs2⟩ := err_slice (kp_code hkp)
            refine (if_pos (rfl : true = true)).mpr ?_
            with_reducible refine' WE.cmp1 ?_ ?k1
            case k1 => exact rfl
            refine WE.subS ?_
            with_reducible refine' WE.name ?k1 ?k2 ?_ ?k3
            case k1 => exact rfl
            case k2 => exact rfl
            case k3 => decide
            refine ⟨_, rfl, by omega, ?_⟩
            with_reducible refine WE.str ?_
            refine ⟨_, CmpOk.eqS, rfl, ?_⟩
            rw [hs1]
            rfl
        rintro u s ⟨hs1, hs2⟩
        subst s u
        with_reducible refine' WA.name ?k1 ?_
        case k1 => exact rfl
        with_reducible refine WS.cons ?_
        with_reducible refine WX.if ?_
        with_reducible refine' WT.cmp1 ?_ ?k1
        case k1 => exact rfl
        refine WE.joinV (fun u s => u = (match kp v (kindOf n tb) bits g with | .ok _ => V.none | .err c => .str ("error " ++ c)) ∧ TabOk 243 "law.<locals>.<lambda>" s ∧
          Has s ((lawSt A.cw A.cn A.cv A.cs A.b A.ha A.wa A.dx na ka A.oa A.nl A.ra ta ba (some (.str n)) (some v) sq (at' + 1 + 1 + 2) r bk rows tb).set 7 (na, .dict (match kp v (kindOf n tb) bits g with | .ok x => aset bk n x | .err _ => bk)))) ?_ ?_
        · with_reducible refine' WE.callK ?k1 ?k2 ?k3 ?_ ?k4 ?k5 ?k6 ?k7
          case k1 => exact rfl
          case k2 => k_is
          case k3 => k_is
          case k4 => decide
          case k5 => exact rfl
          case k6 => exact rfl
          case k7 => intro _ _; exact rfl
          with_reducible refine' WL.cons ?_ ?k1
          case k1 => exact rfl
          refine' WE.lambda (P := 243) (qual := "law.<locals>.<lambda>") (clos := [("world", A.cw), ("value", A.cv), ("name", A.cn)]) ?hcode (lawCode w) ?hcl ?hq T ?_
          case hcode => exact rfl
          case hq => exact rfl
          case hcl =>
            unfold closureFor PySem.cellOf
            simp [m1, m2, m3]
          intro f c' σ10 T10 hf hc hkeep
          have H10 := lawSt_keep H T hkeep
          with_reducible refine WL.nil ?_
          refine t_heard hf (by decide) ?_
          refine CT.lam (d := 18) hf hc (by decide) rfl rfl rfl fun L' => ?_
          with_reducible refine' WE.callK ?k1 ?k2 ?k3 ?_ ?k4 ?k5 ?k6 ?k7
          case k1 => exact rfl
          case k2 => k_is
          case k3 => k_is
          case k4 => decide
          case k5 => exact rfl
          case k6 => exact rfl
          case k7 => intro _ _; exact rfl
          with_reducible refine' WL.cons ?_ ?k1
          case k1 => exact rfl
          refine' WE.nameF ?k1 ?k2 (H10.get 0 rfl) ?_ ?k3 ?k4
          case k1 => exact rfl
          case k2 => exact rfl
          case k3 => decide
          case k4 => decide
          with_reducible refine' WL.cons ?_ ?k1
          case k1 => exact rfl
          refine' WE.nameF ?k1 ?k2 (H10.get 1 rfl) ?_ ?k3 ?k4
          case k1 => exact rfl
          case k2 => exact rfl
          case k3 => decide
          case k4 => decide
          with_reducible refine' WL.cons ?_ ?k1
          case k1 => exact rfl
          refine' WE.nameF ?k1 ?k2 (H10.get 2 rfl) ?_ ?k3 ?k4
          case k1 => exact rfl
          case k2 => exact rfl
          case k3 => decide
          case k4 => decide
          with_reducible refine WL.nil ?_
          refine t_set_name (b := tb) (bits := bits) (g := g) n1 n2 (H10.get 6 rfl) (congrArg some J.e5) (H10.get 8 rfl) (congrArg some J.e4) (H10.get 7 rfl) (congrArg some J.e1) (congrArg some J.e2) hv (by omega) (by omega) hg3.1 hg3.2 (by have := J.hbk; omega) (by decide) (fun x hx => ?_) (fun c hx => ?_)
          · rw [hx]
            exact ⟨rfl, T10.put (H10.get 7 rfl) (fun _ z => by cases z) (fun _ z => by cases z), H10.put 7 rfl⟩
          · rw [hx]
            refine ⟨?_, rfl, T10, H10⟩
            rcases kp_code hx with rfl | rfl | rfl <;> decide
        rintro u s ⟨hu, T, H⟩
        subst u
        with_reducible refine WE.ifexp ?_
        with_reducible refine' WT.plain ?_ ?k1
        case k1 => intro _; exact rfl
        with_reducible refine' WE.name ?k1 ?k2 ?_ ?k3
        case k1 => exact rfl
        case k2 => exact rfl
        case k3 => decide
        refine ⟨_, rfl, ?_⟩
        cases hkp : kp v (kindOf n tb) bits g with
        | ok x =>
          rw [hkp] at H
          dsimp only at H
          refine (if_neg Bool.false_ne_true).mpr ?_
          with_reducible refine WE.constNone ?_
          refine ⟨_, CmpOk.neRefl ⟨_, .none⟩, ?_⟩
          refine (if_neg Bool.false_ne_true).mpr ?_
          with_reducible refine WS.nil ?_
          with_reducible refine WS.cons ?_
          with_reducible refine WX.if ?_
          with_reducible refine WT.not ?_
          with_reducible refine' WT.plain ?_ ?k1
          case k1 => intro _; exact rfl
          with_reducible refine' WE.name ?k1 ?k2 ?_ ?k3
          case k1 => exact rfl
          case k2 => exact rfl
          case k3 => decide
          with_reducible refine ⟨_, rfl, ?_⟩
          refine (if_pos (rfl : true = true)).mpr ?_
          with_reducible refine WS.cons ?_
          with_reducible refine' WX.assign ?_ ?k1 ?k2 ?k3
          case k1 => exact rfl
          case k2 => exact rfl
          case k3 => exact rfl
          with_reducible refine' WE.name ?k1 ?k2 ?_ ?k3
          case k1 => exact rfl
          case k2 => exact rfl
          case k3 => decide
          with_reducible refine WA.sub ?_
          with_reducible refine' WE.name ?k1 ?k2 ?_ ?k3
          case k1 => exact rfl
          case k2 => exact rfl
          case k3 => decide
          refine' WE.nameC ?k1 m2 (H.get 1 rfl) ?_ ?k2
          case k1 => exact rfl
          case k2 => decide
          refine .inl ⟨_, _, _, rfl, rfl, H.get 13 rfl, by have := J.hbk; omega, ?_⟩
          rw [due_ok hkp]
          replace T := T.put (o' := .dict (aset bk n x)) (H.get 13 rfl) (fun _ z => by cases z) (fun _ z => by cases z)
          replace H : Has (upd s ba (.dict (aset bk n x))) (lawSt A.cw A.cn A.cv A.cs A.b A.ha A.wa A.dx na ka A.oa A.nl A.ra ta ba (some (.str n)) (some v) sq (at' + 1 + 1 + 2) r (aset bk n x) rows tb) := H.put 13 rfl
          with_reducible refine WS.nil ?_
          with_reducible refine WS.nil ?_
          refine ⟨_, _, _, _, _, _, _, _, _, _, _, _, ?_, rfl, H, T, J.e1, J.e2, J.e3, J.e4, J.e5, J.e6, J.e7, J.e8, by omega, ?_, ?_, ?_, J.prows⟩
          · refine Weak.cons rfl ?_
            refine Weak.cons rfl ?_
            refine Weak.cons rfl ?_
            refine Weak.cons rfl ?_
            refine Weak.cons rfl ?_
            refine Weak.cons rfl ?_
            refine Weak.cons rfl ?_
            refine Weak.cons rfl ?_
            refine Weak.cons rfl ?_
            refine Weak.cons rfl ?_
            exact Weak.nil
          · have := J.hrows; omega
          · have := aset_len bk n x; have := J.hbk; omega
          · intro p hp
            rcases aset_mem hp with hp | hp
            · exact J.pbk p hp
            · rw [hp]; exact kp_plain hv hkp
        | err c =>
          rw [hkp] at H
          dsimp only at H
          refine (if_pos (rfl : true = true)).mpr ?_
          with_reducible refine' WE.name ?k1 ?k2 ?_ ?k3
          case k1 => exact rfl
          case k2 => exact rfl
          case k3 => decide
          rw [due_err hkp]
          refine ⟨_, CmpOk.neRefl ⟨_, .str _⟩, ?_⟩
          refine (if_neg Bool.false_ne_true).mpr ?_
          with_reducible refine WS.nil ?_
          with_reducible refine WS.cons ?_
          with_reducible refine WX.if ?_
          with_reducible refine WT.not ?_
          with_reducible refine' WT.plain ?_ ?k1
          case k1 => intro _; exact rfl
          with_reducible refine' WE.name ?k1 ?k2 ?_ ?k3
          case k1 => exact rfl
          case k2 => exact rfl
          case k3 => decide
          with_reducible refine ⟨_, rfl, ?_⟩
          refine (if_neg Bool.false_ne_true).mpr ?_
          with_reducible refine WS.nil ?_
          with_reducible refine WS.nil ?_
          refine ⟨_, _, _, _, _, _, _, _, _, _, _, _, ?_, rfl, H, T, J.e1, J.e2, J.e3, J.e4, J.e5, J.e6, J.e7, J.e8, by omega, ?_, ?_, J.pbk, J.prows⟩
          · refine Weak.cons rfl ?_
            refine Weak.cons rfl ?_
            refine Weak.cons rfl ?_
            refine Weak.cons rfl ?_
            refine Weak.cons rfl ?_
            refine Weak.cons rfl ?_
            refine Weak.cons rfl ?_
            refine Weak.cons rfl ?_
            refine Weak.cons rfl ?_
            refine Weak.cons rfl ?_
            exact Weak.nil
          · have := J.hrows; omega
          · have := J.hbk; omega
      · with_reducible refine WS.cons ?_
        with_reducible refine WX.if ?_
        with_reducible refine' WT.cmp1 ?_ ?k1
        case k1 => exact rfl
        with_reducible refine' WE.name ?k1 ?k2 ?_ ?k3
        case k1 => exact rfl
        case k2 => exact rfl
        case k3 => decide
        with_reducible refine WE.int ?_
        with_reducible refine ⟨_, CmpOk.eqI, ?_⟩
        refine ite_beq (fun h4 => ?_) (fun h4 => ?_)
        · with_reducible refine WS.cons ?_
          with_reducible refine' WX.assign ?_ ?k1 ?k2 ?k3
          case k1 => exact rfl
          case k2 => exact rfl
          case k3 => exact rfl
          with_reducible refine WE.bin ?_
          with_reducible refine' WE.name ?k1 ?k2 ?_ ?k3
          case k1 => exact rfl
          case k2 => exact rfl
          case k3 => decide
          with_reducible refine WE.int ?_
          with_reducible refine ⟨_, BinOk.add, ?_⟩
          with_reducible refine' WA.name ?k1 ?_
          case k1 => exact rfl
          with_reducible refine WS.cons ?_
          with_reducible refine WX.if ?_
          with_reducible refine WT.or2 ?_
          with_reducible refine' WT.cmp1 ?_ ?k1
          case k1 => exact rfl
          refine WE.joinV (fun u s => u = (if (count : Int) + 1 > (most : Int) then .str "error ST" else V.none) ∧ TabOk 243 "law.<locals>.<lambda>" s ∧
            Has s (lawSt A.cw A.cn A.cv A.cs A.b A.ha A.wa A.dx na ka A.oa A.nl A.ra ta ba (some (.str n)) vv sq (at' + 1 + 1) { r with steps := .int ((count : Int) + 1) } bk rows tb)) ?_ ?_
          · with_reducible refine' WE.callK ?k1 ?k2 ?k3 ?_ ?k4 ?k5 ?k6 ?k7
            case k1 => exact rfl
            case k2 => k_is
            case k3 => k_is
            case k4 => decide
            case k5 => exact rfl
            case k6 => exact rfl
            case k7 => intro _ _; exact rfl
            with_reducible refine' WL.cons ?_ ?k1
            case k1 => exact rfl
            refine' WE.lambda (P := 243) (qual := "law.<locals>.<lambda>") (clos := [("world", A.cw)]) ?hcode (lawCode w) ?hcl ?hq T ?_
            case hcode => exact rfl
            case hq => exact rfl
            case hcl =>
              unfold closureFor PySem.cellOf
              simp [m1, m2, m3]
            intro f c' σ10 T10 hf hc hkeep
            have H10 := lawSt_keep H T hkeep
            with_reducible refine WL.nil ?_
            refine t_heard hf (by decide) ?_
            refine CT.lam (d := 18) hf hc (by decide) rfl rfl rfl fun L' => ?_
            with_reducible refine' WE.callK ?k1 ?k2 ?k3 ?_ ?k4 ?k5 ?k6 ?k7
            case k1 => exact rfl
            case k2 => k_is
            case k3 => k_is
            case k4 => decide
            case k5 => exact rfl
            case k6 => exact rfl
            case k7 => intro _ _; exact rfl
            with_reducible refine' WL.cons ?_ ?k1
            case k1 => exact rfl
            refine' WE.nameF ?k1 ?k2 (H10.get 0 rfl) ?_ ?k3 ?k4
            case k1 => exact rfl
            case k2 => exact rfl
            case k3 => decide
            case k4 => decide
            with_reducible refine WL.nil ?_
            refine t_step (i := count) (m := most) (H10.get 6 rfl) (Nat.le_of_ble_eq_true rfl) (congrArg some J.e8) (congrArg some J.e3) (by decide) (fun hx => ?_) (fun hx => ?_)
            · rw [aset_steps]
              exact ⟨(if_neg hx).symm, T10.put (H10.get 6 rfl) (fun _ z => by cases z) (fun _ z => by cases z), H10.put 6 rfl⟩
            · rw [aset_steps]
              refine ⟨by decide, ?_, T10.put (H10.get 6 rfl) (fun _ z => by cases z) (fun _ z => by cases z), H10.put 6 rfl⟩
              rw [if_pos hx]
              exact congrArg V.str (by decide +kernel)
          rintro u s ⟨hu, T, H⟩
          subst u
          refine WE.joinV (fun u s' => s' = s ∧ u = (if (count : Int) + 1 > (most : Int) then .str "error ST" else V.none)) ?_ ?_
          · with_reducible refine WE.ifexp ?_
            with_reducible refine' WT.cmp1 ?_ ?k1
            case k1 => exact rfl
            with_reducible refine' WE.name ?k1 ?k2 ?_ ?k3
            case k1 => exact rfl
            case k2 => exact rfl
            case k3 => decide
            with_reducible refine' WE.name ?k1 ?k2 ?_ ?k3
            case k1 => exact rfl
            case k2 => exact rfl
            case k3 => decide
            with_reducible refine ⟨_, CmpOk.gtI, ?_⟩
            refine ite_dec (fun hx => ?_) (fun hx => ?_)
            · with_reducible refine WE.str ?_
              exact ⟨rfl, (if_pos hx).symm⟩
            · with_reducible refine WE.constNone ?_
              exact ⟨rfl, (if_neg hx).symm⟩
          rintro u s' ⟨hs, hu⟩
          subst s' u
          refine ⟨_, CmpOk.neRefl (by split; exact ⟨_, .str _⟩; exact ⟨_, .none⟩), ?_⟩
          refine (if_neg Bool.false_ne_true).mpr ?_
          with_reducible refine' WT.cmp1 ?_ ?k1
          case k1 => exact rfl
          with_reducible refine' WE.attr ?_ ?k1
          case k1 => exact rfl
          refine' WE.nameC ?k1 m1 (H.get 0 rfl) ?_ ?k2
          case k1 => exact rfl
          case k2 => decide
          refine ⟨_, _, _, _, rfl, worldCls w, af_steps w, H.get 6 rfl, rfl, ?_⟩
          with_reducible refine' WE.name ?k1 ?k2 ?_ ?k3
          case k1 => exact rfl
          case k2 => exact rfl
          case k3 => decide
          refine ⟨_, CmpOk.neI, ?_⟩
          rw [bne_self_eq_false]
          refine (if_neg Bool.false_ne_true).mpr ?_
          with_reducible refine WS.nil ?_
          with_reducible refine WS.nil ?_
          with_reducible refine WS.nil ?_
          refine ⟨_, _, _, count + 1, _, _, _, _, _, _, _, _, ?_, rfl, H, T, J.e1, J.e2, J.e3, J.e4, J.e5, J.e6, J.e7, rfl, by omega, ?_, ?_, J.pbk, J.prows⟩
          · refine Weak.cons rfl ?_
            refine Weak.cons rfl ?_
            refine Weak.cons rfl ?_
            refine Weak.cons rfl ?_
            refine Weak.cons rfl ?_
            refine Weak.cons rfl ?_
            refine Weak.cons rfl ?_
            refine Weak.cons rfl ?_
            refine Weak.cons rfl ?_
            refine Weak.cons rfl ?_
            exact Weak.nil
          · have := J.hrows; omega
          · have := J.hbk; omega
        · with_reducible refine WS.cons ?_
          with_reducible refine WX.if ?_
          with_reducible refine' WT.cmp1 ?_ ?k1
          case k1 => exact rfl
          with_reducible refine' WE.name ?k1 ?k2 ?_ ?k3
          case k1 => exact rfl
          case k2 => exact rfl
          case k3 => decide
          with_reducible refine WE.int ?_
          with_reducible refine ⟨_, CmpOk.eqI, ?_⟩
          refine ite_beq (fun h5 => ?_) (fun h5 => ?_)
          · have hfl : (PySem.Str.ofString (toString (i : Int))).length ≤ 1 := by rw [figs_len]; exact (figs_le (by decide)).mpr (by omega)
            have hrl : ("row" : Str).length = 3 := by decide
            with_reducible refine WS.cons ?_
            with_reducible refine' WX.expr ?_ ?k1 ?k2
            case k1 => exact rfl
            case k2 => exact rfl
            with_reducible refine' WE.callK ?k1 ?k2 ?k3 ?_ ?k4 ?k5 ?k6 ?k7
            case k1 => exact rfl
            case k2 => k_is
            case k3 => k_is
            case k4 => decide
            case k5 => exact rfl
            case k6 => exact rfl
            case k7 => intro _ _; exact rfl
            with_reducible refine' WL.cons ?_ ?k1
            case k1 => exact rfl
            refine' WE.nameC ?k1 m1 (H.get 0 rfl) ?_ ?k2
            case k1 => exact rfl
            case k2 => decide
            with_reducible refine' WL.cons ?_ ?k1
            case k1 => exact rfl
            with_reducible refine WE.bin ?_
            with_reducible refine WE.str ?_
            with_reducible refine' WE.callB ?k1 ?k2 ?k3 ?k8 ?k9 ?_ ?k4 ?k5 ?k6 ?k7
            case k1 => exact rfl
            case k2 => k_is
            case k3 => boot_fast
            case k8 => decide
            case k9 => exact rfl
            case k4 => decide
            case k5 => exact rfl
            case k6 => exact rfl
            case k7 => intro _ _; exact rfl
            with_reducible refine' WL.cons ?_ ?k1
            case k1 => exact rfl
            with_reducible refine' WE.name ?k1 ?k2 ?_ ?k3
            case k1 => exact rfl
            case k2 => exact rfl
            case k3 => decide
            with_reducible refine WL.nil ?_
            refine CT.strI (by omega) ?_
            refine ⟨_, BinOk.cat (by rw [sizeLine_eq]; omega), ?_⟩
            with_reducible refine WL.nil ?_
            refine t_put_row (row := "") (H.get 6 rfl) (congrArg some J.e6) (H.get 9 rfl) (congrArg some J.e7) (Nat.le_of_ble_eq_true rfl) (by have := J.hrows; omega) (by decide) (by rw [cat_len]; omega) (by decide) ?_
            rw [aset_row, cat_nil]
            have T2 := (T.put (o' := .list (rows ++ [.str ("row" ++ PySem.Str.ofString (toString (i : Int)))])) (H.get 9 rfl) (fun _ z => by cases z) (fun _ z => by cases z)).put (o' := .inst A.dx (wl { r with row := .str "" })) ((H.put 9 rfl).get 6 rfl) (fun _ z => by cases z) (fun _ z => by cases z)
            have H2 := (H.put (o' := .list (rows ++ [.str ("row" ++ PySem.Str.ofString (toString (i : Int)))])) 9 rfl).put (o' := .inst A.dx (wl { r with row := .str "" })) 6 rfl
            generalize upd (upd σ7 A.oa (.list (rows ++ [.str ("row" ++ PySem.Str.ofString (toString (i : Int)))]))) A.wa (.inst A.dx (wl { r with row := .str "" })) = σ8 at H2 T2 ⊢
            with_reducible refine WS.cons ?_
            with_reducible refine' WX.expr ?_ ?k1 ?k2
            case k1 => exact rfl
            case k2 => exact rfl
            with_reducible refine' WE.append ?_ ?k1 ?k2 ?k3
            case k1 => exact rfl
            case k2 => exact rfl
            case k3 => exact rfl
            with_reducible refine' WE.name ?k1 ?k2 ?_ ?k3
            case k1 => exact rfl
            case k2 => exact rfl
            case k3 => decide
            refine ⟨_, rfl, ⟨_, H2.get 11 rfl⟩, ?_⟩
            with_reducible refine WE.bin ?_
            with_reducible refine WE.str ?_
            with_reducible refine' WE.callB ?k1 ?k2 ?k3 ?k8 ?k9 ?_ ?k4 ?k5 ?k6 ?k7
            case k1 => exact rfl
            case k2 => k_is
            case k3 => boot_fast
            case k8 => decide
            case k9 => exact rfl
            case k4 => decide
            case k5 => exact rfl
            case k6 => exact rfl
            case k7 => intro _ _; exact rfl
            with_reducible refine' WL.cons ?_ ?k1
            case k1 => exact rfl
            with_reducible refine' WE.name ?k1 ?k2 ?_ ?k3
            case k1 => exact rfl
            case k2 => exact rfl
            case k3 => decide
            with_reducible refine WL.nil ?_
            refine CT.strI (by omega) ?_
            refine ⟨_, BinOk.cat (by rw [sizeLine_eq]; omega), ?_⟩
            refine ⟨_, H2.get 11 rfl, by have := J.hrows; omega, ?_⟩
            have T3 := T2.put (o' := .list (rows ++ [.str ("row" ++ PySem.Str.ofString (toString (i : Int)))])) (H2.get 11 rfl) (fun _ z => by cases z) (fun _ z => by cases z)
            have H3 : Has (upd σ8 A.ra (.list (rows ++ [.str ("row" ++ PySem.Str.ofString (toString (i : Int)))]))) (lawSt A.cw A.cn A.cv A.cs A.b A.ha A.wa A.dx na ka A.oa A.nl A.ra ta ba (some (.str n)) vv sq (at' + 1 + 1) { r with row := .str "" } bk (rows ++ [.str ("row" ++ PySem.Str.ofString (toString (i : Int)))]) tb) := H2.put 11 rfl
            with_reducible refine WS.nil ?_
            with_reducible refine WS.nil ?_
            with_reducible refine WS.nil ?_
            refine ⟨_, _, _, _, _, _, _, _, _, _, _, _, ?_, rfl, H3, T3, J.e1, J.e2, J.e3, J.e4, J.e5, J.e6, rfl, J.e8, by omega, ?_, ?_, J.pbk, ?_⟩
            · refine Weak.cons rfl ?_
              refine Weak.cons rfl ?_
              refine Weak.cons rfl ?_
              refine Weak.cons rfl ?_
              refine Weak.cons rfl ?_
              refine Weak.cons rfl ?_
              refine Weak.cons rfl ?_
              refine Weak.cons rfl ?_
              refine Weak.cons rfl ?_
              refine Weak.cons rfl ?_
              exact Weak.nil
            · have := J.hrows; rw [List.length_append]; simp only [List.length_cons, List.length_nil]; omega
            · have := J.hbk; omega
            · intro v hv
              rcases List.mem_append.mp hv with hv | hv
              · exact J.prows v hv
              · cases List.mem_singleton.mp hv; exact ⟨_, .str _⟩
          · with_reducible refine WS.cons ?_
            with_reducible refine WX.if ?_
            with_reducible refine' WT.cmp1 ?_ ?k1
            case k1 => exact rfl
            with_reducible refine' WE.callK ?k1 ?k2 ?k3 ?_ ?k4 ?k5 ?k6 ?k7
            case k1 => exact rfl
            case k2 => k_is
            case k3 => k_is
            case k4 => decide
            case k5 => exact rfl
            case k6 => exact rfl
            case k7 => intro _ _; exact rfl
            with_reducible refine' WL.cons ?_ ?k1
            case k1 => exact rfl
            with_reducible refine' WE.name ?k1 ?k2 ?_ ?k3
            case k1 => exact rfl
            case k2 => exact rfl
            case k3 => decide
            with_reducible refine' WL.cons ?_ ?k1
            case k1 => exact rfl
            with_reducible refine WE.int ?_
            with_reducible refine WL.nil ?_
            refine t_draw (many := 3) (H.get 5 rfl) (H.get 4 rfl) hai' hll' (by omega) (by decide) (by decide) fun rc hrc => ?_
            replace T := T.put (o' := .list [.int ((at' + 1 + 1 + 1 : Nat) : Int), .ref A.b]) (H.get 5 rfl) (fun _ z => by cases z) (fun _ z => by cases z)
            replace H : Has (upd σ7 A.ha (.list [.int ((at' + 1 + 1 + 1 : Nat) : Int), .ref A.b])) (lawSt A.cw A.cn A.cv A.cs A.b A.ha A.wa A.dx na ka A.oa A.nl A.ra ta ba (some (.str n)) vv sq (at' + 1 + 1 + 1) r bk rows tb) := H.put 5 rfl
            generalize upd σ7 A.ha (.list [.int ((at' + 1 + 1 + 1 : Nat) : Int), .ref A.b]) = σ8 at H T ⊢
            with_reducible refine WE.int ?_
            with_reducible refine ⟨_, CmpOk.eqI, ?_⟩
            refine ite_beq (fun h6 => ?_) (fun h6 => ?_)
            · with_reducible refine WS.cons ?_
              with_reducible refine' WX.expr ?_ ?k1 ?k2
              case k1 => exact rfl
              case k2 => exact rfl
              with_reducible refine' WE.callK ?k1 ?k2 ?k3 ?_ ?k4 ?k5 ?k6 ?k7
              case k1 => exact rfl
              case k2 => k_is
              case k3 => k_is
              case k4 => decide
              case k5 => exact rfl
              case k6 => exact rfl
              case k7 => intro _ _; exact rfl
              with_reducible refine' WL.cons ?_ ?k1
              case k1 => exact rfl
              refine' WE.nameC ?k1 m1 (H.get 0 rfl) ?_ ?k2
              case k1 => exact rfl
              case k2 => decide
              with_reducible refine WL.nil ?_
              refine t_clear (H.get 6 rfl) (by decide) fun c1 c2 c3 c4 c5 σ9 f1 f3 f13 g1 g3 gw gk => ?_
              have T9 := T.keep (x := A.wa) gk (H.get 6 rfl) (fun _ z => by cases z) (fun _ z => by cases z)
              have H9 := H.cleared 6 rfl f1 f3 f13 g1 g3 gw gk
              clear f1 f3 f13 g1 g3 gw gk
              with_reducible refine WS.cons ?_
              with_reducible refine' WX.swap2 ?k1 ?k2 ?k4 ?_ ?k3
              case k1 => exact rfl
              case k2 => exact rfl
              case k4 => exact rfl
              case k3 => exact rfl
              with_reducible refine WE.tup ?_
              with_reducible refine' WL.cons ?_ ?k1
              case k1 => exact rfl
              with_reducible refine WE.dict0 ?_
              intro d1 fd1
              have H10 := H9.new (o := .dict []) fd1
              have T10 := T9.new (o := .dict []) fd1
              generalize upd σ9 d1 (.dict []) = σ10 at H10 T10 ⊢
              with_reducible refine' WL.cons ?_ ?k1
              case k1 => exact rfl
              with_reducible refine WE.dict0 ?_
              intro d2 fd2
              have H11 := H10.new (o := .dict []) fd2
              have T11 := T10.new (o := .dict []) fd2
              generalize upd σ10 d2 (.dict []) = σ11 at H11 T11 ⊢
              with_reducible refine WL.nil ?_
              with_reducible refine ⟨?k1, ?_⟩
              case k1 => exact Nat.le_of_ble_eq_true rfl
              with_reducible refine ⟨_, _, rfl, ?_⟩
              replace H11 : Has σ11 (lawSt A.cw A.cn A.cv A.cs A.b A.ha A.wa A.dx c1 c3 A.oa A.nl A.ra d1 d2 (some (.str n)) vv sq (at' + 1 + 1 + 1) { r with names := .ref c1, arrays := .ref c2, kinds := .ref c3, fns := .ref c4, spot := .int 0, base := .int 0, seed := .int 1, handler := .int 0, is_handling := .bool false, error_line := .int 0, error_code := .str "", common := .ref c5 } [] rows false) := H11.pick [0, 1, 2, 3, 4, 5, 6, 14, 15, 9, 10, 11, 16, 17] (by decide)
              clear H9 T9 H10 T10 fd1 fd2
              with_reducible refine WS.cons ?_
              with_reducible refine' WX.assign ?_ ?k1 ?k2 ?k3
              case k1 => exact rfl
              case k2 => exact rfl
              case k3 => exact rfl
              with_reducible refine' WE.get ?_ ?k1 ?k2 ?k3
              case k1 => exact rfl
              case k2 => exact rfl
              case k3 => exact rfl
              refine WE.dict3 ?_
              intro kd fkd
              have Hk := H11.new (o := .dict []) fkd
              replace T := T11.new (o := .dict []) fkd
              generalize upd σ11 kd (.dict []) = σ12 at Hk T ⊢
              with_reducible refine WE.str ?_
              with_reducible refine WE.str ?_
              with_reducible refine WE.str ?_
              refine ⟨Hk.get 14 rfl, ?_⟩
              rw [show aset (aset (aset [] "%" (.str "whole")) "$" (.str "text")) "!" (.str "decimal") = marks3 from rfl]
              replace T := T.put (o' := .dict marks3) (Hk.get 14 rfl) (fun _ z => by cases z) (fun _ z => by cases z)
              replace Hk := Hk.put (o' := .dict marks3) 14 rfl
              generalize upd σ12 kd (.dict marks3) = σ13 at Hk T ⊢
              refine ⟨_, rfl, ⟨_, Hk.get 14 rfl⟩, ?_⟩
              with_reducible refine' WE.sub ?_ ?k1
              case k1 => intro _ _; exact rfl
              refine' WE.nameC ?k1 m2 (Hk.get 1 rfl) ?_ ?k2
              case k1 => exact rfl
              case k2 => decide
              with_reducible refine WE.neg ?_
              with_reducible refine WE.int ?_
              with_reducible refine ⟨_, rfl, ?_⟩
              refine ⟨_, ItemOk.str (by omega) (by omega) (by omega), ?_⟩
              rw [n3]
              with_reducible refine WE.str ?_
              refine ⟨_, _, rfl, Hk.get 14 rfl, ?_⟩
              rw [show (alook marks3 (lastOf n)).getD (.str "decimal") = .str (kindOf n false) from kindOf_law n false]
              replace H : Has σ13 (lawSt A.cw A.cn A.cv A.cs A.b A.ha A.wa A.dx c1 c3 A.oa A.nl A.ra d1 d2 (some (.str n)) vv sq (at' + 1 + 1 + 1) { r with names := .ref c1, arrays := .ref c2, kinds := .ref c3, fns := .ref c4, spot := .int 0, base := .int 0, seed := .int 1, handler := .int 0, is_handling := .bool false, error_line := .int 0, error_code := .str "", common := .ref c5 } [] rows false) := Hk.take 14
              clear Hk fkd
              with_reducible refine' WA.name ?k1 ?_
              case k1 => exact rfl
              with_reducible refine WS.nil ?_
              with_reducible refine WS.nil ?_
              with_reducible refine WS.nil ?_
              with_reducible refine WS.nil ?_
              refine ⟨_, _, _, _, _, _, _, _, _, _, _, _, ?_, rfl, H, T, J.e1, J.e2, J.e3, rfl, rfl, J.e6, J.e7, J.e8, by omega, ?_, Nat.zero_le _, (fun _ z => nomatch z), J.prows⟩
              · refine Weak.cons rfl ?_
                refine Weak.cons rfl ?_
                refine Weak.cons rfl ?_
                refine Weak.cons rfl ?_
                refine Weak.cons rfl ?_
                refine Weak.cons rfl ?_
                refine Weak.cons rfl ?_
                refine Weak.cons rfl ?_
                refine Weak.cons rfl ?_
                refine Weak.cons rfl ?_
                exact Weak.nil
              · have := J.hrows; omega
            · with_reducible refine WS.nil ?_
              with_reducible refine WS.nil ?_
              with_reducible refine WS.nil ?_
              with_reducible refine WS.nil ?_
              refine ⟨_, _, _, _, _, _, _, _, _, _, _, _, ?_, rfl, H, T, J.e1, J.e2, J.e3, J.e4, J.e5, J.e6, J.e7, J.e8, by omega, ?_, ?_, J.pbk, J.prows⟩
              · refine Weak.cons rfl ?_
                refine Weak.cons rfl ?_
                refine Weak.cons rfl ?_
                refine Weak.cons rfl ?_
                refine Weak.cons rfl ?_
                refine Weak.cons rfl ?_
                refine Weak.cons rfl ?_
                refine Weak.cons rfl ?_
                refine Weak.cons rfl ?_
                refine Weak.cons rfl ?_
                exact Weak.nil
              · have := J.hrows; omega
              · have := J.hbk; omega
    · rintro l s ⟨l', vv, at', count, r, na, ka, ta, ba, bk, rows, tb, hl, J⟩
      have hl2 : ∀ x v, alook (("kind", .str (kindOf n tb)) :: l') x = some v → alook l x = some v := hl
      with_reducible refine WS.less ?_ hl2
      have hloc := J.hloc
      subst l'
      clear hl hl2 T H hat
      have H := J.H
      have T := J.T
      with_reducible refine WS.cons ?_
      with_reducible refine' WX.assign ?_ ?k1 ?k2 ?k3
      case k1 => exact rfl
      case k2 => exact rfl
      case k3 => exact rfl
      with_reducible refine' WE.sub ?_ ?k1
      case k1 => intro _ _; exact rfl
      refine WE.dict3 ?_
      intro kd fkd
      have Hk := H.new (o := .dict []) fkd
      replace T := T.new (o := .dict []) fkd
      generalize upd s kd (.dict []) = s2 at Hk T ⊢
      with_reducible refine WE.str ?_
      with_reducible refine WE.int ?_
      with_reducible refine WE.tup ?_
      with_reducible refine' WL.cons ?_ ?k1
      case k1 => exact rfl
      with_reducible refine WE.int ?_
      with_reducible refine' WL.cons ?_ ?k1
      case k1 => exact rfl
      with_reducible refine WE.int ?_
      with_reducible refine WL.nil ?_
      with_reducible refine ⟨?k1, ?_⟩
      case k1 => exact Nat.le_of_ble_eq_true rfl
      refine ⟨Hk.get 14 rfl, ?_⟩
      replace T := T.put (o' := .dict (aset (aset (aset [] "text" (.str "")) "whole" (.int 0)) "decimal" (.tup [.int 0, .int 0]))) (Hk.get 14 rfl) (fun _ z => by cases z) (fun _ z => by cases z)
      replace Hk := Hk.put (o' := .dict (aset (aset (aset [] "text" (.str "")) "whole" (.int 0)) "decimal" (.tup [.int 0, .int 0]))) 14 rfl
      have hfirst : alook (aset (aset (aset [] "text" (.str "")) "whole" (.int 0)) "decimal" (.tup [.int 0, .int 0])) (kindOf n tb) = some (firstOf (kindOf n tb)) := by
        rcases kindOf_or n tb with h | h | h <;> rw [h] <;> rfl
      with_reducible refine' WE.name ?k1 ?k2 ?_ ?k3
      case k1 => exact rfl
      case k2 => exact rfl
      case k3 => decide
      refine ⟨_, ItemOk.dict (Hk.get 14 rfl) hfirst, ?_⟩
      replace H : Has (upd s2 kd (.dict (aset (aset (aset [] "text" (.str "")) "whole" (.int 0)) "decimal" (.tup [.int 0, .int 0])))) (lawSt A.cw A.cn A.cv A.cs A.b A.ha A.wa A.dx na ka A.oa A.nl A.ra ta ba (some (.str n)) vv sq at' r bk rows tb) := Hk.take 14
      generalize upd s2 kd (.dict (aset (aset (aset [] "text" (.str "")) "whole" (.int 0)) "decimal" (.tup [.int 0, .int 0]))) = s3 at H T ⊢
      clear Hk fkd hfirst
      with_reducible refine' WA.name ?k1 ?_
      case k1 => exact rfl
      with_reducible refine WS.cons ?_
      with_reducible refine WX.if ?_
      with_reducible refine WT.or3 ?_
      with_reducible refine' WT.cmp1 ?_ ?k1
      case k1 => exact rfl
      with_reducible refine' WE.callK ?k1 ?k2 ?k3 ?_ ?k4 ?k5 ?k6 ?k7
      case k1 => exact rfl
      case k2 => k_is
      case k3 => k_is
      case k4 => decide
      case k5 => exact rfl
      case k6 => exact rfl
      case k7 => intro _ _; exact rfl
      with_reducible refine' WL.cons ?_ ?k1
      case k1 => exact rfl
      refine' WE.nameC ?k1 m1 (H.get 0 rfl) ?_ ?k2
      case k1 => exact rfl
      case k2 => decide
      with_reducible refine' WL.cons ?_ ?k1
      case k1 => exact rfl
      refine' WE.nameC ?k1 m2 (H.get 1 rfl) ?_ ?k2
      case k1 => exact rfl
      case k2 => decide
      with_reducible refine WL.nil ?_
      refine t_kind_here n1 n2 (H.get 6 rfl) (congrArg some J.e5) (H.get 8 rfl) (by decide) ?_
      with_reducible refine' WE.name ?k1 ?k2 ?_ ?k3
      case k1 => exact rfl
      case k2 => exact rfl
      case k3 => decide
      refine ⟨_, CmpOk.neRefl ⟨_, .str _⟩, ?_⟩
      refine (if_neg Bool.false_ne_true).mpr ?_
      with_reducible refine WT.or2 ?_
      with_reducible refine' WT.cmp1 ?_ ?k1
      case k1 => exact rfl
      with_reducible refine' WE.callK ?k1 ?k2 ?k3 ?_ ?k4 ?k5 ?k6 ?k7
      case k1 => exact rfl
      case k2 => k_is
      case k3 => k_is
      case k4 => decide
      case k5 => exact rfl
      case k6 => exact rfl
      case k7 => intro _ _; exact rfl
      with_reducible refine' WL.cons ?_ ?k1
      case k1 => exact rfl
      refine' WE.nameC ?k1 m1 (H.get 0 rfl) ?_ ?k2
      case k1 => exact rfl
      case k2 => decide
      with_reducible refine' WL.cons ?_ ?k1
      case k1 => exact rfl
      refine' WE.nameC ?k1 m2 (H.get 1 rfl) ?_ ?k2
      case k1 => exact rfl
      case k2 => decide
      with_reducible refine WL.nil ?_
      refine t_get_name n1 n2 (H.get 6 rfl) (congrArg some J.e5) (H.get 8 rfl) (congrArg some J.e4) (H.get 7 rfl) (by decide) ?_
      with_reducible refine' WE.get ?_ ?k1 ?k2 ?k3
      case k1 => exact rfl
      case k2 => exact rfl
      case k3 => exact rfl
      with_reducible refine' WE.name ?k1 ?k2 ?_ ?k3
      case k1 => exact rfl
      case k2 => exact rfl
      case k3 => decide
      refine ⟨_, rfl, ⟨_, H.get 13 rfl⟩, ?_⟩
      refine' WE.nameC ?k1 m2 (H.get 1 rfl) ?_ ?k2
      case k1 => exact rfl
      case k2 => decide
      with_reducible refine' WE.name ?k1 ?k2 ?_ ?k3
      case k1 => exact rfl
      case k2 => exact rfl
      case k3 => decide
      refine ⟨_, _, rfl, H.get 13 rfl, ?_⟩
      refine ⟨_, CmpOk.neRefl (plain_get J.pbk (plain_first _)), ?_⟩
      refine (if_neg Bool.false_ne_true).mpr ?_
      with_reducible refine' WT.cmp1 ?_ ?k1
      case k1 => exact rfl
      with_reducible refine' WE.attr ?_ ?k1
      case k1 => exact rfl
      refine' WE.nameC ?k1 m1 (H.get 0 rfl) ?_ ?k2
      case k1 => exact rfl
      case k2 => decide
      refine ⟨_, _, _, _, rfl, worldCls w, af_names w, H.get 6 rfl, congrArg some J.e4, ?_⟩
      with_reducible refine' WE.name ?k1 ?k2 ?_ ?k3
      case k1 => exact rfl
      case k2 => exact rfl
      case k3 => decide
      refine ⟨_, CmpOk.neD (H.get 7 rfl) (H.get 13 rfl) J.pbk, ?_⟩
      refine (if_neg Bool.false_ne_true).mpr ?_
      with_reducible refine WS.nil ?_
      with_reducible refine WS.nil ?_
      refine ⟨_, _, ?_, .refl, some (.str n), vv, at', count, r, na, ka, ta, ba, bk, rows, tb, rfl, H, T, J.e1, J.e2, J.e3, J.e4, J.e5, J.e6, J.e7, J.e8, J.hat, J.hrows, J.hbk, J.pbk, J.prows⟩
      refine Weak.cons rfl ?_
      refine Weak.cons rfl ?_
      refine Weak.cons rfl ?_
      refine Weak.cons rfl ?_
      refine Weak.cons rfl ?_
      refine Weak.cons rfl ?_
      refine Weak.cons rfl ?_
      refine Weak.cons rfl ?_
      refine Weak.cons rfl ?_
      exact Weak.nil
  · intro loc₁ σ₂ hJ
    clear e1 e2 e3 e4 e5 e6 e7 e8 H16 T15
    generalize hA : (⟨cw, cn, cv, cs, b, ha, wa, dx, oa, nl, ra⟩ : AA) = A at hJ
    obtain ⟨vn, vv, at', count, r, na, ka, ta, ba, bk, rows, tb, J⟩ := hJ
    have hloc := J.hloc
    subst loc₁
    have m1 : cl.lookup ("world" : Str) = some A.cw := by rw [← hA]; exact l1
    have m4 : cl.lookup ("size" : Str) = some A.cs := by rw [← hA]; exact l4
    have hat := J.hat
    have H := J.H
    have T := J.T
    with_reducible refine WS.cons ?_
    with_reducible refine' WX.assign ?_ ?k1 ?k2 ?k3
    case k1 => exact rfl
    case k2 => exact rfl
    case k3 => exact rfl
    with_reducible refine' WE.callK ?k1 ?k2 ?k3 ?_ ?k4 ?k5 ?k6 ?k7
    case k1 => exact rfl
    case k2 => k_is
    case k3 => k_is
    case k4 => decide
    case k5 => exact rfl
    case k6 => exact rfl
    case k7 => intro _ _; exact rfl
    with_reducible refine' WL.cons ?_ ?k1
    case k1 => exact rfl
    with_reducible refine' WE.name ?k1 ?k2 ?_ ?k3
    case k1 => exact rfl
    case k2 => exact rfl
    case k3 => decide
    with_reducible refine' WL.cons ?_ ?k1
    case k1 => exact rfl
    with_reducible refine WE.int ?_
    with_reducible refine WL.nil ?_
    refine t_draw (many := 256) (H.get 5 rfl) (H.get 4 rfl) hai' hll' (by omega) (by decide) (by decide) fun size hsize => ?_
    replace T := T.put (o' := .list [.int ((at' + 1 : Nat) : Int), .ref A.b]) (H.get 5 rfl) (fun _ z => by cases z) (fun _ z => by cases z)
    replace H : Has (upd σ₂ A.ha (.list [.int ((at' + 1 : Nat) : Int), .ref A.b])) (lawSt A.cw A.cn A.cv A.cs A.b A.ha A.wa A.dx na ka A.oa A.nl A.ra ta ba vn vv sq (at' + 1) r bk rows tb) := H.put 5 rfl
    generalize upd σ₂ A.ha (.list [.int ((at' + 1 : Nat) : Int), .ref A.b]) = σ3 at H T ⊢
    refine' WA.nameC ?k1 m4 (H.get 3 rfl) ?_
    case k1 => exact rfl
    replace T := T.put (o' := .cell (some (.int size))) (H.get 3 rfl) (fun _ z => by cases z) (fun _ z => by cases z)
    replace H : Has (upd σ3 A.cs (.cell (some (.int size)))) (lawZ A na ka ta ba vn vv sq (at' + 1) r bk rows tb size) := H.put 3 rfl
    generalize upd σ3 A.cs (.cell (some (.int size))) = σ4 at H T ⊢
    have la : ("a" : Str).length = 1 := by decide
    have lb : ("b" : Str).length = 1 := by decide
    have ra := rep_len la (n := (size : Int)) (by omega)
    have rb := rep_len lb (n := 255 - (size : Int)) (by omega)
    have rc := rep_len lb (n := 256 - (size : Int)) (by omega)
    with_reducible refine WS.cons ?_
    with_reducible refine WX.if ?_
    with_reducible refine' WT.cmp1 ?_ ?k1
    case k1 => exact rfl
    refine WE.joinV (fun u s => u = .str (Txt.mul "a" (size : Int) ++ Txt.mul "b" (255 - (size : Int))) ∧ TabOk 243 "law.<locals>.<lambda>" s ∧ Has s (lawZ A na ka ta ba vn vv sq (at' + 1) r bk rows tb size)) ?_ ?_
    · with_reducible refine' WE.callK ?k1 ?k2 ?k3 ?_ ?k4 ?k5 ?k6 ?k7
      case k1 => exact rfl
      case k2 => k_is
      case k3 => k_is
      case k4 => decide
      case k5 => exact rfl
      case k6 => exact rfl
      case k7 => intro _ _; exact rfl
      with_reducible refine' WL.cons ?_ ?k1
      case k1 => exact rfl
      refine' WE.lambda (P := 243) (qual := "law.<locals>.<lambda>") (clos := [("size", A.cs)]) ?hcode (lawCode w) ?hcl ?hq T ?_
      case hcode => exact rfl
      case hq => exact rfl
      case hcl =>
        unfold closureFor PySem.cellOf
        simp [m4]
      intro f c' σ10 T10 hf hc hkeep
      have H10 := lawZ_keep H T hkeep
      with_reducible refine WL.nil ?_
      refine t_heard hf (by decide) ?_
      refine CT.lam (d := 18) hf hc (by decide) rfl rfl rfl fun L' => ?_
      with_reducible refine' WE.callK ?k1 ?k2 ?k3 ?_ ?k4 ?k5 ?k6 ?k7
      case k1 => exact rfl
      case k2 => k_is
      case k3 => k_is
      case k4 => decide
      case k5 => exact rfl
      case k6 => exact rfl
      case k7 => intro _ _; exact rfl
      with_reducible refine' WL.cons ?_ ?k1
      case k1 => exact rfl
      with_reducible refine WE.bin ?_
      with_reducible refine WE.str ?_
      refine' WE.nameF ?k1 ?k2 (H10.get 3 rfl) ?_ ?k3 ?k4
      case k1 => exact rfl
      case k2 => exact rfl
      case k3 => decide
      case k4 => decide
      refine ⟨_, BinOk.rep (rep_ok la (by omega) (by omega)), ?_⟩
      with_reducible refine' WL.cons ?_ ?k1
      case k1 => exact rfl
      with_reducible refine WE.bin ?_
      with_reducible refine WE.str ?_
      with_reducible refine WE.bin ?_
      with_reducible refine WE.int ?_
      refine' WE.nameF ?k1 ?k2 (H10.get 3 rfl) ?_ ?k3 ?k4
      case k1 => exact rfl
      case k2 => exact rfl
      case k3 => decide
      case k4 => decide
      with_reducible refine ⟨_, BinOk.sub, ?_⟩
      refine ⟨_, BinOk.rep (rep_ok lb (by omega) (by omega)), ?_⟩
      with_reducible refine WL.nil ?_
      refine t_joined (by omega) (by omega) (by decide) (fun _ => ⟨rfl, T10, H10⟩) (fun hx => ?_)
      rw [cat_len] at hx
      omega
    rintro u s ⟨hu, T, H⟩
    subst u
    with_reducible refine WE.bin ?_
    with_reducible refine WE.bin ?_
    with_reducible refine WE.str ?_
    refine' WE.nameC ?k1 m4 (H.get 3 rfl) ?_ ?k2
    case k1 => exact rfl
    case k2 => decide
    refine ⟨_, BinOk.rep (rep_ok la (by omega) (by omega)), ?_⟩
    with_reducible refine WE.bin ?_
    with_reducible refine WE.str ?_
    with_reducible refine WE.bin ?_
    with_reducible refine WE.int ?_
    refine' WE.nameC ?k1 m4 (H.get 3 rfl) ?_ ?k2
    case k1 => exact rfl
    case k2 => decide
    with_reducible refine ⟨_, BinOk.sub, ?_⟩
    refine ⟨_, BinOk.rep (rep_ok lb (by omega) (by omega)), ?_⟩
    refine ⟨_, BinOk.cat (by rw [sizeLine_eq]; omega), ?_⟩
    refine ⟨_, CmpOk.neRefl ⟨_, .str _⟩, ?_⟩
    refine (if_neg Bool.false_ne_true).mpr ?_
    with_reducible refine WS.nil ?_
    with_reducible refine WS.cons ?_
    with_reducible refine WX.if ?_
    with_reducible refine' WT.cmp1 ?_ ?k1
    case k1 => exact rfl
    refine WE.joinV (fun u s => u = .str "error LS" ∧ TabOk 243 "law.<locals>.<lambda>" s ∧ Has s (lawZ A na ka ta ba vn vv sq (at' + 1) r bk rows tb size)) ?_ ?_
    · with_reducible refine' WE.callK ?k1 ?k2 ?k3 ?_ ?k4 ?k5 ?k6 ?k7
      case k1 => exact rfl
      case k2 => k_is
      case k3 => k_is
      case k4 => decide
      case k5 => exact rfl
      case k6 => exact rfl
      case k7 => intro _ _; exact rfl
      with_reducible refine' WL.cons ?_ ?k1
      case k1 => exact rfl
      refine' WE.lambda (P := 243) (qual := "law.<locals>.<lambda>") (clos := [("size", A.cs)]) ?hcode (lawCode w) ?hcl ?hq T ?_
      case hcode => exact rfl
      case hq => exact rfl
      case hcl =>
        unfold closureFor PySem.cellOf
        simp [m4]
      intro f c' σ10 T10 hf hc hkeep
      have H10 := lawZ_keep H T hkeep
      with_reducible refine WL.nil ?_
      refine t_heard hf (by decide) ?_
      refine CT.lam (d := 18) hf hc (by decide) rfl rfl rfl fun L' => ?_
      with_reducible refine' WE.callK ?k1 ?k2 ?k3 ?_ ?k4 ?k5 ?k6 ?k7
      case k1 => exact rfl
      case k2 => k_is
      case k3 => k_is
      case k4 => decide
      case k5 => exact rfl
      case k6 => exact rfl
      case k7 => intro _ _; exact rfl
      with_reducible refine' WL.cons ?_ ?k1
      case k1 => exact rfl
      with_reducible refine WE.bin ?_
      with_reducible refine WE.str ?_
      refine' WE.nameF ?k1 ?k2 (H10.get 3 rfl) ?_ ?k3 ?k4
      case k1 => exact rfl
      case k2 => exact rfl
      case k3 => decide
      case k4 => decide
      refine ⟨_, BinOk.rep (rep_ok la (by omega) (by omega)), ?_⟩
      with_reducible refine' WL.cons ?_ ?k1
      case k1 => exact rfl
      with_reducible refine WE.bin ?_
      with_reducible refine WE.str ?_
      with_reducible refine WE.bin ?_
      with_reducible refine WE.int ?_
      refine' WE.nameF ?k1 ?k2 (H10.get 3 rfl) ?_ ?k3 ?k4
      case k1 => exact rfl
      case k2 => exact rfl
      case k3 => decide
      case k4 => decide
      with_reducible refine ⟨_, BinOk.sub, ?_⟩
      refine ⟨_, BinOk.rep (rep_ok lb (by omega) (by omega)), ?_⟩
      with_reducible refine WL.nil ?_
      refine t_joined (by omega) (by omega) (by decide) (fun hx => ?_) (fun _ => ⟨by decide, congrArg V.str (by decide +kernel), T10, H10⟩)
      rw [cat_len] at hx
      omega
    rintro u s2 ⟨hu, T2, H2⟩
    subst u
    clear H T
    with_reducible refine WE.str ?_
    refine ⟨_, CmpOk.neRefl ⟨_, .str _⟩, ?_⟩
    refine (if_neg Bool.false_ne_true).mpr ?_
    with_reducible refine WS.nil ?_
    with_reducible refine WS.cons ?_
    with_reducible refine' WX.assign ?_ ?k1 ?k2 ?k3
    case k1 => exact rfl
    case k2 => exact rfl
    case k3 => exact rfl
    with_reducible refine WE.str ?_
    with_reducible refine WA.attr ?_
    refine' WE.nameC ?k1 m1 (H2.get 0 rfl) ?_ ?k2
    case k1 => exact rfl
    case k2 => decide
    refine ⟨_, _, _, rfl, worldCls w, af_row w, H2.get 6 rfl, Nat.le_of_ble_eq_true rfl, ?_⟩
    rw [aset_row]
    have T3 := T2.put (o' := .inst A.dx (wl { r with row := .str "unfinished" })) (H2.get 6 rfl) (fun _ z => by cases z) (fun _ z => by cases z)
    have H3 : Has (upd s2 A.wa (.inst A.dx (wl { r with row := .str "unfinished" }))) (lawZ A na ka ta ba vn vv sq (at' + 1) { r with row := .str "unfinished" } bk rows tb size) := H2.put 6 rfl
    generalize upd s2 A.wa (.inst A.dx (wl { r with row := .str "unfinished" })) = s3 at H3 T3 ⊢
    clear H2 T2
    with_reducible refine WS.cons ?_
    with_reducible refine WX.ret ?_
    refine WE.and2 ?_
    with_reducible refine' WE.cmp1 ?_ ?k1
    case k1 => exact rfl
    with_reducible refine' WE.callK ?k1 ?k2 ?k3 ?_ ?k4 ?k5 ?k6 ?k7
    case k1 => exact rfl
    case k2 => k_is
    case k3 => k_is
    case k4 => decide
    case k5 => exact rfl
    case k6 => exact rfl
    case k7 => intro _ _; exact rfl
    with_reducible refine' WL.cons ?_ ?k1
    case k1 => exact rfl
    refine' WE.nameC ?k1 m1 (H3.get 0 rfl) ?_ ?k2
    case k1 => exact rfl
    case k2 => decide
    with_reducible refine WL.nil ?_
    refine t_rows (row := "unfinished") (H3.get 6 rfl) (congrArg some J.e6) (H3.get 9 rfl) rfl (by decide) (by have := J.hrows; omega) (by decide) fun c fc => ?_
    have T4 := T3.new (o := .list (rows ++ [.str "unfinished"])) fc
    have H4 := H3.new (o := .list (rows ++ [.str "unfinished"])) fc
    generalize upd s3 c (.list (rows ++ [.str "unfinished"])) = s4 at H4 T4 ⊢
    refine WE.cat ?_
    with_reducible refine' WE.name ?k1 ?k2 ?_ ?k3
    case k1 => exact rfl
    case k2 => exact rfl
    case k3 => decide
    with_reducible refine WE.list ?_
    with_reducible refine' WL.cons ?_ ?k1
    case k1 => exact rfl
    with_reducible refine WE.str ?_
    with_reducible refine WL.nil ?_
    with_reducible refine ⟨?k1, ?_⟩
    case k1 => exact Nat.le_of_ble_eq_true rfl
    intro c2 fc2
    have T5 := T4.new (o := .list [.str "unfinished"]) fc2
    have H5 := H4.new (o := .list [.str "unfinished"]) fc2
    generalize upd s4 c2 (.list [.str "unfinished"]) = s5 at H5 T5 ⊢
    refine ⟨_, _, _, _, rfl, rfl, H5.get 11 rfl, H5.get 15 rfl, by have := J.hrows; simp only [List.length_cons, List.length_nil]; omega, ?_⟩
    intro c3 fc3
    have T6 := T5.new (o := .list (rows ++ [.str "unfinished"])) fc3
    have H6 := H5.new (o := .list (rows ++ [.str "unfinished"])) fc3
    generalize upd s5 c3 (.list (rows ++ [.str "unfinished"])) = s6 at H6 T6 ⊢
    refine ⟨_, CmpOk.eqLs (H6.get 14 rfl) (H6.get 16 rfl) ?_, ?_⟩
    · intro v hv
      rcases List.mem_append.mp hv with hv | hv
      · exact J.prows v hv
      · cases List.mem_singleton.mp hv; exact ⟨_, .str _⟩
    have H7 : Has s6 (lawZ A na ka ta ba vn vv sq (at' + 1) { r with row := .str "unfinished" } bk rows tb size) := H6.take 14
    clear H6 H5 T5 H4 T4 H3 T3
    refine ⟨_, rfl, ?_⟩
    refine (if_pos (rfl : true = true)).mpr ?_
    with_reducible refine' WE.cmp1 ?_ ?k1
    case k1 => exact rfl
    refine WE.joinV (fun u s => u = .str "error TM" ∧ TabOk 243 "law.<locals>.<lambda>" s) ?_ ?_
    · with_reducible refine' WE.callK ?k1 ?k2 ?k3 ?_ ?k4 ?k5 ?k6 ?k7
      case k1 => exact rfl
      case k2 => k_is
      case k3 => k_is
      case k4 => decide
      case k5 => exact rfl
      case k6 => exact rfl
      case k7 => intro _ _; exact rfl
      with_reducible refine' WL.cons ?_ ?k1
      case k1 => exact rfl
      refine' WE.lambda (P := 243) (qual := "law.<locals>.<lambda>") (clos := [("size", A.cs)]) ?hcode (lawCode w) ?hcl ?hq T6 ?_
      case hcode => exact rfl
      case hq => exact rfl
      case hcl =>
        unfold closureFor PySem.cellOf
        simp [m4]
      intro f c' σ10 T10 hf hc hkeep
      have H10 := lawZ_keep H7 T6 hkeep
      with_reducible refine WL.nil ?_
      refine t_heard hf (by decide) ?_
      refine CT.lam (d := 18) hf hc (by decide) rfl rfl rfl fun L' => ?_
      with_reducible refine' WE.callK ?k1 ?k2 ?k3 ?_ ?k4 ?k5 ?k6 ?k7
      case k1 => exact rfl
      case k2 => k_is
      case k3 => k_is
      case k4 => decide
      case k5 => exact rfl
      case k6 => exact rfl
      case k7 => intro _ _; exact rfl
      with_reducible refine' WL.cons ?_ ?k1
      case k1 => exact rfl
      refine' WE.nameF ?k1 ?k2 (H10.get 3 rfl) ?_ ?k3 ?k4
      case k1 => exact rfl
      case k2 => exact rfl
      case k3 => decide
      case k4 => decide
      with_reducible refine' WL.cons ?_ ?k1
      case k1 => exact rfl
      with_reducible refine WE.str ?_
      with_reducible refine WL.nil ?_
      exact t_joinedTM (by decide) ⟨by decide, congrArg V.str (by decide +kernel), T10⟩
    rintro u s7 ⟨hu, T7⟩
    subst u
    with_reducible refine WE.str ?_
    refine ⟨_, CmpOk.eqS, ?_⟩
    exact ⟨congrArg V.bool (by decide +kernel), T7⟩
end
end Mine
end
section
open PySem PySem.W PyProof.Rows PySem.Spec PySem.Calls
set_option Elab.async false
set_option maxRecDepth 100000
set_option maxHeartbeats 8000000
set_option linter.unusedVariables false
namespace Mine
section
variable {w : World} {base h : Heap} {outer : List Env} {env : Env} {Γ : Gam} {loc : Loc} {σ : St}
/-- a thing that stands already is tracked from now on -/
theorem Inv.adopt {a : Addr} {o : O} (I : Inv w base outer env Γ loc σ h) (ho : own a o = [a]) (n : ∀ b o, σ b = some o → a ∉ own b o) (b1 : base.get? a = none) (b2 : a ≠ env.locals) (b3 : a ∉ frs outer) (r : RO w h a o) : Inv w base outer env Γ loc (upd σ a o) h := by
  have cs : ∀ b ob, upd σ a o b = some ob → (b = a ∧ ob = o) ∨ (b ≠ a ∧ σ b = some ob) := fun b ob e => by
    by_cases z : b = a
    · left; rw [z, upd_self] at e; exact ⟨z, (Option.some.inj e).symm⟩
    · right; rw [upd_ne z] at e; exact ⟨z, e⟩
  refine ⟨I.stays, I.frames, I.above, I.off, I.ns, fun b ob e => ?_, fun x ox y oy b ex ey hx hy => ?_, fun b => ?_, I.gam⟩
  · rcases cs b ob e with ⟨rfl, rfl⟩ | ⟨_, e⟩
    · exact r
    · exact I.objs b ob e
  · rcases cs x ox ex with ⟨z1, z2⟩ | ⟨_, ex'⟩ <;> rcases cs y oy ey with ⟨z3, z4⟩ | ⟨_, ey'⟩
    · rw [z1, z3]
    · rw [z1, z2, ho] at hx; rw [List.mem_singleton.mp hx] at hy; exact absurd hy (n _ _ ey')
    · rw [z3, z4, ho] at hy; rw [List.mem_singleton.mp hy] at hx; exact absurd hx (n _ _ ex')
    · exact I.sep x ox y oy b ex' ey' hx hy
  · rintro ⟨x, ox, ex, hx⟩
    rcases cs x ox ex with ⟨rfl, rfl⟩ | ⟨_, ex⟩
    · rw [ho] at hx; cases List.mem_singleton.mp hx; exact ⟨b1, b2, b3⟩
    · exact I.apart b ⟨x, ox, ex, hx⟩
end
/-- each tracked thing is one object -/
def Sing (σ : St) : Prop := ∀ b o, σ b = some o → own b o = [b]
theorem Inv.adopt1 {w : World} {base h : Heap} {outer : List Env} {env : Env} {Γ : Gam} {loc : Loc} {σ : St} {a : Addr} {o : O} (I : Inv w base outer env Γ loc σ h) (S : Sing σ) (f : σ a = none) (ho : own a o = [a]) (b1 : base.get? a = none) (b2 : a ≠ env.locals) (b3 : a ∉ frs outer) (r : RO w h a o) : Inv w base outer env Γ loc (upd σ a o) h ∧ Sing (upd σ a o) := by
  refine ⟨I.adopt ho (fun b ob e hm => ?_) b1 b2 b3 r, fun b ob e => ?_⟩
  · rw [S b ob e] at hm
    rw [List.mem_singleton.mp hm, e] at f
    cases f
  · by_cases z : b = a
    · rw [z, upd_self] at e; cases e; rw [z]; exact ho
    · rw [upd_ne z] at e; exact S b ob e
theorem ints_rl {h : Heap} : ∀ {vs : List Value} {ns : List Int}, IntsAre vs ns → RL h vs (ns.map .int)
  | _, _, .nil => .nil
  | _, _, .cons n t r => .cons .int (ints_rl r)
theorem law_run {w : World} {g h₁ : Heap} {L c1 c2 c3 c4 : Nat} {fa sa : Addr} {o1 o2 o3 o4 : Obj} {m : Str → Option Value} {p : Program} {loose : List Str} {mean : ExcName → Option Value} {mg mb : Str → Option Value} {scope : Scope} {cl : List (Str × Addr)}
    {vs : List Value} {ns : List Int} {p1 p2 p3 p4 p5 p6 p7 p8 : Pos} {k1 k2 : Nat} {body : List Stmt} {gens : Array GenState} {drawn : Drawn} {tk : Nat} {os : OsState} {QQ : Flow → Shared → Prop} {EE : Value → Shared → Prop}
    (hG : LawG w body scope) (X : (hd.heap_39 w.params).In g) (T : Top p loose mean mg mb g) (F : Fr g L h₁ m) (hm : m "script" = some (.ref sa)) (hL : g.IsList sa vs.toArray) (hI : IntsAre vs ns) (hlen : ¬ ((63 : Nat) : Int) < (ns.length : Int))
    (N : News g L h₁ [(c4, o4), (c3, o3), (c2, o2), (c1, o1), (243, tabObj #[])]) (d1 : o1.data = .cell none) (d2 : o2.data = .cell none) (d3 : o3.data = .cell none) (d4 : o4.data = .cell none)
    (e4 : c4 = L + 4) (e3 : c3 = L + 3) (e2 : c2 = L + 2) (e1 : c1 = L + 1) (hP : 243 < L)
    (l4 : cl.lookup ("world" : Str) = some c4) (l3 : cl.lookup ("value" : Str) = some c3) (l2 : cl.lookup ("size" : Str) = some c2) (l1 : cl.lookup ("name" : Str) = some c1)
    (hk : scope.kind = .function) (hhat : (envX "law" scope L fa (.ref 247) cl).kindOf "hat" = some .local) (hscr : (envX "law" scope L fa (.ref 247) cl).kindOf "script" = some .local)
    (hs : swapsWithSole [.Name "hat" p1] (.List [.Constant (.int 0) k1 p2, .Subscript (.Name "script" p3) (.Slice none (some (.Constant (.int 40) k2 p4)) none p5) p6] p7) p8.line (envX "law" scope L fa (.ref 247) cl) = pure false)
    (hw : swappedStores [.Name "hat" p1] (.List [.Constant (.int 0) k1 p2, .Subscript (.Name "script" p3) (.Slice none (some (.Constant (.int 40) k2 p4)) none p5) p6] p7) (envX "law" scope L fa (.ref 247) cl) = pure none)
    (hq : ∀ h' tk' m', Fr g L h' m' → GrownAt 243 h' → QQ (.ret (.bool true)) ⟨h', gens, drawn, tk', os⟩) :
    wpAny (model PR w) (callerA.deeper (envX "law" scope L fa (.ref 247) cl)) (execs (.Assign [.Name "hat" p1] (.List [.Constant (.int 0) k1 p2, .Subscript (.Name "script" p3) (.Slice none (some (.Constant (.int 40) k2 p4)) none p5) p6] p7) p8 :: body) (envX "law" scope L fa (.ref 247) cl)) QQ EE ⟨h₁, gens, drawn, tk, os⟩ := by
  have NL : (fun _ => none : St) = fun _ => none := rfl
  have I0 : Inv w g [] (envX "law" scope L fa (.ref 247) cl) [] [("script", .ref sa)] (fun _ => none) h₁ := by
    refine ⟨F.keep, True.intro, F.above, (fun z => nomatch z), ⟨m, F.ns, fun x v e => ?_⟩, (fun _ _ e => by cases e), (fun _ _ _ _ _ e => by cases e), (fun b ⟨_, _, e, _⟩ => by cases e), (fun _ q => nomatch q)⟩
    unfold alook at e
    split at e
    · rename_i z; cases e; rw [z]; exact ⟨_, hm, .ref⟩
    · cases e
  have neq : ∀ {a b : Nat}, (a < b ∨ b < a) → ¬ (@Eq Addr a b) := fun {a b} h z => by
    have z : (a : Nat) = b := z
    omega
  have n4 := N (c4, o4) (by simp)
  have n3 := N (c3, o3) (by simp)
  have n2 := N (c2, o2) (by simp)
  have n1 := N (c1, o1) (by simp)
  have nP := N (243, tabObj #[]) (by simp)
  have S0 : Sing (fun _ => none) := fun _ _ e => by cases e
  have off : ∀ a, a ∉ frs [] := fun _ z => nomatch z
  obtain ⟨I1, S1⟩ := I0.adopt1 (a := 243) (o := .tab []) S0 rfl rfl nP.2.2 nP.2.1 (off _) ⟨#[], nP.1, rfl⟩
  have T1 : TabOk 243 "law.<locals>.<lambda>" (upd (fun _ => none) 243 (.tab [])) := ⟨[], upd_self, fun e he => nomatch he⟩
  have H1 : Has (upd (fun _ => none) 243 (.tab [])) [] := ⟨List.nodup_nil, fun _ z => nomatch z⟩
  have f4 : upd (fun _ => none) 243 (.tab []) c4 = none := upd_ne (neq (by omega))
  obtain ⟨I2, S2⟩ := I1.adopt1 (a := c4) (o := .cell none) S1 f4 rfl n4.2.2 n4.2.1 (off _) ⟨o4, n4.1, d4⟩
  have T2 := T1.new (o := .cell none) f4
  have H2 := H1.new (o := .cell none) f4
  have f1 : upd (upd (fun _ => none) 243 (.tab [])) c4 (.cell none) c1 = none := (upd_ne (neq (by omega))).trans (upd_ne (neq (by omega)))
  obtain ⟨I3, S3⟩ := I2.adopt1 (a := c1) (o := .cell none) S2 f1 rfl n1.2.2 n1.2.1 (off _) ⟨o1, n1.1, d1⟩
  have T3 := T2.new (o := .cell none) f1
  have H3 := H2.new (o := .cell none) f1
  have f3 : upd (upd (upd (fun _ => none) 243 (.tab [])) c4 (.cell none)) c1 (.cell none) c3 = none := (upd_ne (neq (by omega))).trans ((upd_ne (neq (by omega))).trans (upd_ne (neq (by omega))))
  obtain ⟨I4, S4⟩ := I3.adopt1 (a := c3) (o := .cell none) S3 f3 rfl n3.2.2 n3.2.1 (off _) ⟨o3, n3.1, d3⟩
  have T4 := T3.new (o := .cell none) f3
  have H4 := H3.new (o := .cell none) f3
  have f2 : upd (upd (upd (upd (fun _ => none) 243 (.tab [])) c4 (.cell none)) c1 (.cell none)) c3 (.cell none) c2 = none := (upd_ne (neq (by omega))).trans ((upd_ne (neq (by omega))).trans ((upd_ne (neq (by omega))).trans (upd_ne (neq (by omega)))))
  obtain ⟨I5, S5⟩ := I4.adopt1 (a := c2) (o := .cell none) S4 f2 rfl n2.2.2 n2.2.1 (off _) ⟨o2, n2.1, d2⟩
  have T5 := T4.new (o := .cell none) f2
  have H5 := H4.new (o := .cell none) f2
  generalize upd (upd (upd (upd (upd (fun _ => none) 243 (.tab [])) c4 (.cell none)) c1 (.cell none)) c3 (.cell none)) c2 (.cell none) = σ at I5 T5 H5
  clear I0 I1 I2 I3 I4 T1 T2 T3 T4 H1 H2 H3 H4 S0 S1 S2 S3 S4 S5 f1 f2 f3 f4
  have C : Cx w 20 (callerA.deeper (envX "law" scope L fa (.ref 247) cl)) g [] (envX "law" scope L fa (.ref 247) cl) :=
    ⟨Around.frames_deeper rfl, rfl, (by show callerA.depth + 1 + 3 * 20 + 20 < recursionLimit; decide), (by show callerA.units + 3 + 40 * 20 + 100 < cLine; decide), ⟨"law", scope, L, fa, _, cl, rfl, hk⟩, X, ⟨p, loose, mean, mg, mb, T⟩⟩
  have hl63 : (ns.map V.int).length ≤ 100 := by rw [List.length_map]; omega
  have key : WSb (fun base => base.IsList sa vs.toArray) w 20 (envX "law" scope L fa (.ref 247) cl) (.Assign [.Name "hat" p1] (.List [.Constant (.int 0) k1 p2, .Subscript (.Name "script" p3) (.Slice none (some (.Constant (.int 40) k2 p4)) none p5) p6] p7) p8 :: body) [("script", .ref sa)] σ (fun _ _ => False) (fun v s => v = .bool true ∧ TabOk 243 "law.<locals>.<lambda>" s) (fun _ _ => False) := by
    refine WSb.cons (WXb.assign (WEb.list (WLb.cons (WEb.of (WE.int ?_)))) hs hw)
    refine WLb.cons (WEb.subL hscr rfl (fun h => ints_rl hI) (by decide) (by omega) fun b fb => WLb.nil ⟨Nat.le_of_ble_eq_true rfl, fun ha fha => ?_⟩)
    refine WA.name hhat ?_
    have H6 := H5.new (o := .list ((ns.map V.int).take (Int.toNat 40))) fb
    have T6 := T5.new (o := .list ((ns.map V.int).take (Int.toNat 40))) fb
    have H7 := H6.new (o := .list [.int 0, .ref b]) fha
    have T7 := T6.new (o := .list [.int 0, .ref b]) fha
    refine WS.less (hG L fa c4 c1 c3 c2 b ha cl _ _ l4 l1 l3 l2 H7 T7 ?_ ?_) ?_
    · intro v hv
      obtain ⟨i, _, rfl⟩ := List.mem_map.mp (List.mem_of_mem_take hv)
      exact ⟨i, rfl⟩
    · exact Nat.le_trans (List.length_take_le' _ _) hl63
    · intro x v e
      unfold alook at e
      split at e
      · rename_i z; cases e; rw [z]; rfl
      · cases e
  refine key (callerA.deeper (envX "law" scope L fa (.ref 247) cl)) g [] ⟨h₁, gens, drawn, tk, os⟩ QQ EE hL C I5 (fun fl Γ' loc' σ' h' tk' q x i => ?_) (fun c e loc' σ' h' tk' q => q.elim)
  cases fl with
  | next => exact q.2.elim
  | ret rv =>
    obtain ⟨v, rfl, rfl, l, hl, _⟩ := q
    have r := i.gam (rv, .bool true) (by simp)
    dsimp only at r
    cases r
    obtain ⟨m', F', _⟩ := i.fr
    obtain ⟨ps, hps, _⟩ := i.objs _ _ hl
    exact hq h' tk' m' F' ⟨ps, hps⟩
  | brk => exact q.elim
  | cont => exact q.elim
theorem law_use {w : World} (h : LawIs w) {name qual : Str} {params : Arguments} {st : Stmt} {body : List Stmt} {scope : Scope} {dV kV doc pm cdv ct oc : Value} {an od : Option Addr} {osl : Array (Option Value)}
    (ho : (hd.heap_39 w.params).lookup 248 = some ⟨oc, od, .func (fnOf name qual params (st :: body) scope dV kV doc pm an cdv ct), osl⟩) : LawG w body scope := by
  obtain ⟨name', qual', params', p1, p2, p3, p4, p5, p6, p7, p8, k1, k2, body', scope', dV', kV', doc', pm', cdv', ct', oc', an', od', osl', hlk, hG⟩ := h
  rw [ho] at hlk
  have h2 := congrArg Obj.data (Option.some.inj hlk)
  have h3 := Data.func.inj h2
  have h4 := congrArg FuncData.body h3
  have h5 := congrArg FuncData.scope h3
  unfold fnOf at h4 h5
  dsimp only at h4 h5
  have h6 : body = body' := (List.cons.inj (FuncBody.stmts.inj h4)).2
  rw [h5, h6]
  exact hG
theorem jn : PySem.Challenge.rw_pq0138_01.Holds := by
  refine hd ?_
  k_go0
  all_goals (try k_fold)
  refine' law_run (law_use (law_ws _) ?ho) ?X ?T ?F ?hm ?hL ?hI ?hlen ?N ?d1 ?d2 ?d3 ?d4 ?e4 ?e3 ?e2 ?e1 ?hP ?l4 ?l3 ?l2 ?l1 ?hk ?hhat ?hscr ?hs ?hw ?hq
  case hL => assumption
  case X => assumption
  case T => assumption
  case F => assumption
  case N => assumption
  case hI => assumption
  case hlen => assumption
  case hP => assumption
  case e4 => exact rfl
  case e3 => exact rfl
  case e2 => exact rfl
  case e1 => exact rfl
  case l4 => exact rfl
  case l3 => exact rfl
  case l2 => exact rfl
  case l1 => exact rfl
  case hk => exact rfl
  case hhat => exact rfl
  case hscr => exact rfl
  case hs => exact rfl
  case hw => exact rfl
  case hm => exact rfl
  case d1 => assumption
  case d2 => assumption
  case d3 => assumption
  case d4 => assumption
  case ho => k_is
  case hq =>
    intro h' tk' m' F2 hgr
    refine ⟨?_, hgr, True.intro⟩
    refine goodW_bool F2 (by assumption) (raisesW_false ?_) ?_
    · wrow_none_raised
    · kc_post
end Mine
end
theorem PySem.Challenge.cw_pq0138_01_holds : PySem.Challenge.rw_pq0138_01.Holds := by
  exact Mine.jn
