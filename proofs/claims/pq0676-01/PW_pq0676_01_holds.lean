import PyProof.Rows.All
import Wide.All
import OpenK.AllK
import Wide.FinOn
import Lean
import PySem.Challenge.RW_pq0676_01
open PySem PySem.W PySem.Calls PyProof.Rows
set_option Elab.async false
namespace Mine
section
open PySem PySem.W PySem.Calls PyProof.Rows
set_option maxRecDepth 100000

/-- what one step of an exception's way may do: the exception, its last traceback entry and the frames' slots -/
structure Stir (fs : List Addr) (e : Addr) (hd : Value) (h h' : Heap) : Prop where
  slots : ∀ b o, h.get? b = some o → (∀ vs, o.data ≠ .fields vs) → ∃ sl, h'.get? b = some { o with slots := sl }
  other : ∀ b o, h.get? b = some o → b ≠ e → hd ≠ .ref b → b ∉ fs → h'.get? b = some o

theorem fresh_of_size {h : Heap} {b : Addr} (hb : h.objs.size ≤ b) : h.get? b = none := Heap.get?_none_of_le hb

section
variable {M : Model} {A : Around} {E : Value → Shared → Prop} {s : Shared}

theorem entry_exact {base : Heap} {env : Env} {outer : List Env} {L e : Addr} {oe : Obj} {vs : Array Value} {head : Value} {hadNext : Bool} {Q : Unit → Shared → Prop}
    (hfr : A.frames = some (env :: outer)) (hl : s.heap.FunFrames base (env :: outer)) (hf : env.frame = some L)
    (he : s.heap.get? e = some oe) (hd : oe.data = .fields vs) (hsz : 1 < vs.size)
    (h : ∀ h' T oT ts, s.heap.objs.size ≤ T → h'.get? e = some (Obj.mapFields (·.setIfInBounds 1 (.ref T)) oe) → h'.get? T = some oT → oT.data = .fields ts → ts[3]? = some (rawInt L) →
      Stir ((env :: outer).filterMap (·.frame)) e .none s.heap h' → Q () { s with heap := h' }) :
    wpAny M A (do let a ← frameOf env; let pl ← entryPlaceOf L hadNext; let b ← EntryCells.newEntry head a .none (rawInt L) .none pl; setField (.ref e) 1 b) Q E s := by
  have hene : e ∉ (env :: outer).filterMap (·.frame) := fun hm => by
    obtain ⟨_, o, ho, hnf⟩ := hl.mem hm
    rw [he] at ho; cases ho; exact hnf vs hd
  refine wpAny_bind (wpAny_frameOf_fun hfr hl hf fun h₁ hs₁ => ?_)
  refine wpAny_bind (wpAny_entryPlaceOf fun pl hpl => ?_)
  unfold EntryCells.newEntry newFields
  refine wpAny_bind (wpAny_newObj_type ?_ (hpl.sizeOk5 _ _ _ _ _))
  have he₁ : h₁.get? e = some oe := (hs₁.2.1 e hene).trans he
  have he₂ := Heap.get?_push_of_some (h := h₁) { cls := .type "traceback", dict := none, data := .fields ([head, .ref L, .none, rawInt L, .none] ++ (if pl.isEmpty then List.replicate 6 Value.none else pl)).toArray } he₁
  refine wpAny_setField he₂ hd hsz ?_
  have hTe : h₁.objs.size ≠ e := Nat.ne_of_gt (Heap.lt_size he₁)
  have hd₃ := Obj.data_mapFields hd (·.setIfInBounds 1 (Value.ref h₁.objs.size))
  have he₃ := Heap.get?_update_self (Obj.mapFields (·.setIfInBounds 1 (Value.ref h₁.objs.size))) he₂ (Obj.isFreed_of_fields hd₃)
  have hT₃ := (Heap.get?_update_other (h₁.push { cls := .type "traceback", dict := none, data := .fields ([head, .ref L, .none, rawInt L, .none] ++ (if pl.isEmpty then List.replicate 6 Value.none else pl)).toArray })
    (Obj.mapFields (·.setIfInBounds 1 (Value.ref h₁.objs.size))) (Ne.symm hTe)).trans (Heap.get?_push_size h₁ rfl)
  have keep : ∀ b o, b ≠ e → h₁.get? b = some o →
      ((h₁.push { cls := .type "traceback", dict := none, data := .fields ([head, .ref L, .none, rawInt L, .none] ++ (if pl.isEmpty then List.replicate 6 Value.none else pl)).toArray }).update e (Obj.mapFields (·.setIfInBounds 1 (Value.ref h₁.objs.size)))).get? b = some o :=
    fun b o hbe hb => by
      rw [Heap.get?_update_other _ _ (Ne.symm hbe)]
      exact Heap.get?_push_of_some _ hb
  refine h _ h₁.objs.size _ _ (Nat.le_of_eq hs₁.1.symm) he₃ hT₃ rfl ?_ ⟨fun b o hb hnf => ?_, fun b o hb hbe _ hbf => ?_⟩
  · first | (simp; done) | (rcases hpl with rfl | ⟨_, _, _, _, _, _, _, rfl⟩ <;> simp)
  · obtain ⟨sl, hs⟩ := hs₁.2.2 b o hb
    exact ⟨sl, keep b _ (fun q => by rw [q, he] at hb; cases hb; exact hnf vs hd) hs⟩
  · exact keep b o hbe ((hs₁.2.1 b hbf).trans hb)

/-- the head of the traceback: none, or an entry that flies -/
def HeadOk (h : Heap) (e : Addr) (head : Value) : Prop := head = .none ∨ ∃ T oT ts, head = .ref T ∧ T ≠ e ∧ h.get? T = some oT ∧ oT.data = .fields ts ∧ ts[3]? = some .none

theorem note_exact {base : Heap} {env : Env} {outer : List Env} {L e : Addr} {oe : Obj} {vs : Array Value} {head : Value} {Q : Unit → Shared → Prop}
    (hfr : A.frames = some (env :: outer)) (hl : s.heap.FunFrames base (env :: outer)) (hf : env.frame = some L)
    (he : s.heap.get? e = some oe) (hd : oe.data = .fields vs) (hh : vs[1]? = some head) (hH : HeadOk s.heap e head)
    (h : ∀ h' T oT ts, s.heap.objs.size ≤ T → h'.get? e = some (Obj.mapFields (·.setIfInBounds 1 (.ref T)) oe) → h'.get? T = some oT → oT.data = .fields ts → ts[3]? = some (rawInt L) →
      Stir ((env :: outer).filterMap (·.frame)) e head s.heap h' → Q () { s with heap := h' }) : wpAny M A (noteFrame (.ref e) env) Q E s := by
  have hsz := (Array.getElem?_eq_some_iff.mp hh).1
  unfold noteFrame
  simp only [hf]
  refine wpAny_bind (wpAny_field he hd hh ?_)
  rcases hH with rfl | ⟨T, oT, ts, rfl, hTe, hT, hdT, h3⟩
  · rw [if_neg (by decide)]
    exact entry_exact hfr hl hf he hd hsz h
  · rw [if_pos (show (Value.ref T != Value.none) = true from by simp)]
    refine wpAny_bind (wpAny_field hT hdT h3 ?_)
    rw [if_neg (show ¬ ((Value.none == rawInt L) = true) from by simp [rawInt])]
    refine wpAny_bind (wpAny_setField hT hdT (Array.getElem?_eq_some_iff.mp h3).1 ?_)
    have other : ∀ b, b ≠ T → (s.heap.update T (Obj.mapFields (·.setIfInBounds 3 Value.none))).get? b = s.heap.get? b := fun b hb => Heap.get?_update_other _ _ (Ne.symm hb)
    have noRecord : ∀ b o, s.heap.get? b = some o → (∀ vs, o.data ≠ .fields vs) → b ≠ T := fun b o hb hnf q => by
      rw [q, hT] at hb; cases hb; exact hnf ts hdT
    refine entry_exact hfr (hl.of_keeps fun b o hb hnf => ⟨o, (other b (noRecord b o hb hnf)).trans hb, rfl⟩) hf ((other e (Ne.symm hTe)).trans he) hd hsz
      fun h' T' oT' ts' k1 k2 k3 k4 k5 k6 => h h' T' oT' ts' (by rw [Heap.size_after_update] at k1; exact k1) k2 k3 k4 k5
        ⟨fun b o hb hnf => k6.slots b o ((other b (noRecord b o hb hnf)).trans hb) hnf, fun b o hb h1 h2 h3 => k6.other b o ((other b (fun q => h2 (by rw [q]))).trans hb) h1 (by simp) h3⟩

theorem flight_exact {e T : Addr} {oe oT : Obj} {vs ts : Array Value} {Q : Unit → Shared → Prop}
    (he : s.heap.get? e = some oe) (hd : oe.data = .fields vs) (h1 : vs[1]? = some (.ref T)) (hT : s.heap.get? T = some oT) (hdT : oT.data = .fields ts) (h3 : 3 < ts.size)
    (h : ∀ h', h'.get? T = some (Obj.mapFields (·.setIfInBounds 3 .none) oT) → (∀ b, b ≠ T → h'.get? b = s.heap.get? b) → h'.objs.size = s.heap.objs.size → Q () { s with heap := h' }) :
    wpAny M A (setFlight (.ref e) none) Q E s := by
  unfold setFlight
  refine wpAny_bind (wpAny_field he hd h1 ?_)
  rw [if_pos (show (Value.ref T != Value.none) = true from by simp)]
  refine wpAny_setField hT hdT h3 (h _ (Heap.get?_update_self _ hT (Obj.isFreed_of_fields (Obj.data_mapFields hdT _))) (fun b hb => Heap.get?_update_other _ _ (Ne.symm hb)) (Heap.size_after_update ..))
end

/-- an exception of an own class that holds a dict -/
abbrev excO (C D t : Addr) (tb ctx : Value) : Obj := { cls := .ref C, dict := some D, data := .fields #[.ref t, tb, ctx, .none, .bool false, .none] }

/-- the exception e flies: its entry T is marked with no frame -/
structure Fly (h : Heap) (C D t e T : Addr) (ctx : Value) : Prop where
  he : h.get? e = some (excO C D t (.ref T) ctx)
  ne : T ≠ e
  hT : ∃ oT ts, h.get? T = some oT ∧ oT.data = .fields ts ∧ ts[3]? = some .none

/-- as `Fly`, the entry's mark anything -/
structure Held (h : Heap) (C D t e T : Addr) (ctx : Value) : Prop where
  he : h.get? e = some (excO C D t (.ref T) ctx)
  ne : T ≠ e
  hT : ∃ oT ts, h.get? T = some oT ∧ oT.data = .fields ts ∧ 3 < ts.size
theorem Fly.held {h : Heap} {C D t e T : Addr} {ctx : Value} (x : Fly h C D t e T ctx) : Held h C D t e T ctx :=
  let ⟨a, b, oT, ts, c, d, k⟩ := x
  ⟨a, b, oT, ts, c, d, (Array.getElem?_eq_some_iff.mp k).1⟩
theorem Fly.keeps {h h' : Heap} {C D t e T : Addr} {ctx : Value} (x : Fly h C D t e T ctx) (k : ∀ b o, h.get? b = some o → h'.get? b = some o) : Fly h' C D t e T ctx :=
  let ⟨a, b, oT, ts, c, d, f⟩ := x
  ⟨k _ _ a, b, oT, ts, k _ _ c, d, f⟩

section
variable {M : Model} {A : Around} {E : Value → Shared → Prop} {s : Shared} {C D t e T : Addr} {ctx : Value}
theorem land {Q : Unit → Shared → Prop} (x : Held s.heap C D t e T ctx)
    (h : ∀ h', Fly h' C D t e T ctx → (∀ b, b ≠ T → h'.get? b = s.heap.get? b) → h'.objs.size = s.heap.objs.size → Q () { s with heap := h' }) : wpAny M A (setFlight (.ref e) none) Q E s := by
  obtain ⟨he, ne, oT, ts, hT, hd, h3⟩ := x
  refine flight_exact he rfl rfl hT hd h3 fun h' k1 k2 k3 => h h' ⟨(k2 e (Ne.symm ne)).trans he, ne, _, _, k1, Obj.data_mapFields hd _, by simp [h3]⟩ k2 k3
end

end
section
open PySem PySem.W PyProof.Rows
set_option maxRecDepth 100000 in
set_option maxHeartbeats 8000000 in
open_top hd for PySem.Challenge.rw_pq0676_01

end
section
open PySem PySem.W PySem.Calls PyProof.Rows
set_option maxRecDepth 100000

abbrev frs (l : List Env) : List Addr := l.filterMap (·.frame)

/-- the exception e is under way through the frames l; G: what stood when the callee was entered (but the ledger) -/
structure Up (base G : Heap) (l : List Env) (C D t e T : Addr) (ctx : Value) (news : List (Addr × Obj)) (h : Heap) : Prop where
  fly : Fly h C D t e T ctx
  keep : ∀ b o, G.get? b = some o → b ∉ frs l → h.get? b = some o
  slots : G.UpToSlots h
  nw : ∀ q ∈ news, h.get? q.1 = some q.2 ∧ G.get? q.1 = none
  frames : h.FunFrames base l
  ge : G.get? e = none
  gT : G.get? T = none
  ne : ∀ q ∈ news, q.1 ≠ e ∧ q.1 ≠ T

theorem Up.keeps {base G h h' : Heap} {l : List Env} {C D t e T : Addr} {ctx : Value} {news : List (Addr × Obj)} (R : Up base G l C D t e T ctx news h) (k : ∀ b o, h.get? b = some o → h'.get? b = some o) : Up base G l C D t e T ctx news h' :=
  ⟨R.fly.keeps k, fun b o x y => k _ _ (R.keep b o x y), R.slots.trans (Heap.UpToSlots.of_keeps k), fun q hq => ⟨k _ _ (R.nw q hq).1, (R.nw q hq).2⟩,
    R.frames.of_keeps fun b o x _ => ⟨o, k b o x, rfl⟩, R.ge, R.gT, R.ne⟩

theorem none_big {G h : Heap} (k : G.UpToSlots h) (kf : ∀ b o, G.get? b = some o → ∃ o', h.get? b = some o') {T : Addr} (hT : h.objs.size ≤ T) : G.get? T = none := by
  cases q : G.get? T with
  | none => rfl
  | some o =>
    obtain ⟨o', e⟩ := kf T o q
    exact absurd (Nat.lt_of_lt_of_le (Heap.lt_size e) hT) (Nat.lt_irrefl _)

section
variable {M : Model} {A : Around} {E : Value → Shared → Prop} {s : Shared} {base G : Heap} {l : List Env} {C D t e T : Addr} {ctx : Value} {news : List (Addr × Obj)}

theorem up_land {Q : Unit → Shared → Prop} (R : Up base G l C D t e T ctx news s.heap) (h : ∀ h', Up base G l C D t e T ctx news h' → Q () { s with heap := h' }) : wpAny M A (setFlight (.ref e) none) Q E s := by
  refine land R.fly.held fun h' k1 k2 k3 => h h' ?_
  obtain ⟨oT, ts, hT, hd, _⟩ := R.fly.hT
  have nT : ∀ b o, s.heap.get? b = some o → (∀ vs, o.data ≠ .fields vs) → b ≠ T := fun b o hb hn q => by
    rw [q, hT] at hb; cases hb; exact hn _ hd
  exact ⟨k1, fun b o x y => (k2 b fun q => by rw [q, R.gT] at x; cases x).trans (R.keep b o x y), R.slots.trans fun b o hb hn => ⟨o.slots, (k2 b (nT b o hb hn)).trans hb⟩,
    fun q hq => ⟨(k2 _ (R.ne q hq).2).trans (R.nw q hq).1, (R.nw q hq).2⟩, R.frames.of_keeps fun b o hb hn => ⟨o, (k2 b (nT b o hb hn)).trans hb, rfl⟩, R.ge, R.gT, R.ne⟩

theorem up_note {env : Env} {outer : List Env} {L : Addr} {Q : Unit → Shared → Prop} (R : Up base G (env :: outer) C D t e T ctx news s.heap)
    (hfr : A.frames = some (env :: outer)) (hf : env.frame = some L) (hG : ∀ b ∈ frs (env :: outer), ∃ o, G.get? b = some o)
    (h : ∀ h' T', Up base G (env :: outer) C D t e T' ctx news h' → Q () { s with heap := h' }) :
    wpAny M A (noteFrame (.ref e) env) (fun _ s₂ => wpAny M A (setFlight (.ref e) none) Q E s₂) E s := by
  obtain ⟨oT, ts, hT, hd, h3⟩ := R.fly.hT
  refine note_exact hfr R.frames hf R.fly.he rfl rfl (.inr ⟨T, oT, ts, rfl, R.fly.ne, hT, hd, h3⟩) fun h₁ T₁ oT₁ ts₁ k1 k2 k3 k4 k5 S => ?_
  have hne : T₁ ≠ e := Nat.ne_of_gt (Nat.lt_of_lt_of_le (Heap.lt_size R.fly.he) k1)
  have hH : Held h₁ C D t e T₁ ctx := ⟨k2, hne, oT₁, ts₁, k3, k4, (Array.getElem?_eq_some_iff.mp k5).1⟩
  refine land hH fun h' f1 f2 _ => h h' T₁ ?_
  have lt : ∀ b o, s.heap.get? b = some o → b ≠ T₁ := fun b o hb => Nat.ne_of_lt (Nat.lt_of_lt_of_le (Heap.lt_size hb) k1)
  have sl : s.heap.UpToSlots h' := fun b o hb hn => by
    obtain ⟨sl, hs⟩ := S.slots b o hb hn
    exact ⟨sl, (f2 b (lt b o hb)).trans hs⟩
  have kp : ∀ b o, s.heap.get? b = some o → b ≠ e → b ≠ T → b ∉ frs (env :: outer) → h'.get? b = some o := fun b o hb h1 h2 h4 =>
    (f2 b (lt b o hb)).trans (S.other b o hb h1 (fun q => h2 (Value.ref.inj q).symm) h4)
  refine ⟨f1, fun b o x y => kp b o (R.keep b o x y) (fun q => by rw [q, R.ge] at x; cases x) (fun q => by rw [q, R.gT] at x; cases x) y, R.slots.trans sl, fun q hq => ⟨kp _ _ (R.nw q hq).1 (R.ne q hq).1 (R.ne q hq).2 fun hm => ?_, (R.nw q hq).2⟩,
    R.frames.of_keeps fun b o hb hn => ?_, R.ge, ?_, fun q hq => ⟨(R.ne q hq).1, lt _ _ (R.nw q hq).1⟩⟩
  · obtain ⟨o, ho⟩ := hG _ hm
    rw [(R.nw q hq).2] at ho; cases ho
  · obtain ⟨sl', hs⟩ := sl b o hb hn
    exact ⟨_, hs, rfl⟩
  · cases q : G.get? T₁ with
    | none => rfl
    | some o =>
      by_cases hm : T₁ ∈ frs (env :: outer)
      · obtain ⟨_, o', ho', _⟩ := R.frames.mem hm
        exact absurd rfl (lt _ _ ho')
      · exact absurd rfl (lt _ _ (R.keep _ _ q hm))

theorem frames_in {A : Around} {g g₂ : Heap} {m : Str → Option Value} {env : Env} {outer : List Env} {L : Addr} (K : Below A base outer g) (F : Fr g L g₂ m) (hf : env.frame = some L) : ∀ b ∈ frs (env :: outer), ∃ o, g₂.get? b = some o := fun b hb => by
  show ∃ o, g₂.get? b = some o
  have hb' : b ∈ (env :: outer).filterMap (·.frame) := hb
  rw [List.filterMap_cons, hf] at hb'
  rcases List.mem_cons.mp hb' with rfl | hb'
  · obtain ⟨o, _, _, ho, _⟩ := F.ns
    exact ⟨o, ho⟩
  · obtain ⟨_, o, ho, _⟩ := K.frames.mem hb'
    exact ⟨o, F.keep _ _ ho⟩

theorem Up.out {g g₂ : Heap} {m : Str → Option Value} {env : Env} {outer : List Env} {L : Addr} {h : Heap} (R : Up base g₂ (env :: outer) C D t e T ctx news h) (F : Fr g L g₂ m) (hf : env.frame = some L) : Up base g outer C D t e T ctx news h := by
  have no : ∀ b, g₂.get? b = none → g.get? b = none := fun b hb => kts_none F.keep hb
  refine ⟨R.fly, fun b o x y => R.keep b o (F.keep _ _ x) fun hm => ?_, (Heap.UpToSlots.of_keeps F.keep).trans R.slots, fun q hq => ⟨(R.nw q hq).1, no _ (R.nw q hq).2⟩, R.frames.2.2, no _ R.ge, no _ R.gT, R.ne⟩
  have hm' : b ∈ (env :: outer).filterMap (·.frame) := hm
  rw [List.filterMap_cons, hf] at hm'
  rcases List.mem_cons.mp hm' with rfl | hm'
  · rw [kts_self F] at x; cases x
  · exact y hm'

theorem leave_next {g g₂ : Heap} {m : Str → Option Value} {env : Env} {outer : List Env} {L : Addr} {Q : Unit → Shared → Prop} (R : Up base g₂ (env :: outer) C D t e T ctx news s.heap) (K : Below A base outer g) (F : Fr g L g₂ m) (hf : env.frame = some L)
    (h : ∀ h' T', Up base g outer C D t e T' ctx news h' → Q () { s with heap := h' }) : wpAny M (A.deeper env) (leaving env (.ref e)) Q E s :=
  wpAny_bind (up_note R (Around.frames_deeper K.stack) hf (frames_in K F hf) fun h' T' R' => h h' T' (R'.out F hf))

theorem leave_first {g : Heap} {m : Str → Option Value} {env : Env} {outer : List Env} {L : Addr} {Q : Unit → Shared → Prop} {news₀ : List (Addr × Obj)} (K : Below A base outer g) (F : Fr g L s.heap m) (N : News g L s.heap news₀)
    (hm : (e, excO C D t .none ctx) ∈ news₀) (hs : ∀ q ∈ news, q ∈ news₀ ∧ q.1 ≠ e) (hf : env.frame = some L) (hk : env.scope.kind = .function)
    (h : ∀ h' T', Up base g outer C D t e T' ctx news h' → Q () { s with heap := h' }) : wpAny M (A.deeper env) (leaving env (.ref e)) Q E s := by
  have K' := pushX K F hf hk
  have he := (N _ hm).1
  refine wpAny_bind (note_exact K'.stack K'.frames hf he rfl rfl (.inl rfl) fun h₁ T₁ oT₁ ts₁ k1 k2 k3 k4 k5 S => ?_)
  have hne : T₁ ≠ e := Nat.ne_of_gt (Nat.lt_of_lt_of_le (Heap.lt_size he) k1)
  have hH : Held h₁ C D t e T₁ ctx := ⟨k2, hne, oT₁, ts₁, k3, k4, (Array.getElem?_eq_some_iff.mp k5).1⟩
  refine land hH fun h' f1 f2 _ => h h' T₁ ?_
  have lt : ∀ b o, s.heap.get? b = some o → b ≠ T₁ := fun b o hb => Nat.ne_of_lt (Nat.lt_of_lt_of_le (Heap.lt_size hb) k1)
  have kp : ∀ b o, s.heap.get? b = some o → b ≠ e → b ∉ frs (env :: outer) → h'.get? b = some o := fun b o hb h1 h4 =>
    (f2 b (lt b o hb)).trans (S.other b o hb h1 (fun q => by cases q) h4)
  have mem : ∀ b, b ∈ frs (env :: outer) → b = L ∨ b ∈ frs outer := fun b hb => by
    have hb' : b ∈ (env :: outer).filterMap (·.frame) := hb
    rw [List.filterMap_cons, hf] at hb'
    exact List.mem_cons.mp hb'
  have sl : s.heap.UpToSlots h' := fun b o hb hn => by
    obtain ⟨sl, hs⟩ := S.slots b o hb hn
    exact ⟨sl, (f2 b (lt b o hb)).trans hs⟩
  refine ⟨f1, fun b o x y => kp b o (F.keep _ _ x) (fun q => by rw [q, (N _ hm).2.2] at x; cases x) fun hm' => ?_, (Heap.UpToSlots.of_keeps F.keep).trans sl, fun q hq => ⟨kp _ _ (N _ (hs q hq).1).1 (hs q hq).2 fun hm' => ?_, (N _ (hs q hq).1).2.2⟩,
    K.frames.of_keeps fun b o hb hn => ?_, (N _ hm).2.2, ?_, fun q hq => ⟨(hs q hq).2, lt _ _ (N _ (hs q hq).1).1⟩⟩
  · rcases mem b hm' with rfl | hm'
    · rw [kts_self F] at x; cases x
    · exact y hm'
  · rcases mem _ hm' with z | hm'
    · exact (N _ (hs q hq).1).2.1 z
    · obtain ⟨_, o, ho, _⟩ := K.frames.mem hm'
      rw [(N _ (hs q hq).1).2.2] at ho; cases ho
  · obtain ⟨sl', hs'⟩ := sl b o (F.keep _ _ hb) hn
    exact ⟨_, hs', rfl⟩
  · cases q : g.get? T₁ with
    | none => rfl
    | some o => exact absurd rfl (lt _ _ (F.keep _ _ q))
end

section
variable {prog : Program} {w : World} {A₀ : Around} {E : Value → Shared → Prop} {s : Shared} {base g g₀ G : Heap} {outer : List Env} {L a C D t e T : Addr} {ctx : Value} {m : Str → Option Value} {name : Str} {scope : Scope} {cd : Value}
  {n x : Str} {b₀ : Stmt} {suite : List Stmt} {pos np : Pos} {rest : List ExceptHandler} {Q : Flow → Shared → Prop} {news : List (Addr × Obj)} {KF : Frag}
  {p : Program} {loose : List Str} {mean : ExcName → Option Value} {mg mb : Str → Option Value}

theorem up_ground {env : Env} {h : Heap} (K : Below A₀ base outer g) (F : Fr g L G m) (R : Up base G (envOf name scope L a cd :: outer) C D t e T ctx news h) :
    ∃ g', KtsTurn (outer.filterMap (·.frame)) g g' ∧ Fr g' L h m ∧ Below A₀ base outer g' :=
  kts_ground (name := name) (scope := scope) (a := a) (cd := cd) (B := hideAll h (frs (envOf name scope L a cd :: outer))) K F (fun b o q nm => hideAll_get _ (R.keep b o q nm) nm) (fun b o q => of_hideAll _ q) R.slots

theorem catch_as (R : Up base G (envOf name scope L a cd :: outer) C D t e T ctx news s.heap) (F : Fr g L G m) (K : Below A₀ base outer g) (XB : KF.In base) (TB : Top p loose mean mg mb base)
    (Dd : KtsDicts (outer.filterMap (·.frame)) g) (T0 : KtsTurn (outer.filterMap (·.frame)) g₀ g)
    (hn : nsIn KF mainGlobals x = some (some (.ref C))) (hx : exmOne KF (.ref C) (.ref C) = some true)
    (k : ∀ h' g' T' tk, KtsTurn (outer.filterMap (·.frame)) g₀ g' → Fr g' L h' (fun y => if y = n then some (.ref e) else m y) → News g' L h' ((e, excO C D t (.ref T') ctx) :: news) → Below A₀ base outer g' → KF.In g' → Top p loose mean mg mb g' → KtsDicts (outer.filterMap (·.frame)) g' →
      wpAny (model prog w) ((A₀.deeper (envOf name scope L a cd)).mark (some (.ref e))) (execs (b₀ :: suite) (envOf name scope L a cd))
        (fun f s₄ => wpAny (model prog w) (A₀.deeper (envOf name scope L a cd)) (do bindName (envOf name scope L a cd) n .none; unbindBehindTheSuite (envOf name scope L a cd) n pos) (fun _ s₅ => Q f s₅) E s₄)
        (AsSuiteRaised (model prog w) ((A₀.deeper (envOf name scope L a cd)).mark (some (.ref e))) (envOf name scope L a cd) n pos (notedBy (model prog w) ((A₀.deeper (envOf name scope L a cd)).mark (some (.ref e))) (envOf name scope L a cd) (cameBackBy (model prog w) (A₀.deeper (envOf name scope L a cd)) (envOf name scope L a cd) E)))
        { s with heap := h', toks := tk })
    (hk : scope.kind = .function := by rfl) (hlo : (envOf name scope L a cd).kindOf n = some .local := by rfl) (hgl : (envOf name scope L a cd).kindOf x = some .globalImplicit := by rfl) (hd : (x == ("__debug__" : Str)) = false := by decide) :
    wpAny (model prog w) (A₀.deeper (envOf name scope L a cd)) (noteFrame (.ref e) (envOf name scope L a cd))
      (fun _ s₂ => wpAny (model prog w) (A₀.deeper (envOf name scope L a cd)) (setFlight (.ref e) none) (fun _ s₃ =>
        wpAny (model prog w) (A₀.deeper (envOf name scope L a cd)) (handleBy (.ref e) (envOf name scope L a cd) (.ExceptHandler (some (.Name x np)) (some n) (b₀ :: suite) pos :: rest)) Q E s₃) E s₂) E s := by
  refine up_note R (Around.frames_deeper K.stack) rfl (frames_in K F rfl) fun h₂ T₂ R₂ => ?_
  obtain ⟨g₂, T₂', F₂, K₂⟩ := up_ground (env := envOf name scope L a cd) K F R₂
  have LT : Looks (model prog w) h₂ (typeOf (.ref e)) (.ref C) := (Looks.ld R₂.fly.he).andThen .now
  refine wpAny_handleBy_cons (codeAny_handlers_test (test_name (.inl hn) hx hk hgl hd _ _ _ _ g₂ e m F₂ (XB.keeps K₂.stays) (topRead_of (TB.keeps K₂.stays)) LT fun h₃ kp => ?_)) (by intro q; cases q)
  refine codeAny_handlers_suite_as ?_
  refine up_land (R₂.keeps kp) fun h₄ R₄ => ?_
  obtain ⟨g₄, T₄', F₄, K₄⟩ := up_ground (env := envOf name scope L a cd) K F R₄
  have no : ∀ b, G.get? b = none → g₄.get? b = none := fun b hb => T₄'.none_ _ (kts_none F.keep hb)
  have hL : ∀ b, G.get? b = none → b ≠ L := fun b hb z => by
    obtain ⟨o, _, _, ho, _⟩ := F.ns
    rw [z, ho] at hb; cases hb
  have N₄ : News g₄ L h₄ ((e, excO C D t (.ref T₂) ctx) :: news) := fun q hq => by
    rcases List.mem_cons.mp hq with rfl | hq
    · exact ⟨R₄.fly.he, hL _ R₄.ge, no _ R₄.ge⟩
    · exact ⟨(R₄.nw q hq).1, hL _ (R₄.nw q hq).2, no _ (R₄.nw q hq).2⟩
  refine stN F₄ N₄ (fun h₇ F₇ N₇ => ?_) hk hlo
  exact k h₇ g₄ T₂ _ (T0.trans T₄') F₇ N₇ K₄ (XB.keeps K₄.stays) (TB.keeps K₄.stays) (Dd.turn T₄')
end

end
section
open PySem PySem.W PySem.Calls PyProof.Rows Builtin Builtin.ObjectAttr
set_option maxRecDepth 100000
theorem ga_slot : Slot "Exception" "__getattribute__" "BaseException.__getattribute__" := PySem.F.attr_Exception.ga
theorem ga_kind : builtinKind "BaseException.__getattribute__" = some .slot := by decide +kernel
theorem ga_split : splitId "BaseException.__getattribute__" = some ("BaseException", "__getattribute__") := by decide +kernel
section
variable {prog : Program} {w : World} {A : Around} {E : Value → Shared → Prop} {s : Shared} {K : Frag} {x C : Addr} {ox : Obj} {od : Option Obj} {name : Str} {expr : Bool} {Q : Value → Shared → Prop}
theorem get_exc {v : Value} (X : K.In s.heap) (I : InstAt s.heap x ox C od) (hga : findIn K (.ref C) "__getattribute__" = some (some (.builtin "BaseException.__getattribute__")))
    (hk : findIn K (.ref C) "__getattr__" = some none) (hm : mroIn K C (.type "BaseException") = some true) (hf : findObj K C od name = some (.value v)) (hh : handedIn v = true) (h : Q v { s with toks := s.toks + 1 }) :
    wpAny (model prog w) A (getAttr (.ref x) name expr) Q E s := by
  obtain ⟨hp, g, d, t, os⟩ := s
  have L0 := I.type (M := model prog w)
  have L1 := looks_findIn (M := model prog w) X hga
  have L2 := looks_findIn (M := model prog w) X hk
  have L3 := looks_find (M := model prog w) X I hf
  have sub : Looks (model prog w) hp (isInstance (.ref x) (.type "BaseException")) true := I.type.andThen (looks_mroIn X hm)
  have hx0 : (expr && onTheHeap (Value.builtin "BaseException.__getattribute__")) = false := by cases expr <;> rfl
  unfold getAttr getAttrBy
  refine wpAny_bind (wpAny_mkText (wpAny_holding (wpAny_bind (L0.at (wpAny_bind (L1.at ?_))))))
  show wpAny _ _ (getAttrByItsOwn _ _ _ _ _ _) _ _ _
  unfold getAttrByItsOwn
  refine wpAny_bind ((show Looks (model prog w) hp (hookBefore (.ref C)) none from L2).at ?_)
  refine wpAny_bind (wpAny_attempt (wpAny_holding ?_))
  unfold callGetattribute
  rw [hx0, if_neg (by decide)]
  unfold boundAndCalled
  rw [ga_slot.bind (.ref x)]
  refine wpAny_bind (wpAny_pure ?_)
  refine wpAny_call (codeAny_call_builtin ga_slot.plain PySem.F.entry_bexc_ga (@check_slot (model prog w) _ _ _ "BaseException.__getattribute__" "BaseException" "__getattribute__" (.ref x) [.str name t] [] _ ga_kind ga_split sub (PySem.F.args_bexc_ga _ _) ?_))
  refine wpAny_bind (wpAny_pure (wpAny_bind (wpAny_pure (wpAny_bind (L0.at (wpAny_bind (L3.at ?_)))))))
  refine wpAny_pure ?_
  show wpAny _ _ (handedOut v) _ _ _
  rw [handedOut_of hh]; exact wpAny_pure h
end

end
section
open PySem PySem.W PySem.Calls PyProof.Rows Builtin Builtin.ObjectAttr
set_option maxRecDepth 100000
abbrev bmE : List Value := [.type "Exception", .type "BaseException", .type "object"]
def isExcCls (K : Frag) (C : Addr) : Bool := (clsIn K C).any fun cd => cd.mro == .ref C :: bmE && cd.hasDict
theorem isExcCls_get {K : Frag} {C : Addr} (h : isExcCls K C = true) : ∃ cd, clsIn K C = some cd ∧ cd.mro = .ref C :: bmE ∧ cd.hasDict = true := by
  obtain ⟨cd, hc, hd⟩ := any_some h
  rw [Bool.and_eq_true] at hd
  exact ⟨cd, hc, eq_of_beq hd.1, hd.2⟩
theorem refuse_exc (self : Value) (C : Addr) : refuseLoop self "__setattr__" (.ref C :: bmE) = pure () := by
  rw [refuseLoop_ref]; exact PySem.F.store_Exception.passes self
section
variable {prog : Program} {w : World} {A : Around} {E : Value → Shared → Prop} {s : Shared} {K : Frag} {x C : Addr} {ox : Obj} {od : Option Obj} {name : Str} {R : Result → Shared → Prop}

theorem osa_exc {tk : Tok} {v : Value} (X : K.In s.heap) (I : InstAt s.heap x ox C od) (hp : isExcCls K C = true) (ht : takerIn K C name = some none)
    (h : ∀ b, wpAny (model prog w) A.in1 (storeInOwnDict (.ref x) (.ref C) (.str name tk) name v b)
      (fun fin s' => match fin with | .done f => R (.ok f) s' | .again c' => c'.quiet = true ∧ codeAny (model prog w) A c' R s') (fun e s' => R (.error e) s') s) :
    codeAny (model prog w) A (.call (.builtin "object.__setattr__") ⟨[.ref x, .str name tk, v], []⟩) R s := by
  have SF := PySem.F.store_Exception
  obtain ⟨cd, hc, ho, _⟩ := isExcCls_get hp
  have sub : Looks (model prog w) s.heap (isInstance (.ref x) (.type "object")) true := I.type.andThen (looks_mroIn X (by unfold mroIn; rw [hc, Option.bind_some, ho]; rfl))
  refine codeAny_call_builtin SF.slot.plain SF.entry (@check_slot (model prog w) _ _ s "object.__setattr__" "object" "__setattr__" (.ref x) [.str name tk, v] [] _ SF.kind SF.split sub (SF.args (.ref x) (.str name tk) v) ?_)
  obtain ⟨attr, ha, hr⟩ := Option.bind_eq_some_iff.mp ht
  have hm : Looks (model prog w) s.heap (mroOf (.ref C)) cd.mro := (looks_clsIn X hc).andThen .now
  have L3 : Looks (model prog w) s.heap (storeTaker? attr) none := by
    cases attr with
    | none => exact .now
    | some a =>
      obtain ⟨b, hb, hr⟩ := Option.map_eq_some_iff.mp hr
      refine (looks_takesIn X hb).andThen ?_
      cases b
      · exact .now
      · cases hr
  rw [osa_eq, refuse_eq]
  refine wpAny_bind (wpAny_bind (I.type.here (wpAny_bind (hm.here ?_))))
  rw [ho, refuse_exc]
  refine wpAny_pure (wpAny_bind (I.type.here (wpAny_bind ((looks_findIn X ha).here (wpAny_bind (L3.here ?_))))))
  exact h _
end

section
variable {prog : Program} {w : World} {A : Around} {E : Value → Shared → Prop} {s : Shared} {K : Frag} {x C dx L : Addr} {h₀ : Heap} {m : Str → Option Value} {news news' : List (Addr × Obj)} {ox : Obj} {es es' : List DictEntry} {n n' : Nat} {name : Str} {v : Value}

/-- the store of a name into a dict that stands in the ledger -/
theorem storeDict {tk : Tok} {Q : Fin → Shared → Prop} (F : Fr h₀ L s.heap m) (N : News h₀ L s.heap news) (hl : (getL name es).isSome = true)
    (e : (putL name (PyData.keyHash w.params name) (.str name s.toks) v es, putN name es n) = (es', n')) (U : Upd dx (dictOf es n) (dictOf es' n') news news') (hz : es'.length ≤ 1000)
    (h : ∀ h', Fr h₀ L h' m → News h₀ L h' news' → Q (.done (.ret .none)) { s with heap := h', toks := s.toks + 1 }) :
    wpAny (model prog w) A (storeInDict dx (.str name tk) name v) Q E s := by
  obtain ⟨pre, post, rfl, rfl, h1, h2⟩ := U.split
  obtain ⟨e1, e2⟩ := Prod.mk.inj e
  obtain ⟨U1, U2⟩ := news_upd (f := Obj.putName name (PyData.keyHash w.params name) (.str name s.toks) v) F N h1 h2 (by rw [putName_dict, e1, e2]) rfl
  have D := (N (dx, dictOf es n) (by simp)).1
  have D' := (U2 (dx, dictOf es' n') (by simp)).1
  refine wpAny_bind (wpAny_pure (wpAny_bind ?_))
  unfold nsSet
  refine wpAny_bind (wpAny_bind (wpAny_askSetting (wpAny_pure (wpAny_bind (wpAny_mkText (wpAny_bind (wpAny_loadPart D ?_)))))))
  have hl : (lookIn name (dictOf es n)).isSome = true := hl
  unfold lookIn at hl
  have c : (!es.toArray.any (·.key.isStr name) && es.toArray.any (·.refKey)) = false := by
    rw [← Array.any_toList, ← Array.any_toList]
    dsimp only at hl
    split at hl
    · rename_i en he
      rw [List.any_eq_true.mpr ⟨en, List.mem_of_find?_eq_some he, List.find?_some he⟩]; rfl
    · split at hl
      · cases hl
      · rename_i z; rw [Bool.not_eq_true] at z; rw [z, Bool.and_false]
  dsimp only
  rw [aRefKeyMayBeTheName_at, c]
  refine wpAny_updatePart D ?_
  refine wpAny_bind (wpAny_lookBehind D' (by exact pastItsLine_dict (by rw [List.size_toArray, sizeLine_eq]; omega)) ?_)
  exact wpAny_pure (h _ U1 U2)

theorem set_excD {Q : Unit → Shared → Prop} (F : Fr h₀ L s.heap m) (X₀ : K.In h₀) (N : News h₀ L s.heap news) (I : InstAt s.heap x ox C (some (dictOf es n))) (hd : ox.dict = some dx)
    (hs : findIn K (.ref C) "__setattr__" = some (some (.builtin "object.__setattr__"))) (hp : isExcCls K C = true) (ht : takerIn K C name = some none) (hl : (getL name es).isSome = true)
    (e : (putL name (PyData.keyHash w.params name) (.str name (s.toks + 1)) v es, putN name es n) = (es', n')) (U : Upd dx (dictOf es n) (dictOf es' n') news news') (hz : es'.length ≤ 1000)
    (h : ∀ h', Fr h₀ L h' m → News h₀ L h' news' → Q () { s with heap := h', toks := s.toks + 2 }) :
    wpAny (model prog w) A (setAttr (.ref x) name v) Q E s := by
  refine set_plain (X₀.keeps F.keep) I hs ?_
  refine osa_exc (s := { s with toks := s.toks + 1 }) (X₀.keeps F.keep) I hp ht fun b => ?_
  obtain ⟨cd, hc, _, hd'⟩ := isExcCls_get hp
  obtain ⟨hx, hcl, hn, -⟩ := I
  obtain ⟨oc, odi, oda, osl⟩ := ox
  dsimp only at hcl hd
  subst hcl hd
  refine wpAny_bind (wpAny_pure (wpAny_bind (wpAny_bind (wpAny_loadPart hx (wpAny_bind ((looks_clsIn (X₀.keeps F.keep) hc).at ?_))))))
  rw [hd']
  refine wpAny_pure (a := some dx) ?_
  exact storeDict (s := { s with toks := s.toks + 1 }) F N hl e U hz fun h' F' N' => h h' F' N'

theorem set_exc0 {Q : Unit → Shared → Prop} {fs : Array Value} {g : Obj → List (Addr × Obj)} (F : Fr h₀ L s.heap m) (X₀ : K.In h₀) (N : News h₀ L s.heap news)
    (U : UpdF x { cls := .ref C, data := .fields fs } news g)
    (hs : findIn K (.ref C) "__setattr__" = some (some (.builtin "object.__setattr__"))) (hp : isExcCls K C = true) (ht : takerIn K C name = some none)
    (h : ∀ h' D, Fr h₀ L h' m → News h₀ L h' ((D, dictOf [⟨PyData.keyHash w.params name, .str name (s.toks + 1), v⟩] 1) :: g { cls := .ref C, dict := some D, data := .fields fs }) → (∀ q ∈ news, q.1 < D) → Q () { s with heap := h', toks := s.toks + 2 }) :
    wpAny (model prog w) A (setAttr (.ref x) name v) Q E s := by
  obtain ⟨own, rest, rfl, hgr, h1, h2⟩ := U.split
  have hx := (N (x, { cls := .ref C, data := .fields fs }) (List.mem_append_right _ (.head _))).1
  have I : InstAt s.heap x { cls := .ref C, data := .fields fs } C none := ⟨hx, rfl, rfl, trivial⟩
  refine set_plain (X₀.keeps F.keep) I hs ?_
  refine osa_exc (s := { s with toks := s.toks + 1 }) (X₀.keeps F.keep) I hp ht fun b => ?_
  obtain ⟨cd, hc, _, hd'⟩ := isExcCls_get hp
  refine wpAny_bind (wpAny_pure (wpAny_bind (wpAny_bind (wpAny_loadPart hx (wpAny_bind ((looks_clsIn (X₀.keeps F.keep) hc).at ?_))))))
  rw [hd']
  have lt : ∀ q ∈ own ++ (x, ({ cls := .ref C, data := .fields fs } : Obj)) :: rest, q.1 < s.heap.objs.size := fun q hq => Heap.lt_size (N q hq).1
  have N1 := N.push F emptyDict
  have F1 := F.push emptyDict
  have hx1 := Heap.get?_push_of_some emptyDict hx
  obtain ⟨U1, U2⟩ := news_upd (pre := (s.heap.objs.size, emptyDict) :: own) (post := rest) (f := fun o => { o with dict := some s.heap.objs.size }) F1 (by simpa using N1)
    (fun p hp => by
      rcases List.mem_cons.mp hp with rfl | hp
      · exact Nat.ne_of_gt (lt _ (List.mem_append_right _ (.head _)))
      · exact h1 p hp) h2 rfl rfl
  simp only [Bool.not_true, Bool.false_eq_true, if_false]
  refine wpAny_bind (wpAny_alloc (wpAny_bind (wpAny_update hx1 ?_)))
  refine wpAny_pure (a := some s.heap.objs.size) ?_
  refine storeDict (es' := [⟨PyData.keyHash w.params name, .str name (s.toks + 1), v⟩]) (n' := 1) (s := { s with heap := (s.heap.push emptyDict).update x fun o => { o with dict := some s.heap.objs.size }, toks := s.toks + 1 }) (es := []) (n := 0) U1 U2 rfl rfl (.head fun p hp => ?_) (by show 1 ≤ 1000; omega) fun h' F' N' => ?_
  · have : p.1 < s.heap.objs.size := by
      rcases List.mem_append.mp hp with hp | hp
      · exact lt p (List.mem_append_left _ hp)
      · rcases List.mem_cons.mp hp with rfl | hp
        · exact Heap.lt_size hx
        · exact lt p (List.mem_append_right _ (.tail _ hp))
    exact Nat.ne_of_lt this
  · refine h h' s.heap.objs.size F' ?_ lt
    rw [hgr]
    exact N'
end

end
section
open PySem PySem.W PySem.Calls PyProof.Rows Builtin Builtin.ObjectAttr
set_option maxRecDepth 100000

def excCI (K : Frag) (C N fI : Addr) : Bool := match K.lookup C with
  | some ⟨.type "type", _, .cls cd, sl⟩ => cd.mro == .ref C :: bmE && cd.ns == N && !cd.hasDel && nsOkIn K N && nsIn K N "__init__" == some (some (.ref fI)) && (match sl.toList with
    | [_, _, _, _, some (.builtin n), _] => n == "Exception.__new__"
    | _ => false)
  | _ => false

theorem ns_some_of {K : Frag} {h : Heap} {N : Addr} {mg : Str → Option Value} {n : Str} {v : Value} (X : K.In h) (G : h.Ns N mg) (e : nsIn K N n = some (some v)) : mg n = some v := by
  unfold nsIn at e
  cases q : K.lookup N with
  | none => rw [q] at e; cases e
  | some ob =>
    rw [q] at e
    obtain ⟨c, d, dat, sl⟩ := ob
    cases dat with
    | dict es k =>
      have there : h.nsMap N n = nsFind es n := by rw [Heap.nsMap, X _ _ q]
      rw [G.eq_nsMap, there]
      dsimp only at e
      cases r : es.toList.find? (·.key.isStr n) with
      | some y => rw [r] at e; rw [nsFind, findBy, ← Array.find?_toList, r]; exact Option.some.inj e
      | none => rw [r] at e; dsimp only at e; split at e <;> simp at e
    | _ => cases e

theorem exc_cls {K : Frag} {h : Heap} {C N fI : Addr} (X : K.In h) (q : excCI K C N fI = true) : ∃ nm qn bs hdct sn sub ab col dd k0 k1 k2 k3 k5 mN,
    h.get? C = some (excClassObj nm qn C N bs bmE hdct sn sub ab col dd k0 k1 k2 k3 k5 "Exception.__new__") ∧ h.Ns N mN ∧ mN "__init__" = some (.ref fI) := by
  unfold excCI at q
  split at q
  · rename_i dd cd sl ho
    simp only [Bool.and_eq_true, beq_iff_eq, Bool.not_eq_true'] at q
    obtain ⟨⟨⟨⟨⟨hm, hN⟩, hdel⟩, hok⟩, hi⟩, hs⟩ := q
    split at hs
    · rename_i k0 k1 k2 k3 n k5 hsl
      obtain ⟨nm, bs, mro, ns, qn, hd, sn, sub, ab, col, del⟩ := cd
      dsimp only at hm hN hdel
      have hn : n = "Exception.__new__" := beq_iff_eq.mp hs
      subst hm hN hdel hn
      have hsl' : sl = #[k0, k1, k2, k3, some (.builtin "Exception.__new__"), k5] := by
        obtain ⟨l⟩ := sl
        simp only at hsl
        rw [hsl]
      subst hsl'
      have G := Heap.Ns.of_isNs (isNs_of_in X hok)
      exact ⟨nm, qn, bs, hd, sn, sub, ab, col, dd, k0, k1, k2, k3, k5, _, X _ _ ho, G, ns_some_of X G hi⟩
    · cases hs
  · cases q

section
variable {prog : Program} {w : World} {A : Around} {E : Value → Shared → Prop} {s : Shared} {K : Frag} {C N₁ fI L : Addr} {h₀ : Heap} {m : Str → Option Value} {news : List (Addr × Obj)}

theorem call_exc {rest : List Value} {Q : Value → Shared → Prop} (F : Fr h₀ L s.heap m) (X₀ : K.In h₀) (N : News h₀ L s.heap news) (q : excCI K C N₁ fI = true) (hf : isFn K (.ref fI) = true) (hz : rest.length ≤ 1000)
    (h : ∀ e t h', Fr h₀ L h' m → News h₀ L h' ((e, { cls := .ref C, data := .fields #[.ref t, .none, .none, .none, .bool false, .none] }) :: news) → (∀ p ∈ news, p.1 ≠ e) →
      wpAny (model prog w) (A.under (.builtin "type.__call__" ⟨.ref C :: rest, []⟩)) (call (.ref fI) (.ref e :: rest)) (fun r s' => r = .none ∧ Q (.ref e) s') E { s with heap := h' }) :
    wpAny (model prog w) A (call (.ref C) rest) Q E s := by
  obtain ⟨nm, qn, bs, hdct, sn, sub, ab, col, dd, k0, k1, k2, k3, k5, mN, hC, G, hi⟩ := exc_cls (X₀.keeps F.keep) q
  have hT : typeIn K (.ref fI) = some (.type "function") := beq_iff_eq.mp hf
  obtain ⟨oI, hoI, hcI⟩ : ∃ oI, s.heap.get? fI = some oI ∧ oI.cls = .type "function" := by
    obtain ⟨o, ho, hc⟩ := Option.map_eq_some_iff.mp hT
    exact ⟨o, (X₀.keeps F.keep) _ _ ho, hc⟩
  obtain ⟨hp, g, d, t, os⟩ := s
  refine wpAny_call_exc_init PySem.F.excBase_Exception hC G hi hoI hcI (fun h' e M => ?_) (by rw [sizeLine_eq]; omega)
  obtain ⟨tu, he, htn, ht⟩ := M.there
  have F' := F.keeps M.keeps
  have hL : e ≠ L := fun z => by
    obtain ⟨o, _, _, ho, _⟩ := F.ns
    have := M.new
    rw [z, ho] at this; cases this
  exact h e tu h' F' (fun p hp => by
    rcases List.mem_cons.mp hp with rfl | hp
    · exact ⟨he, hL, kts_none F.keep M.new⟩
    · exact ⟨M.keeps _ _ (N p hp).1, (N p hp).2⟩) fun p hp z => by
      have := (N p hp).1
      rw [z, M.new] at this; cases this
end

/-- what a raise statement does with the value that it has reckoned -/
def raiseTail (v : Value) : Sem Flow := do
  let e ← excFromValue v "exceptions must derive from BaseException"
  let e ← if ← isType v then holding [e] (raisedFor v e) else raisedInstance e
  setFlight e none
  raiseNew e

theorem raise_open {M : Model} {A : Around} {E : Value → Shared → Prop} {s : Shared} {env : Env} {x : Expr} {pos : Pos} {Q : Flow → Shared → Prop}
    (h : wpAny M A (eval x env) (fun v s₁ => wpAny M A (raiseTail v) Q E s₁) E s) : wpAny M A (exec (.Raise (some x) none pos) env) Q E s := by
  rw [arm_exec_Raise]
  refine wpAny_bind (wpAny_standAt ?_)
  unfold raiseStmt
  refine wpAny_bind (wpAny_bind (wpAny_mono h (fun v s₁ h₁ => wpAny_bind (wpAny_standAt (wpAny_pure ?_))) fun _ _ x => x))
  exact h₁

section
variable {prog : Program} {w : World} {A : Around} {E : Value → Shared → Prop} {s : Shared} {K : Frag} {C D t e L : Addr} {h₀ : Heap} {m : Str → Option Value} {news news' : List (Addr × Obj)} {Q : Flow → Shared → Prop}

def isCls0 (K : Frag) (C : Addr) : Bool := match K.lookup C with
  | some ⟨.type "type", _, .cls cd, _⟩ => cd.mro == .ref C :: bmE
  | _ => false

theorem raise_start (X : K.In s.heap) (hc : isCls0 K C = true) (he : s.heap.get? e = some (excO C D t .none .none))
    (h : wpAny (model prog w) A (raiseNew (.ref e) : Sem Flow) Q E s) : wpAny (model prog w) A (raiseTail (.ref e)) Q E s := by
  obtain ⟨hp, g, d, tk, os⟩ := s
  obtain ⟨dd, cd, sl, ho, hm⟩ : ∃ dd cd sl, K.lookup C = some ⟨.type "type", dd, .cls cd, sl⟩ ∧ cd.mro = .ref C :: bmE := by
    unfold isCls0 at hc
    split at hc
    · rename_i dd cd sl ho
      exact ⟨dd, cd, sl, ho, eq_of_beq hc⟩
    · cases hc
  have hC := X _ _ ho
  have LT : Looks (model prog w) hp (typeOf (.ref e)) (.ref C) := (Looks.ld he).andThen .now
  have LC : Looks (model prog w) hp (typeOf (.ref C)) (.type "type") := (Looks.ld hC).andThen .now
  have LS : Looks (model prog w) hp (isInstance (.ref e) (.type "BaseException")) true := LT.andThen (looks_mroIn X (by unfold mroIn clsIn; rw [ho]; simp only [Option.bind_some]; rw [hm]; rfl))
  have LY : Looks (model prog w) hp (isType (.ref e)) false := by
    unfold isType
    first
      | exact (Looks.ld he).andThen .now
      | exact LT.andThen (Looks.of_pure rfl)
  unfold raiseTail excFromValue isExcClass raisedInstance
  repeat (first | with_reducible refine wpAny_bind ?_ | with_reducible refine LY.at ?_ | with_reducible refine LS.at ?_ | with_reducible refine LT.at ?_ | with_reducible refine LC.at ?_ | with_reducible refine wpAny_pure ?_ | simp only [Bool.false_eq_true, if_false, if_true])
  rw [if_pos (by simp)]
  refine wpAny_pure (wpAny_bind ?_)
  unfold setFlight
  refine wpAny_bind (wpAny_field he rfl (x := .none) rfl ?_)
  rw [if_neg (by decide)]
  exact wpAny_pure h

theorem raise_none {e : Addr} (hh : A.handled = none) (h : E (.ref e) s) : wpAny (model prog w) A (raiseNew (.ref e) : Sem Flow) Q E s := by
  unfold raiseNew
  refine wpAny_bind (wpAny_handled ?_)
  rw [hh]
  exact wpAny_bind (wpAny_pure (wpAny_throw h))

theorem entry_unchain : entryFor table "proto.unchain" = some Builtin.«proto.unchain» := entryFor_of_tree (by kernel_rfl)

theorem raise_under {e e₀ C₀ D₀ t₀ : Addr} {tb₀ : Value} (hh : A.handled = some (.ref e₀)) (F : Fr h₀ L s.heap m) (N : News h₀ L s.heap news) (hne : e₀ ≠ e) (h₀e : (e₀, excO C₀ D₀ t₀ tb₀ .none) ∈ news)
    (U : Upd e (excO C D t .none .none) (excO C D t .none (.ref e₀)) news news')
    (h : ∀ h', Fr h₀ L h' m → News h₀ L h' news' → E (.ref e) { s with heap := h' }) : wpAny (model prog w) A (raiseNew (.ref e) : Sem Flow) Q E s := by
  obtain ⟨pre, post, rfl, rfl, h1, h2⟩ := U.split
  obtain ⟨U1, U2⟩ := news_upd (f := Obj.mapFields (·.setIfInBounds 2 (.ref e₀))) F N h1 h2 (o' := excO C D t .none (.ref e₀)) rfl rfl
  have he := (N (e, excO C D t .none .none) (by simp)).1
  have he₀ := (N _ h₀e).1
  unfold raiseNew
  refine wpAny_bind (wpAny_handled ?_)
  rw [hh]
  dsimp only
  rw [if_pos (by simpa using hne)]
  refine wpAny_bind (wpAny_holding (wpAny_runValue (codeAny_builtin entry_unchain ?_)))
  unfold Builtin.«proto.unchain»
  dsimp only
  refine wpAny_bind (wpAny_field he₀ rfl (x := .none) rfl ?_)
  rw [if_pos (by decide)]
  refine wpAny_bind (wpAny_pure (wpAny_pure ?_))
  show wpAny (model prog w) A (updateField e 2 (.ref e₀) >>= fun _ => (throw (.ref e) : Sem Flow)) Q E s
  unfold updateField
  refine wpAny_bind (wpAny_bind (wpAny_load he ?_))
  show wpAny (model prog w) A (PySem.update e (Obj.mapFields (·.setIfInBounds 2 (.ref e₀)))) _ E s
  exact wpAny_update he (wpAny_throw (h _ U1 U2))

theorem raise_exc0 {e : Addr} (hh : A.handled = none) (F : Fr h₀ L s.heap m) (X₀ : K.In h₀) (N : News h₀ L s.heap news) (hc : isCls0 K C = true) (hm : (e, excO C D t .none .none) ∈ news) (h : E (.ref e) s) :
    wpAny (model prog w) A (raiseTail (.ref e)) Q E s := raise_start (X₀.keeps F.keep) hc (N _ hm).1 (raise_none hh h)
theorem raise_excH {e e₀ C₀ D₀ t₀ : Addr} {tb₀ : Value} (hh : A.handled = some (.ref e₀)) (F : Fr h₀ L s.heap m) (X₀ : K.In h₀) (N : News h₀ L s.heap news) (hc : isCls0 K C = true) (hm : (e, excO C D t .none .none) ∈ news) (hne : e₀ ≠ e) (h₀e : (e₀, excO C₀ D₀ t₀ tb₀ .none) ∈ news)
    (U : Upd e (excO C D t .none .none) (excO C D t .none (.ref e₀)) news news')
    (h : ∀ h', Fr h₀ L h' m → News h₀ L h' news' → E (.ref e) { s with heap := h' }) : wpAny (model prog w) A (raiseTail (.ref e)) Q E s :=
  raise_start (X₀.keeps F.keep) hc (N _ hm).1 (raise_under hh F N hne h₀e U h)
end

end
section
open PySem PySem.W PySem.Calls PyProof.Rows
theorem neAt {news l : List (Addr × Obj)} {e : Addr} (h : ∀ p ∈ news, p.1 ≠ e) (k : ∀ p ∈ l, p ∈ news) : ∀ p ∈ l, p.1 ≠ e := fun p hp => h p (k p hp)
theorem excInst {h₀ h : Heap} {L x C D t : Addr} {tb ctx : Value} {od : Obj} {news : List (Addr × Obj)} (N : News h₀ L h news) (h1 : (x, excO C D t tb ctx) ∈ news) (h2 : (D, od) ∈ news) :
    PySem.W.InstAt h x (excO C D t tb ctx) C (some od) := ⟨(N _ h1).1, rfl, rfl, (N _ h2).1⟩
section
variable {prog : Program} {w : World} {A : Around} {E : Value → Shared → Prop} {s : Shared} {K : Frag} {x C D t L : Addr} {h₀ : Heap} {m : Str → Option Value} {news news' : List (Addr × Obj)} {name : Str} {tb ctx v : Value} {es es' : List DictEntry} {n n' : Nat}
theorem get_excN {expr : Bool} {Q : Value → Shared → Prop} {attr : Option Value} (F : Fr h₀ L s.heap m) (X₀ : K.In h₀) (N : News h₀ L s.heap news) (h1 : (x, excO C D t tb ctx) ∈ news) (h2 : (D, dictOf es n) ∈ news)
    (hga : findIn K (.ref C) "__getattribute__" = some (some (.builtin "BaseException.__getattribute__"))) (hk : findIn K (.ref C) "__getattr__" = some none) (hm : mroIn K C (.type "BaseException") = some true)
    (hh : hasDictIn K C = true) (ha : findIn K (.ref C) name = some attr) (hn : noGet K attr = true) (hl : getL name es = some (some v)) (hv : handedIn v = true) (h : Q v { s with toks := s.toks + 1 }) :
    wpAny (model prog w) A (getAttr (.ref x) name expr) Q E s :=
  get_exc (X₀.keeps F.keep) (excInst N h1 h2) hga hk hm (findObj_own hh ha hn hl) hv h
theorem set_excN {Q : Unit → Shared → Prop} (F : Fr h₀ L s.heap m) (X₀ : K.In h₀) (N : News h₀ L s.heap news) (h1 : (x, excO C D t tb ctx) ∈ news) (h2 : (D, dictOf es n) ∈ news)
    (hs : findIn K (.ref C) "__setattr__" = some (some (.builtin "object.__setattr__"))) (hp : isExcCls K C = true) (ht : takerIn K C name = some none) (hl : (getL name es).isSome = true)
    (e : (putL name (PyData.keyHash w.params name) (.str name (s.toks + 1)) v es, putN name es n) = (es', n')) (U : Upd D (dictOf es n) (dictOf es' n') news news') (hz : es'.length ≤ 1000)
    (h : ∀ h', Fr h₀ L h' m → News h₀ L h' news' → Q () { s with heap := h', toks := s.toks + 2 }) :
    wpAny (model prog w) A (setAttr (.ref x) name v) Q E s :=
  set_excD F X₀ N (excInst N h1 h2) rfl hs hp ht hl e U hz h
end
/-- t is the end of a ledger -/
inductive Tl (t : List (Addr × Obj)) : List (Addr × Obj) → Prop
  | here : Tl t t
  | cons {p l} : Tl t l → Tl t (p :: l)
theorem Tl.sub {t l : List (Addr × Obj)} (h : Tl t l) : ∀ p ∈ t, p ∈ l := by
  induction h with
  | here => exact fun _ h => h
  | cons _ ih => exact fun p hp => .tail _ (ih p hp)
theorem offTl {news t : List (Addr × Obj)} {e : Addr} (h : ∀ p ∈ news, p.1 ≠ e) (k : Tl t news) : OwnOff t [e] := fun p hp b hb => by
  rw [List.mem_singleton.mp hb]
  exact h p (k.sub p hp)
/-- a ledger without the entry of e -/
inductive Wo (e : Addr) : List (Addr × Obj) → List (Addr × Obj) → Prop
  | nil {l} : (∀ q ∈ l, q.1 ≠ e) → Wo e l l
  | drop {o l r} : Wo e l r → Wo e ((e, o) :: l) r
  | keep {q l r} : q.1 ≠ e → Wo e l r → Wo e (q :: l) (q :: r)
theorem Wo.sub {e : Addr} {l r : List (Addr × Obj)} (h : Wo e l r) : ∀ q ∈ r, q ∈ l ∧ q.1 ≠ e := by
  induction h with
  | nil k => exact fun q hq => ⟨hq, k q hq⟩
  | drop _ ih => exact fun q hq => ⟨.tail _ (ih q hq).1, (ih q hq).2⟩
  | keep k _ ih =>
    intro q hq
    rcases List.mem_cons.mp hq with rfl | hq
    · exact ⟨.head _, k⟩
    · exact ⟨.tail _ (ih q hq).1, (ih q hq).2⟩
section
variable {M : Model} {A : Around} {E : Value → Shared → Prop} {s : Shared} {base : Heap} {C D t e : Addr} {ctx : Value} {news news₀ : List (Addr × Obj)}
theorem leave_firstW {g : Heap} {m : Str → Option Value} {env : Env} {outer : List Env} {L : Addr} {Q : Unit → Shared → Prop} (K : Below A base outer g) (F : Fr g L s.heap m) (N : News g L s.heap news₀)
    (hm : (e, excO C D t .none ctx) ∈ news₀) (hs : Wo e news₀ news) (hf : env.frame = some L) (hk : env.scope.kind = .function)
    (h : ∀ h' T', Up base g outer C D t e T' ctx news h' → Q () { s with heap := h' }) : wpAny M (A.deeper env) (leaving env (.ref e)) Q E s :=
  leave_first K F N hm hs.sub hf hk h
end

end
section
open PySem PySem.W PySem.Calls PyProof.Rows
theorem among_snoc {pos pos' : Pos} {c cv : Value} (l : List Value) (h : TriplesOk l) (hn : codeAmong pos' (l ++ [rawInt pos.line, rawInt pos.col, c]) = some cv) : codeAmong pos' l = some cv ∨ cv = c := by
  fun_induction TriplesOk l with
  | case1 =>
    simp only [List.nil_append, codeAmong, rawInt] at hn
    split at hn
    · exact .inr (Option.some.inj hn).symm
    · cases hn
  | case2 a t b u x rest ih =>
    simp only [List.cons_append, codeAmong] at hn ⊢
    split at hn
    · rename_i hc; rw [if_pos hc]; exact .inl hn
    · rename_i hc; rw [if_neg hc]; exact ih h hn
  | case3 l h1 h2 => exact h.elim
/-- what is known of a code table: its rows are whole, and each code in it lies in the list -/
def Codes (cs : List (Addr × Obj)) (ps : Array Value) (q : Str) : Prop :=
  TriplesOk ps.toList ∧ ∀ pos cv, codeAmong pos ps.toList = some cv → ∃ c' oc vs t, cv = .ref c' ∧ (c', oc) ∈ cs ∧ oc.data = .fields vs ∧ vs[1]? = some (.str q t)
theorem Codes.zero {cs : List (Addr × Obj)} {q : Str} : Codes cs #[] q := ⟨trivial, fun _ _ h => nomatch h⟩
theorem Codes.mono {cs cs' : List (Addr × Obj)} {ps : Array Value} {q : Str} (h : Codes cs ps q) (k : ∀ p ∈ cs, p ∈ cs') : Codes cs' ps q :=
  ⟨h.1, fun pos cv e => let ⟨c', oc, vs, t, a, b, r⟩ := h.2 pos cv e; ⟨c', oc, vs, t, a, k _ b, r⟩⟩
theorem Codes.snoc {cs : List (Addr × Obj)} {ps : Array Value} {q : Str} (h : Codes cs ps q) {pos : Pos} {c' : Addr} {oc : Obj} {vs : Array Value} {t : Tok} (hd : oc.data = .fields vs) (hv : vs[1]? = some (.str q t)) :
    Codes ((c', oc) :: cs) (ps ++ #[rawInt pos.line, rawInt pos.col, .ref c']) q := by
  refine ⟨by simpa using TriplesOk_snoc _ _ _ _ h.1, fun pos' cv e => ?_⟩
  have e' : codeAmong pos' (ps.toList ++ [rawInt pos.line, rawInt pos.col, .ref c']) = some cv := by simpa using e
  rcases among_snoc _ h.1 e' with e'' | rfl
  · obtain ⟨c2, oc2, vs2, t2, a, b, r⟩ := h.2 _ _ e''
    exact ⟨c2, oc2, vs2, t2, a, .tail _ b, r⟩
  · exact ⟨c', oc, vs, t, rfl, .head _, hd, hv⟩
def NeAll (c : Nat) : List Nat → Prop
  | [] => True
  | a :: r => c ≠ a ∧ NeAll c r
/-- entries of the ledger that lie off the known codes -/
inductive ExOk (cs : List (Addr × Obj)) : List (Addr × Obj) → List Nat → Prop
  | nil {n} : ExOk cs n []
  | cons {p n e} : (∀ q ∈ cs, q.1 ≠ p.1) → ExOk cs n e → ExOk cs (p :: n) (p.1 :: e)
  | skip {p n e} : ExOk cs n e → ExOk cs (p :: n) e
theorem ExOk.hit {cs n : List (Addr × Obj)} {e : List Nat} (h : ExOk cs n e) {c' : Addr} {oc : Obj} (hm : (c', oc) ∈ cs) : NeAll c' e := by
  induction h with
  | nil => trivial
  | cons a _ ih => exact ⟨a _ hm, ih⟩
  | skip _ ih => exact ih
theorem ExOk.fresh {cs n : List (Addr × Obj)} {e : List Nat} (h : ExOk cs n e) {c' : Addr} (hm : ∀ p ∈ n, p.1 < c') : NeAll c' e := by
  induction h with
  | nil => trivial
  | cons a _ ih => exact ⟨Nat.ne_of_gt (hm _ (.head _)), ih fun p hp => hm p (.tail _ hp)⟩
  | skip _ ih => exact ih fun p hp => hm p (.tail _ hp)
theorem tbMore {ow ks : List (Addr × Obj)} {c : Addr} {o : Obj} (h : TbOff ow ks) (k : ∀ p ∈ ow, p.1 ≠ c) : TbOff ow ((c, o) :: ks) := fun p hp q hq => by
  rcases List.mem_cons.mp hq with rfl | hq
  · exact k p hp
  · exact h p hp q hq
theorem offMore {ks : List (Addr × Obj)} {adr : List Addr} {c : Addr} {o : Obj} (h : OwnOff ks adr) (k : ∀ b ∈ adr, c ≠ b) : OwnOff ((c, o) :: ks) adr := fun p hp b hb => by
  rcases List.mem_cons.mp hp with rfl | hp
  · exact k b hb
  · exact h p hp b hb
section
variable {M : Model} {A : Around} {E : Value → Shared → Prop} {s : Shared} {h₀ : Heap} {L a c P : Addr} {m mg mb : Str → Option Value} {cn : Str} {cs : Scope} {ccd : Value} {cl : List (Str × Addr)} {news ks : List (Addr × Obj)} {g : Obj → List (Addr × Obj)}
  {p : Program} {loose : List Str} {mean : ExcName → Option Value} {name qual : Str} {params : Arguments} {scope : Scope} {ps : Array Value} {pos : Pos} {firstLine : Nat} {clos : List (Str × Addr)} {ex : List Nat} {ow : List (Addr × Obj)} {adr : List Addr}
/-- a lambda is made, its table not written down: the new state is one, whether its code was known or not -/
theorem lam_any {body : Expr} {Q : Value → Shared → Prop} (F : Fr h₀ L s.heap m) (N : News h₀ L s.heap news) (T : Top p loose mean mg mb h₀) (C : CodeHd h₀ c P) (hcd : ccd = .ref c) (U : UpdF P (tabObj ps) news g) (hC : Codes ks ps qual) (hk : ∀ p ∈ ks, p ∈ news) (hx : ExOk ks news ex) (ht : TbOff ow ks) (hi : ∀ p ∈ ow, p ∈ news) (ho : OwnOff ks adr) (ha : ∀ b ∈ adr, ∃ o, (b, o) ∈ news)
    (hcl : closureFor scope (envX cn cs L a ccd cl) = pure clos)
    (h : ∀ f c' oc vs t ctv h' tk ps', Fr h₀ L h' m →
      News h₀ L h' ((f, kla_obj name qual params body scope clos ((mg "__name__").getD .none) c' ctv) :: (c', oc) :: g (tabObj ps')) →
      oc.data = .fields vs → vs[1]? = some (.str qual t) → Codes ((c', oc) :: ks) ps' qual → NeAll c' ex → TbOff ow ((c', oc) :: ks) → OwnOff ((c', oc) :: ks) adr → (∀ q ∈ news, q.1 < f) → c' < f → Q (.ref f) { s with heap := h', toks := tk }) :
    wpAny M A (makeFunction name qual params (.expr body) scope (envX cn cs L a ccd cl) [] [] [] pos firstLine) Q E s := by
  cases hf : codeAmong pos ps.toList with
  | none =>
    refine kla_nest F N T C hcd U hC.1 hf hcl fun f c' oc vs t ctv h' tk F' N' hd hv l1 l2 => ?_
    exact h f c' oc vs t ctv h' tk _ F' N' hd hv (hC.snoc hd hv) (hx.fresh l1) (tbMore ht fun p hp => Nat.ne_of_lt (l1 _ (hi p hp))) (offMore ho fun b hb => (ha b hb).elim fun o hm => Nat.ne_of_gt (l1 _ hm)) (fun q hq => Nat.lt_trans (l1 q hq) l2) l2
  | some cv =>
    obtain ⟨c', oc, vs, t, rfl, hm, hd, hv⟩ := hC.2 _ _ hf
    obtain ⟨pre, post, rfl, hg, _, _⟩ := U.split
    refine kla_hit F N T C hcd (List.mem_append_right _ (.head _)) hC.1 hf hcl fun f ctv h' tk F' N' l1 => ?_
    refine h f c' oc vs t ctv h' tk ps F' ?_ hd hv (hC.mono fun p hp => .tail _ hp) (hx.hit hm) (tbMore ht fun p hp => ht p hp _ hm) (offMore ho fun b hb => ho _ hm b hb) l1 (l1 _ (hk _ hm))
    rw [hg]
    intro q hq
    rcases List.mem_cons.mp hq with rfl | hq
    · exact N' _ (.head _)
    · rcases List.mem_cons.mp hq with rfl | hq
      · exact N' _ (.tail _ (hk _ hm))
      · exact N' _ (.tail _ hq)
/-- a def is made, its table not written down -/
theorem nest_any {body : List Stmt} {Q : Value → Shared → Prop} (F : Fr h₀ L s.heap m) (N : News h₀ L s.heap news) (T : Top p loose mean mg mb h₀) (C : CodeHd h₀ c P) (hcd : ccd = .ref c) (U : UpdF P (tabObj ps) news g) (hC : Codes ks ps qual) (hk : ∀ p ∈ ks, p ∈ news) (hx : ExOk ks news ex) (ht : TbOff ow ks) (hi : ∀ p ∈ ow, p ∈ news) (ho : OwnOff ks adr) (ha : ∀ b ∈ adr, ∃ o, (b, o) ∈ news)
    (hcl : closureFor scope (envX cn cs L a ccd cl) = pure clos)
    (h : ∀ f c' oc vs t ctv doc h' tk ps', Fr h₀ L h' m →
      News h₀ L h' ((f, fnMade name qual params body scope clos doc ((mg "__name__").getD .none) c' ctv) :: (c', oc) :: g (tabObj ps')) →
      oc.data = .fields vs → vs[1]? = some (.str qual t) → Codes ((c', oc) :: ks) ps' qual → NeAll c' ex → TbOff ow ((c', oc) :: ks) → OwnOff ((c', oc) :: ks) adr → (∀ q ∈ news, q.1 < f) → c' < f → Q (.ref f) { s with heap := h', toks := tk }) :
    wpAny M A (makeFunction name qual params (.stmts body) scope (envX cn cs L a ccd cl) [] [] [] pos firstLine) Q E s := by
  cases hf : codeAmong pos ps.toList with
  | none =>
    refine nest_K F N T C hcd U hC.1 hf hcl fun f c' oc vs t ctv doc h' tk F' N' hd hv l1 l2 => ?_
    exact h f c' oc vs t ctv doc h' tk _ F' N' hd hv (hC.snoc hd hv) (hx.fresh l1) (tbMore ht fun p hp => Nat.ne_of_lt (l1 _ (hi p hp))) (offMore ho fun b hb => (ha b hb).elim fun o hm => Nat.ne_of_gt (l1 _ hm)) (fun q hq => Nat.lt_trans (l1 q hq) l2) l2
  | some cv =>
    obtain ⟨c', oc, vs, t, rfl, hm, hd, hv⟩ := hC.2 _ _ hf
    obtain ⟨pre, post, rfl, hg, _, _⟩ := U.split
    refine nestHit_K F N T C hcd (List.mem_append_right _ (.head _)) hC.1 hf hcl fun f ctv doc h' tk F' N' l1 => ?_
    refine h f c' oc vs t ctv doc h' tk ps F' ?_ hd hv (hC.mono fun p hp => .tail _ hp) (hx.hit hm) (tbMore ht fun p hp => ht p hp _ hm) (offMore ho fun b hb => ho _ hm b hb) l1 (l1 _ (hk _ hm))
    rw [hg]
    intro q hq
    rcases List.mem_cons.mp hq with rfl | hq
    · exact N' _ (.head _)
    · rcases List.mem_cons.mp hq with rfl | hq
      · exact N' _ (.tail _ (hk _ hm))
      · exact N' _ (.tail _ hq)
end

end
section
theorem allNe_mem {d a : Addr} {o : Obj} : ∀ {l : List (Addr × Obj)}, GnNe d l → (a, o) ∈ l → @Ne Nat a d
  | _ :: _, h, .head _ => h.1
  | _ :: _, h, .tail _ hm => allNe_mem h.2 hm
theorem allLt_mem {d a : Addr} {o : Obj} : ∀ {l : List (Addr × Obj)}, AllLt d l → (a, o) ∈ l → @LT.lt Nat _ a d
  | _ :: _, h, .head _ => h.1
  | _ :: _, h, .tail _ hm => allLt_mem h.2 hm
theorem allLt_ne {d a : Addr} {o : Obj} {l : List (Addr × Obj)} (h : AllLt d l) (hm : (a, o) ∈ l) : @Ne Nat a d := Nat.ne_of_lt (allLt_mem h hm)
theorem allLt_ne2 {d a x : Addr} {o : Obj} {l : List (Addr × Obj)} (h2 : @LT.lt Nat _ d x) (h : AllLt d l) (hm : (a, o) ∈ l) : @Ne Nat a x := Nat.ne_of_lt (Nat.lt_trans (allLt_mem h hm) h2)
theorem ltTl {d : Addr} {l t : List (Addr × Obj)} (h : AllLt d l) (k : ∀ p ∈ t, p ∈ l) : ∀ p ∈ t, p.1 ≠ d := fun p hp => by
  obtain ⟨a, o⟩ := p
  exact allLt_ne h (k _ hp)
theorem ltTl2 {d x : Addr} {l t : List (Addr × Obj)} (h2 : @LT.lt Nat _ d x) (h : AllLt d l) (k : ∀ p ∈ t, p ∈ l) : ∀ p ∈ t, p.1 ≠ x := fun p hp => by
  obtain ⟨a, o⟩ := p
  exact allLt_ne2 h2 h (k _ hp)
theorem neTl {d : Addr} {l t : List (Addr × Obj)} (h : GnNe d l) (k : ∀ p ∈ t, p ∈ l) : ∀ p ∈ t, p.1 ≠ d := fun p hp => by
  obtain ⟨a, o⟩ := p
  exact allNe_mem h (k _ hp)
theorem News.less {h₀ h : Heap} {L : Addr} {l l' : List (Addr × Obj)} (N : News h₀ L h l) (k : ∀ p ∈ l', p ∈ l) : News h₀ L h l' := kst_newsOf N k
theorem ltSuf {d : Addr} {l : List (Addr × Obj)} (h : AllLt d l) : ∀ {t : List (Addr × Obj)}, (∀ p ∈ t, p ∈ l) → AllLt d t
  | [], _ => True.intro
  | (_, _) :: _, k => ⟨allLt_mem h (k _ (.head _)), ltSuf h fun p hp => k p (.tail _ hp)⟩
theorem neSuf {d : Addr} {l : List (Addr × Obj)} (h : GnNe d l) : ∀ {t : List (Addr × Obj)}, (∀ p ∈ t, p ∈ l) → GnNe d t
  | [], _ => True.intro
  | (_, _) :: _, k => ⟨allNe_mem h (k _ (.head _)), neSuf h fun p hp => k p (.tail _ hp)⟩
theorem allLt_cons {d a : Addr} {o o' : Obj} {l r : List (Addr × Obj)} (h : AllLt d l) (hm : (a, o') ∈ l) (k : AllLt d r) : AllLt d ((a, o) :: r) := ⟨allLt_mem h hm, k⟩
theorem allNe_cons {d a : Addr} {o o' : Obj} {l r : List (Addr × Obj)} (h : GnNe d l) (hm : (a, o') ∈ l) (k : GnNe d r) : GnNe d ((a, o) :: r) := ⟨allNe_mem h hm, k⟩
theorem allNe_one {d a : Addr} {o : Obj} {r : List (Addr × Obj)} (h : @Ne Nat a d) (k : GnNe d r) : GnNe d ((a, o) :: r) := ⟨h, k⟩
theorem allNe_nil {d : Addr} : GnNe d [] := True.intro
theorem ltNe {d : Addr} : ∀ {l : List (Addr × Obj)}, AllLt d l → GnNe d l
  | [], _ => True.intro
  | _ :: _, h => ⟨Nat.ne_of_lt h.1, ltNe h.2⟩
theorem ltSufNe {d : Addr} {l t : List (Addr × Obj)} (h : AllLt d l) (k : ∀ p ∈ t, p ∈ l) : GnNe d t := ltNe (ltSuf h k)
theorem neAll_mem {c a : Nat} : ∀ {l : List Nat}, NeAll c l → a ∈ l → @Ne Nat c a
  | _ :: _, h, .head _ => h.1
  | _ :: _, h, .tail _ hm => neAll_mem h.2 hm
theorem ownOff_cons {a : Addr} {o : Obj} {r : List (Addr × Obj)} {l : List Addr} (h : ∀ b ∈ l, a ≠ b) (k : OwnOff r l) : OwnOff ((a, o) :: r) l := fun p hp b hb => by
  rcases List.mem_cons.mp hp with rfl | hp
  · exact h b hb
  · exact k p hp b hb
/-- the names of a frame that a proof speaks of -/
def mapL (l : List (Str × Value)) (u : Str → Option Value) : Str → Option Value := fun y => match l.lookup y with
  | some v => some v
  | none => u y
theorem mapL_of {m : Str → Option Value} : ∀ {l : List (Str × Value)}, (∀ p ∈ l, m p.1 = some p.2) → m = mapL l m
  | [], _ => rfl
  | (a, v) :: r, h => by
    funext y
    have ih := congrFun (mapL_of (m := m) (l := r) fun p hp => h p (.tail _ hp)) y
    unfold mapL at ih ⊢
    rw [List.lookup_cons]
    by_cases e : (y == a) = true
    · rw [e]
      rw [eq_of_beq e]
      exact h _ (.head _)
    · rw [Bool.not_eq_true] at e
      rw [e]
      exact ih
theorem allLt_ne1 {d a : Addr} {o : Obj} {l : List (Addr × Obj)} (h : AllLt d l) (hm : (a, o) ∈ l) : @Ne Nat a (d + 1) := Nat.ne_of_lt (Nat.lt_succ_of_lt (allLt_mem h hm))
theorem ltTl1 {d : Addr} {l t : List (Addr × Obj)} (h : AllLt d l) (k : ∀ p ∈ t, p ∈ l) : ∀ p ∈ t, p.1 ≠ (show Nat from d) + 1 := fun p hp => by
  obtain ⟨a, o⟩ := p
  exact allLt_ne1 h (k _ hp)
theorem adrTail {q : Addr × Obj} {adr : List Addr} {l : List (Addr × Obj)} (h : ∀ b ∈ adr, ∃ o, (b, o) ∈ l) : ∀ b ∈ adr, ∃ o, (b, o) ∈ q :: l := fun b hb => let ⟨o, ho⟩ := h b hb; ⟨o, .tail _ ho⟩
theorem memIn {a : Addr × Obj} {l t : List (Addr × Obj)} (ha : a ∈ l) (k : ∀ p ∈ t, p ∈ l) : ∀ p ∈ a :: t, p ∈ l := List.forall_mem_cons.mpr ⟨ha, k⟩
theorem selfIn {l : List (Addr × Obj)} : ∀ p ∈ l, p ∈ l := fun _ h => h
theorem tailIn {a : Addr × Obj} {l t : List (Addr × Obj)} (k : ∀ p ∈ t, p ∈ l) : ∀ p ∈ t, p ∈ a :: l := fun p h => .tail _ (k p h)
theorem headIn {a : Addr × Obj} {l t : List (Addr × Obj)} (k : ∀ p ∈ t, p ∈ l) : ∀ p ∈ a :: t, p ∈ a :: l := List.forall_mem_cons.mpr ⟨.head _, tailIn k⟩
theorem allLt_up {d : Nat} : ∀ {l : List (Addr × Obj)}, AllLt d l → AllLt (d + 1) l
  | [], _ => True.intro
  | _ :: _, h => ⟨Nat.lt_succ_of_lt h.1, allLt_up h.2⟩
/-- a goal at which the walk stands still, and which nothing unfolds -/
structure Hdn (P : Prop) : Prop where
  out : P
/-- a goal at which the walk stands still -/
def Stp (P : Prop) : Prop := P
theorem stp {P : Prop} (h : Stp P) : P := h
theorem ups {P : Prop} (h : P) : Stp P := h
theorem offHead {a b : Addr} {o : Obj} {r : List (Addr × Obj)} {l : List Addr} (h : OwnOff ((a, o) :: r) l) (hb : b ∈ l) : @Ne Nat a b := h _ (.head _) b hb

end
section
/-- the frame of a def's body, its scope open -/
abbrev envA (cn : Str) (nn : List (Str × NameKind)) (mm : List (Str × Const)) (L a : Addr) (cd : Value) (cl : List (Str × Addr)) : Env :=
  envX cn { kind := .function, names := nn, isGenerator := false, isCoroutine := false, more := mm } L a cd cl
/-- the entries of a holder's dict -/
abbrev hoD (P : Params) (t1 t2 t3 t4 t5 t6 tc th tt : Tok) (lS lU lF : Addr) (cc hn top : Int) : List DictEntry :=
  [⟨PyData.keyHash P "stack", .str "stack" t1, .ref lS⟩, ⟨PyData.keyHash P "open_upvals", .str "open_upvals" t2, .ref lU⟩, ⟨PyData.keyHash P "frames", .str "frames" t3, .ref lF⟩,
   ⟨PyData.keyHash P "ccalls", .str "ccalls" t4, .int cc tc⟩, ⟨PyData.keyHash P "handling", .str "handling" t5, .int hn th⟩, ⟨PyData.keyHash P "top", .str "top" t6, .int top tt⟩]

local macro_rules | `(tactic| walk_at "mine memr") => `(tactic| first | with_reducible exact List.Mem.head _ | (with_reducible refine List.Mem.tail _ ?_; walk_at "mine memr"))
local macro_rules | `(tactic| k_memK) => `(tactic| walk_at "mine memr")
local macro_rules | `(tactic| k_lt $h) => `(tactic| (replace $h := allLt_of $h))
local macro_rules | `(tactic| k_ne) => `(tactic| (refine neN ?_; (try dsimp only); first | assumption | exact (Ne.symm (by assumption)) | exact Nat.ne_of_lt (by assumption) | exact Nat.ne_of_gt (by assumption) | exact allLt_ne (by assumption) (by k_memK) | exact (allLt_ne (by assumption) (by k_memK)).symm | exact allNe_mem (by assumption) (by k_memK) | exact (allNe_mem (by assumption) (by k_memK)).symm | exact allLt_ne2 (by assumption) (by assumption) (by k_memK) | exact (allLt_ne2 (by assumption) (by assumption) (by k_memK)).symm | exact allLt_ne1 (by assumption) (by k_memK) | exact (allLt_ne1 (by assumption) (by k_memK)).symm | exact neAll_mem (by assumption) (by k_memK) | exact (neAll_mem (by assumption) (by k_memK)).symm | exact offHead (by assumption) (by k_memK) | exact (offHead (by assumption) (by k_memK)).symm))
local macro_rules | `(tactic| walk_at "mine in") => `(tactic| (intro p9 h9; (repeat' (first | exact h9 | exact List.mem_append_left _ h9 | exact List.mem_append_right _ h9 | refine List.Mem.tail _ ?_)); done))
local macro_rules | `(tactic| k_all) => `(tactic| first | exact List.forall_mem_nil _ | (with_reducible refine List.forall_mem_cons.mpr ⟨?a, ?b⟩; (case a => k_ne); (case b => k_all)) | exact OwnOff.ne (by assumption) (by k_memK) | exact ltTl (by assumption) (by walk_at "mine in") | exact neTl (by assumption) (by walk_at "mine in") | exact ltTl2 (by assumption) (by assumption) (by walk_at "mine in"))
local macro_rules | `(tactic| walk_at "mine led") => `(tactic| first | (refine List.forall_mem_cons.mpr ⟨by k_memK, ?_⟩; walk_at "mine led") | exact List.forall_mem_nil _ | (refine List.forall_mem_append.mpr ⟨?y1, ?y2⟩; (case y1 => walk_at "mine led"); (case y2 => walk_at "mine led")) | walk_at "mine in")
local macro_rules | `(tactic| walk_at "mine lts") => `(tactic| first | assumption | exact ltSuf (by assumption) (by walk_at "mine in") | (refine allLt_cons (by assumption) (by k_memK) ?_; walk_at "mine lts"))
local macro_rules | `(tactic| walk_at "mine nes") => `(tactic| first | assumption | exact allNe_nil | exact neSuf (by assumption) (by walk_at "mine in") | exact ltSufNe (by assumption) (by walk_at "mine in") | (refine allNe_one (by k_ne) ?_; walk_at "mine nes"))
local macro_rules | `(tactic| walk_at "mine map") => `(tactic| first | exact List.forall_mem_nil _ | (refine List.forall_mem_cons.mpr ⟨rfl, ?_⟩; walk_at "mine map"))

set_option maxRecDepth 100000 in
set_option maxHeartbeats 4000000 in
theorem holder_ok {w : World} {base h₀ : Heap} {L a : Addr} {m mg mb : Str → Option Value} {cn : Str} {nn : List (Str × NameKind)} {mm : List (Str × Const)} {cd : Value} {cl : List (Str × Addr)} {s : Shared} {p : Program} {loose : List Str} {mean : ExcName → Option Value}
    {news : List (Addr × Obj)} {d : Int} {td : Tok} {Q : Value → Shared → Prop} {E : Value → Shared → Prop}
    (B : Below callerA base [] h₀) (F : Fr h₀ L s.heap m) (X : (hd.heap_39 w.params).In h₀) (T : Top p loose mean mg mb h₀) (N : News h₀ L s.heap news)
    (h : ∀ (x D lS lU lF : Addr) (t1 t2 t3 t4 t5 t6 tc th tt t7 : Tok) h' tk, Fr h₀ L h' m →
      News h₀ L h' ((x, instObj 38 D) :: (D, dictOf (hoD w.params t1 t2 t3 t4 t5 t6 tc th tt lS lU lF d 0 0) 6) :: (lU, W.listOf #[] 0) :: (lF, W.listOf #[.int 7 t7] 0) :: news) →
      AllLt D news → @LT.lt Nat _ D x → AllLt lU ((x, instObj 38 D) :: (D, instObj 38 D) :: news) → AllLt lF ((lU, instObj 38 D) :: (x, instObj 38 D) :: (D, instObj 38 D) :: news) → Q (.ref x) { s with heap := h', toks := tk }) :
    wpAny (model PySem.Challenge.rw_pq0676_01.row.prog w) (callerA.deeper (envA cn nn mm L a cd cl)) (call (.ref 125) [.int d td]) Q E s := by
  have hMk := kstMark
  revert X
  k_fill
  intro X
  w_strict (w_top off; k_steps; (all_goals (refine h _ _ _ _ _ _ _ _ _ _ _ _ _ _ _ _ _ (by assumption) (News.less (by assumption) (by walk_at "mine led")) ?_ ?_ ?_ ?_)))
  all_goals (walk_at "mine lts")

end
section
theorem frs_mem {env : Env} {outer : List Env} {L b : Addr} (hf : env.frame = some L) (hm : b ∈ (env :: outer).filterMap (·.frame)) : b = L ∨ b ∈ outer.filterMap (·.frame) := by
  rw [List.filterMap_cons, hf] at hm
  exact List.mem_cons.mp hm
section
variable {prog : Program} {w : World} {A₀ A : Around} {s : Shared} {base h₀ g₀ : Heap} {outer : List Env} {env : Env} {L : Addr} {m : Str → Option Value} {news : List (Addr × Obj)} {K : Frag} {p : Program} {loose : List Str} {mean : ExcName → Option Value} {mg mb : Str → Option Value}
  {R : Result → Shared → Prop} {name qual : Str} {params : Arguments} {body : List Stmt} {scope : Scope} {dV kV doc pm cdv ct oc : Value} {an od : Option Addr} {osl : Array (Option Value)} {f : Addr} {args : Args} {binds : List (Str × Value)}
/-- a def with a try in it is called from any def's frame -/
theorem code_T (B : Below A₀ base outer h₀) (F : Fr h₀ L s.heap m) (X₀ : K.In h₀) (N : News h₀ L s.heap news) (T : Top p loose mean mg mb h₀) (XB : K.In base) (TB : Top p loose mean mg mb base) (D : KtsDicts (outer.filterMap (·.frame)) h₀)
    (T0 : KtsTurn (outer.filterMap (·.frame)) g₀ h₀) (hA : A.frames = some (env :: outer)) (hf : env.frame = some L) (hke : env.scope.kind = .function)
    (ho : K.lookup f = some ⟨oc, od, .func (fnOf name qual params body scope dV kV doc pm an cdv ct), osl⟩) (hcd : codeIn K cdv qual = true) (hroom : A.depth < recursionLimit)
    (hbind : BindsTo s (fnOf name qual params body scope dV kV doc pm an cdv ct) args binds) (hloc : ∀ y ∈ binds, scope.names.lookup y.1 = some .local)
    (h : ∀ g L' h₁, Fr h₀ L g m → Fr g L' h₁ (fun y => binds.reverse.lookup y) → News g L' h₁ news → Below A base (env :: outer) g → K.In g → Top p loose mean mg mb g → KtsDicts ((env :: outer).filterMap (·.frame)) g →
      wpAny (model prog w) (A.deeper (envOf qual scope L' f cdv)) (execs body (envOf qual scope L' f cdv))
        (fun fl s' => LeaveS ((env :: outer).filterMap (·.frame)) A₀ base outer K p loose mean mg mb g₀ h₀ L m g R (match fl with | .ret v => v | _ => .none) s')
        (fun e s' => wpAny (model prog w) (A.deeper (envOf qual scope L' f cdv)) (leaving (envOf qual scope L' f cdv) e) (fun _ s'' => R (.error e) s'') (fun e' s'' => R (.error e') s'') s')
        { s with heap := h₁, toks := s.toks + binds.length })
    (hco : scope.isCoroutine = false) (hgen : scope.isGenerator = false) (hk : scope.kind = .function)
    (hcell : ∀ x ∈ scope.names, x.2 ≠ .cell) : codeAny (model prog w) A (.call (.ref f) args) R s := by
  obtain ⟨FG, BG, st, lv⟩ := groundX (R := R) B F N hA hf hke
  have X := X₀.keeps F.keep
  refine codeAny_call_def (fd := fnOf name qual params body scope dV kV doc pm an cdv ct) (body := body) (binds := binds) hroom (X _ _ ho) rfl (T.nolimit.keeps F.keep) (codeRec_of X hcd) rfl hbind hcell hloc (fun h₁ hns hk₁ => ?_) hco hgen hk
  obtain ⟨oL, es, ep, hLg, hLd, hLk, hLf⟩ := FG.ns
  have DG : KtsDicts ((env :: outer).filterMap (·.frame)) (hideAll s.heap (news.map (·.1))) := fun b hb => by
    rcases frs_mem hf hb with rfl | hb
    · exact ⟨oL, es, ep, hLg, hLd⟩
    · obtain ⟨o, es', n', ho', hd'⟩ := D b hb
      exact ⟨o, es', n', st b o ho', hd'⟩
  refine wpAny_mono (h _ s.heap.objs.size h₁ FG ⟨hns, fun b o e => hk₁ b o (of_hideAll _ e), Nat.le_of_eq (hideAll_size _ _)⟩
    (fun p hp => ⟨hk₁ _ _ (N p hp).1, Nat.ne_of_lt (Heap.lt_size (N p hp).1), hideAll_none _ (List.mem_map_of_mem hp)⟩) BG (X₀.keeps st) (T.keeps st) DG) (fun fl s' hl => ?_) fun _ _ y => y
  rcases hl with hl | ⟨g', L', m', news', T', F', N', k⟩
  · exact lv _ _ hl
  have nL₀ : h₀.get? L = none := kts_self F
  obtain ⟨sl, hs⟩ := T'.up hLg
  obtain ⟨T₁, S₁⟩ := kts_turn_at (h := s'.heap) (fs := outer.filterMap (·.frame)) (g := h₀)
    (fun b hb => by
      obtain ⟨_, o, ho', _⟩ := B.frames.mem hb
      exact ⟨o, ho'⟩)
    (fun b o e nmem => F'.keep b o (T'.other b o (st b o e) (fun q => by
      rcases frs_mem hf q with z | z
      · rw [z, nL₀] at e
        cases e
      · exact nmem z)))
    (fun b o e hm => by
      obtain ⟨sl', hs'⟩ := T'.up (st b o e)
      exact ⟨sl', F'.keep _ _ hs'⟩)
  have B₃ : Below A₀ base outer (ktsHeap s'.heap (outer.filterMap (·.frame)) h₀) := ⟨B.stack, fun b o e => T₁.other b o (B.stays b o e) (fun hm => by
    rw [(B.frames.mem hm).1] at e
    cases e), B.frames.of_keeps fun b o e _ => by
    obtain ⟨sl', hs'⟩ := T₁.up e
    exact ⟨_, hs', rfl⟩⟩
  refine k _ (T0.trans T₁) ⟨⟨_, es, ep, F'.keep _ _ hs, hLd, hLk, hLf⟩, S₁, by rw [T₁.size]; exact F.above⟩ (fun p hp => ⟨(N' p hp).1, fun q => ?_, ?_⟩) B₃ (XB.keeps B₃.stays) (TB.keeps B₃.stays) (D.turn T₁)
  · have := (N' p hp).2.2; rw [q, hs] at this; cases this
  · refine T₁.none_ _ ?_
    cases q : h₀.get? p.1 with
    | none => rfl
    | some o =>
      obtain ⟨sl', hs'⟩ := T'.up (st _ _ q)
      have := (N' p hp).2.2
      rw [hs'] at this
      cases this
end
/-- a turn of a ground below which no frame lies is none -/
theorem turn_nil {g g' : Heap} (T : KtsTurn [] g g') : ∀ b, g'.get? b = g.get? b := fun b => by
  cases q : g.get? b with
  | none => exact T.none_ b q
  | some o => exact T.other b o q (fun h => nomatch h)
theorem fr_nil {g g' h : Heap} {L : Addr} {m : Str → Option Value} (T : KtsTurn [] g g') (F : Fr g' L h m) : Fr g L h m := ⟨F.ns, fun b o e => F.keep b o ((turn_nil T b).trans e), T.size ▸ F.above⟩
theorem news_nil {g g' h : Heap} {L : Addr} {news : List (Addr × Obj)} (T : KtsTurn [] g g') (N : News g' L h news) : News g L h news := fun p hp => ⟨(N p hp).1, (N p hp).2.1, (turn_nil T p.1) ▸ (N p hp).2.2⟩

end
section
/-- the law's def, as the top states it -/
def lawFn : Stmt := match PySem.Challenge.pw_pq0676_01.main.body.reverse with
  | f :: _ => f
  | [] => .Pass ⟨0, 0, 0, 0⟩
def lawScope : Scope := match lawFn with
  | .FunctionDef (scope := sc) .. => sc
  | _ => { kind := .function, names := [], isGenerator := false, isCoroutine := false }
/-- the body of the law's loop -/
def turnBody : List Stmt := match lawFn with
  | .FunctionDef (body := _ :: .For (body := b) .. :: _) .. => b
  | _ => []
def lamParts : Expr → Arguments × Expr × Scope
  | .IfExp _ _ (.Lambda a b s _) _ => (a, b, s)
  | .BoolOp _ [_, .Compare (.Call _ [.Call _ [_, .Lambda a b s _, _] _ _] _ _) _ _ _] _ => (a, b, s)
  | e => ({ posonlyargs := [], args := [], vararg := none, kwonlyargs := [], kw_defaults := [], kwarg := none, defaults := [] }, e, lawScope)
/-- the lambda that raises the value; the one that raises the found error's value -/
def lam1 : Arguments × Expr × Scope := match turnBody with
  | _ :: _ :: _ :: _ :: .Assign _ e _ :: _ => lamParts e
  | _ => lamParts (.Constant .none 0 ⟨0, 0, 0, 0⟩)
def lam2 : Arguments × Expr × Scope := match turnBody with
  | [_, _, _, _, _, _, _, _, _, _, _, _, .If e _ _ _] => lamParts e
  | _ => lamParts (.Constant .none 0 ⟨0, 0, 0, 0⟩)
/-- the def that answers, within _law_answers -/
def ansFn : Stmt := match PySem.Challenge.pw_pq0676_01.main.body.reverse with
  | _ :: .FunctionDef (body := b :: _) .. :: _ => b
  | _ => .Pass ⟨0, 0, 0, 0⟩
def ansArgs : Arguments := match ansFn with
  | .FunctionDef (args := x) .. => x
  | _ => { posonlyargs := [], args := [], vararg := none, kwonlyargs := [], kw_defaults := [], kwarg := none, defaults := [] }
def ansBody : List Stmt := match ansFn with
  | .FunctionDef (body := x) .. => x
  | _ => []
def ansScope : Scope := match ansFn with
  | .FunctionDef (scope := x) .. => x
  | _ => lawScope
/-- the lambda that does nothing -/
def lam0 : Arguments × Expr × Scope := match turnBody with
  | _ :: _ :: _ :: _ :: .Assign _ (.IfExp _ (.Lambda a b s _) _ _) _ :: _ => (a, b, s)
  | _ => lamParts (.Constant .none 0 ⟨0, 0, 0, 0⟩)
/-- what is left of the turn from a statement on -/
def turnFrom (n : Nat) : List Stmt := turnBody.drop n
/-- what follows the law's loop -/
def lawTail : List Stmt := match lawFn with
  | .FunctionDef (body := _ :: _ :: b) .. => b
  | _ => []

end
section
/-- the entries of a found error's dict -/
abbrev exD (P : Params) (t1 t2 t3 : Tok) (v : Value) (lt : Addr) (b : Bool) : List DictEntry :=
  [⟨PyData.keyHash P "value", .str "value" t1, v⟩, ⟨PyData.keyHash P "trace", .str "trace" t2, .ref lt⟩, ⟨PyData.keyHash P "is_in_handler", .str "is_in_handler" t3, .bool b⟩]

end
section
section
variable {prog : Program} {w : World} {A : Around} {E : Value → Shared → Prop} {s : Shared} {env : Env} {test : PySem.Expr} {body orelse : List Stmt} {Q : Flow → Shared → Prop}
/-- the end of a turn of a while -/
def WhlEnd (I : Nat → Shared → Prop) (n : Nat) (Q : Flow → Shared → Prop) (f : Flow) (s : Shared) : Prop :=
  match f with
  | .next => ∃ k, k < n ∧ I k s
  | .cont => ∃ k, k < n ∧ I k s
  | .brk => Q .next s
  | .ret v => Q (.ret v) s
theorem whl_ind (I : Nat → Shared → Prop) (hE : PassesOwn (model prog w) A env E)
    (turn : ∀ n s, I n s → wpAny (model prog w) A (isTrue test env (eval test env)) (fun b s₂ => WhlIf b (wpAny (model prog w) A (execs body env) (WhlEnd I n Q) E s₂) (wpAny (model prog w) A (execs orelse env) Q E s₂)) E s)
    (n : Nat) {pos : Pos} (h : I n s) : wpAny (model prog w) A (exec (.While test body orelse pos) env) Q E s := by
  have all : ∀ n s, I n s → WhlRest prog w A E env test body orelse Q 1 s := by
    intro n
    induction n using Nat.strongRecOn with
    | _ n ih =>
      intro s hI
      refine whl_turn hE (wpAny_mono (turn n s hI) (fun b s₂ h₂ => ?_) fun _ _ x => x)
      cases b with
      | false =>
        unfold WhlIf at h₂ ⊢
        rw [if_neg Bool.false_ne_true] at h₂ ⊢
        exact h₂
      | true =>
        unfold WhlIf at h₂ ⊢
        rw [if_pos rfl] at h₂ ⊢
        refine wpAny_mono h₂ (fun f s₃ h₃ => ?_) fun _ _ x => x
        cases f with
        | next => obtain ⟨k, hk, hI'⟩ := h₃; exact ih k hk s₃ hI'
        | cont => obtain ⟨k, hk, hI'⟩ := h₃; exact ih k hk s₃ hI'
        | brk => exact h₃
        | ret v => exact h₃
  exact whl_start 1 (all n s h)
theorem whlIf_split {c : Prop} [Decidable c] {T F : Prop} (h1 : c → T) (h2 : ¬ c → F) : WhlIf (decide c) T F := by
  unfold WhlIf
  by_cases hc : c
  · rw [if_pos (decide_eq_true hc)]; exact h1 hc
  · rw [if_neg (by simp [hc])]; exact h2 hc
end
/-- a map that says five names anew -/
theorem map5 {m : Str → Option Value} {a b c d e : Str} {va vb vc vd ve : Value} (ha : m a = some va) (hb : m b = some vb) (hc : m c = some vc) (hd : m d = some vd) (he : m e = some ve) :
    m = fun y => if y = a then some va else if y = b then some vb else if y = c then some vc else if y = d then some vd else if y = e then some ve else m y := by
  funext y
  by_cases h1 : y = a
  · subst h1; simp [ha]
  by_cases h2 : y = b
  · subst h2; simp [h1, hb]
  by_cases h3 : y = c
  · subst h3; simp [h1, h2, hc]
  by_cases h4 : y = d
  · subst h4; simp [h1, h2, h3, hd]
  by_cases h5 : y = e
  · subst h5; simp [h1, h2, h3, h4, he]
  simp [h1, h2, h3, h4, h5]
theorem getD_one (a d : Int) : [a].getD (Int.toNat 0) d = a := rfl

/-- the names of the frame of the def that handles, between two turns -/
abbrev mapH (x f : Addr) (v : Value) (tr : Int) (ttr : Tok) (most : Int) (tm : Tok) (u : Str → Option Value) : Str → Option Value := fun y =>
  if y = Str.ofString "holder" then some (.ref x) else if y = Str.ofString "reply" then some (.ref f) else if y = Str.ofString "most" then some (.int most tm) else if y = Str.ofString "tries" then some (.int tr ttr) else if y = Str.ofString "value" then some v else u y
/-- the explicit part of the ledger there -/
abbrev ledH (P : Params) (x D lt f c' cT e : Addr) (fo oc oT eo : Obj) (lS lU lF : Addr) (top : Int) (rest : List (Addr × Obj)) (t : Int) (tt : Tok) (cc : Int) (tcc : Tok) (hc : Int) (thc : Tok) (t1 t2 t3 t4 t5 t6 ttop : Tok) : List (Addr × Obj) :=
  (x, instObj 38 D) :: (D, dictOf (hoD P t1 t2 t3 t4 t5 t6 tcc thc ttop lS lU lF cc hc top) 6) :: (lt, W.listOf #[.int t tt] 0) :: (f, fo) :: (c', oc) :: (cT, oT) :: (e, eo) :: rest
section
variable {prog : Program} {w : World} {A A₀ : Around} {E : Value → Shared → Prop} {s : Shared} {env : Env} {test : PySem.Expr} {body orelse : List Stmt} {Q : Flow → Shared → Prop}
  {fs : List Addr} {base g₀ : Heap} {outer : List Env} {K : Frag} {p : Program} {loose : List Str} {mean : ExcName → Option Value} {mg mb : Str → Option Value} {L x D lt f c' cT e : Addr} {fo oc oT eo : Obj} {lS lU lF : Addr} {top : Int} {rest : List (Addr × Obj)} {most : Int} {tm : Tok} {ended : Bool}
/-- what holds between two turns -/
def HInv (P : Params) (fs : List Addr) (A₀ : Around) (base : Heap) (outer : List Env) (K : Frag) (p : Program) (loose : List Str) (mean : ExcName → Option Value) (mg mb : Str → Option Value) (g₀ : Heap) (L x D lt f c' cT e : Addr) (fo oc oT eo : Obj) (lS lU lF : Addr) (top : Int) (rest : List (Addr × Obj)) (most : Int) (tm : Tok) (ended : Bool) (s₀ : Shared) (n : Nat) (s : Shared) : Prop :=
  ∃ g h tk u v tr ttr t tt cc tcc hc thc t1 t2 t3 t4 t5 t6 ttop, s = { s₀ with heap := h, toks := tk } ∧ KtsTurn fs g₀ g ∧ Fr g L h (mapH x f v tr ttr most tm u) ∧ News g L h (ledH P x D lt f c' cT e fo oc oT eo lS lU lF top rest t tt cc tcc hc thc t1 t2 t3 t4 t5 t6 ttop) ∧
    Below A₀ base outer g ∧ K.In g ∧ Top p loose mean mg mb g ∧ KtsDicts fs g ∧ handedIn v = true ∧ 0 ≤ t ∧ decide (most - tr ≤ t) = ended ∧ n = (most - tr).toNat
theorem handled_loop {fnm fq kx : Str} {pr : Arguments} {bd : List Stmt} {sc : Scope} {doc pm ctv : Value} {g : Heap} {m₀ : Str → Option Value} {v : Value} {tr t cc hc : Int} {ttr tt tcc thc t1 t2 t3 t4 t5 t6 ttop : Tok} {pos : Pos} (O : OwnOff rest [D, lt]) (hh : A.handled = some (.ref e)) (hfo : fo = fnMade fnm fq pr bd sc [(kx, cT)] doc pm c' ctv) (hE : PassesOwn (model prog w) A env E) (F : Fr g L s.heap m₀)
    (n1 : m₀ (Str.ofString "holder") = some (.ref x)) (n2 : m₀ (Str.ofString "reply") = some (.ref f)) (n3 : m₀ (Str.ofString "most") = some (.int most tm)) (n4 : m₀ (Str.ofString "tries") = some (.int tr ttr)) (n5 : m₀ (Str.ofString "value") = some v)
    (N : News g L s.heap (ledH w.params x D lt f c' cT e fo oc oT eo lS lU lF top rest t tt cc tcc hc thc t1 t2 t3 t4 t5 t6 ttop))
    (T0 : KtsTurn fs g₀ g) (B : Below A₀ base outer g) (X : K.In g) (T : Top p loose mean mg mb g) (Dd : KtsDicts fs g) (hv : handedIn v = true) (ht : 0 ≤ t) (he : decide (most - tr ≤ t) = ended)
    (turn : ∀ n g h tk u v tr ttr t tt cc tcc hc thc t1 t2 t3 t4 t5 t6 ttop, KtsTurn fs g₀ g → Fr g L h (mapH x f v tr ttr most tm u) → News g L h (ledH w.params x D lt f c' cT e fo oc oT eo lS lU lF top rest t tt cc tcc hc thc t1 t2 t3 t4 t5 t6 ttop) →
      Below A₀ base outer g → K.In g → Top p loose mean mg mb g → KtsDicts fs g → handedIn v = true → 0 ≤ t → decide (most - tr ≤ t) = ended → n = (most - tr).toNat →
      wpAny (model prog w) A (isTrue test env (eval test env)) (fun b s₂ => WhlIf b (wpAny (model prog w) A (execs body env) (WhlEnd (HInv w.params fs A₀ base outer K p loose mean mg mb g₀ L x D lt f c' cT e fo oc oT eo lS lU lF top rest most tm ended s) n Q) E s₂) (wpAny (model prog w) A (execs orelse env) Q E s₂)) E { s with heap := h, toks := tk }) :
    wpAny (model prog w) A (exec (.While test body orelse pos) env) Q E s := by
  have F' := F
  rw [map5 n1 n2 n3 n4 n5] at F'
  refine whl_ind (HInv w.params fs A₀ base outer K p loose mean mg mb g₀ L x D lt f c' cT e fo oc oT eo lS lU lF top rest most tm ended s) hE (fun n s₁ hI => ?_) _ ⟨g, s.heap, s.toks, m₀, v, tr, ttr, t, tt, cc, tcc, hc, thc, t1, t2, t3, t4, t5, t6, ttop, rfl, T0, F', N, B, X, T, Dd, hv, ht, he, rfl⟩
  obtain ⟨g, h, tk, u, v, tr, ttr, t, tt, cc, tcc, hc, thc, t1, t2, t3, t4, t5, t6, ttop, rfl, a1, a2, a3, a4, a5, a6, a7, a8, a9, a10, a11⟩ := hI
  exact turn n g h tk u v tr ttr t tt cc tcc hc thc t1 t2 t3 t4 t5 t6 ttop a1 a2 a3 a4 a5 a6 a7 a8 a9 a10 a11
theorem handled_next {g h : Heap} {tk n : Nat} {m : Str → Option Value} {v : Value} {tr t cc hc : Int} {ttr tt tcc thc t1 t2 t3 t4 t5 t6 ttop : Tok} (F : Fr g L h m)
    (n1 : m (Str.ofString "holder") = some (.ref x)) (n2 : m (Str.ofString "reply") = some (.ref f)) (n3 : m (Str.ofString "most") = some (.int most tm)) (n4 : m (Str.ofString "tries") = some (.int tr ttr)) (n5 : m (Str.ofString "value") = some v)
    (N : News g L h (ledH w.params x D lt f c' cT e fo oc oT eo lS lU lF top rest t tt cc tcc hc thc t1 t2 t3 t4 t5 t6 ttop))
    (T0 : KtsTurn fs g₀ g) (B : Below A₀ base outer g) (X : K.In g) (T : Top p loose mean mg mb g) (Dd : KtsDicts fs g) (hv : handedIn v = true) (ht : 0 ≤ t) (he : decide (most - tr ≤ t) = ended) (hn : (most - tr).toNat < n) :
    WhlEnd (HInv w.params fs A₀ base outer K p loose mean mg mb g₀ L x D lt f c' cT e fo oc oT eo lS lU lF top rest most tm ended s) n Q .next { s with heap := h, toks := tk } := by
  rw [map5 n1 n2 n3 n4 n5] at F
  exact ⟨_, hn, g, h, tk, m, v, tr, ttr, t, tt, cc, tcc, hc, thc, t1, t2, t3, t4, t5, t6, ttop, rfl, T0, F, N, B, X, T, Dd, hv, ht, he, rfl⟩
end
/-- the value that an answer ends with -/
def resB (ended : Bool) : List UInt8 := if ended then [101, 114, 114, 111, 114, 32, 105, 110, 32, 101, 114, 114, 111, 114, 32, 104, 97, 110, 100, 108, 105, 110, 103] else [119, 101, 108, 108]

end
section
section
variable {prog : Program} {w : World} {A : Around} {E : Value → Shared → Prop} {s : Shared}
/-- an error is raised while another is handled -/
theorem raiseH {α : Type} {e e₀ C₀ D₀ t₀ : Addr} {tb₀ : Value} {oe : Obj} {es : Array Value} {Q : α → Shared → Prop} (hh : A.handled = some (.ref e₀)) (hne : e₀ ≠ e) (h₀ : s.heap.get? e₀ = some (excO C₀ D₀ t₀ tb₀ .none)) (he : s.heap.get? e = some oe) (hd : oe.data = .fields es) (hz : 2 < es.size)
    (h : E (.ref e) { s with heap := s.heap.update e (Obj.mapFields (·.setIfInBounds 2 (.ref e₀))) }) : wpAny (model prog w) A (raiseNew (.ref e) : Sem α) Q E s := by
  unfold raiseNew
  refine wpAny_bind (wpAny_handled ?_)
  rw [hh]
  dsimp only
  rw [if_pos (by simpa using hne)]
  refine wpAny_bind (wpAny_holding (wpAny_runValue (codeAny_builtin entry_unchain ?_)))
  unfold Builtin.«proto.unchain»
  dsimp only
  refine wpAny_bind (wpAny_field h₀ rfl (x := .none) rfl ?_)
  rw [if_pos (by decide)]
  refine wpAny_bind (wpAny_pure (wpAny_pure ?_))
  show wpAny (model prog w) A (updateField e 2 (.ref e₀) >>= fun _ => (throw (.ref e) : Sem α)) Q E s
  unfold updateField
  refine wpAny_bind (wpAny_bind (wpAny_load he ?_))
  rw [hd]
  dsimp only
  rw [if_pos hz]
  exact wpAny_update he (wpAny_throw h)
/-- the end of a tuple's iterator while an error is handled -/
theorem next_endH {it t e₀ C₀ D₀ t₀ : Addr} {tb₀ : Value} {i : Nat} {items} {Q : Option Value → Shared → Prop} (hh : A.handled = some (.ref e₀)) (h₀ : s.heap.get? e₀ = some (excO C₀ D₀ t₀ tb₀ .none))
    (hit : IsTupIter s.heap it t i) (ht : IsTup s.heap t items) (hx : items[i]? = none) (hne : e₀ ≠ it)
    (hQ : ∀ h', Heap.ExtBut it s.heap h' → Q none { s with heap := h' }) : wpAny (model prog w) A (pyNext (.ref it)) Q E s := by
  obtain ⟨o, ho, hc, hd⟩ := id hit
  obtain ⟨ol, hol, _, nl, hdl⟩ := ht
  unfold pyNext
  refine wpAny_bind (wpAny_attempt (wpAny_callSpecial?_slot (name := Str.ofString "__next__") hit.typeIs slot_tupleiter_next
    (wpAny_call_entry slot_tupleiter_next hit.typeIs entry_tupleiter_next ?_ (args_tupleiter_next _))))
  show wpAny _ _ (field (.ref it) 0 >>= _) _ _ s
  refine wpAny_bind (wpAny_field ho hd (x := .ref t) rfl ?_)
  show wpAny _ _ (if (Value.ref t == Value.none) = true then _ else _) _ _ s
  rw [if_neg (show ¬ ((Value.ref t == Value.none) = true) from Bool.false_ne_true)]
  show wpAny _ _ (field (.ref it) 1 >>= _) _ _ s
  refine wpAny_bind (wpAny_field ho hd (x := .int i 0) rfl ?_)
  show wpAny _ _ (seqItems? (.ref t) >>= _) _ _ s
  refine wpAny_bind (wpAny_seqItems hol hdl ?_)
  simp only [Int.toNat_natCast, hx]
  refine wpAny_bind (wpAny_rule (wpAny_bind (wpAny_setField ho hd (by simp) ?_)))
  show wpAny _ _ (newExc (.type "StopIteration") [] >>= _) _ _ _
  refine wpAny_bind ?_
  simp only [newExc, newTuple]
  refine wpAny_bind (wpAny_newObj_type ?_ (by size_fits))
  refine wpAny_bind (m := firstArgMember _ _) (wpAny_of_eq (a := Value.none) (by first | rfl | (simp only [firstArgMember]; rfl)) ?_)
  refine wpAny_newObj_type ?_ (by size_fits)
  have k1 := (Heap.get?_update_other s.heap (Obj.mapFields (·.setIfInBounds 0 Value.none)) (Ne.symm hne)).trans h₀
  refine raiseH (e₀ := e₀) (by exact hh) ?_ (Heap.get?_push_of_some _ (Heap.get?_push_of_some _ k1)) (Heap.get?_push_size _ rfl) rfl (by rw [Array.size_append]; exact Nat.lt_of_lt_of_le (by decide : 2 < 6) (Nat.le_add_right 6 _)) ?_
  · have := Heap.lt_size (Heap.get?_push_of_some ({ cls := Value.type "tuple", data := Data.seq #[] } : Obj) k1)
    exact Nat.ne_of_lt this
  refine wpAny_bind (wpAny_isInstance (T := "StopIteration") (b := true) ⟨_, Heap.get?_update_self _ (Heap.get?_push_size _ rfl) rfl, rfl⟩ isSubtype_stop ?_)
  refine wpAny_pure (hQ _ fun b ob hb e => ?_)
  have k2 := (Heap.get?_update_other s.heap (Obj.mapFields (·.setIfInBounds 0 Value.none)) (Ne.symm hb)).trans e
  have k3 := Heap.get?_push_of_some ({ cls := Value.type "tuple", data := Data.seq #[] } : Obj) k2
  refine (Heap.get?_update_other _ _ (Ne.symm ?_)).trans (Heap.get?_push_of_some _ k3)
  exact Nat.ne_of_lt (Heap.lt_size k3)
/-- a tuple of the ledger is unpacked while an error is handled -/
theorem unpackH {h₀ : Heap} {L e₀ C₀ D₀ t₀ t : Addr} {tb₀ : Value} {m : Str → Option Value} {news : List (Addr × Obj)} {env : Env} {elts : List Expr} {k} {pos : Pos} {items : Array Value} {Q : Unit → Shared → Prop} (F : Fr h₀ L s.heap m) (N : News h₀ L s.heap news)
    (hm : (t, { cls := .type "tuple", data := .seq items }) ∈ news) (hh : A.handled = some (.ref e₀)) (h₀e : (e₀, excO C₀ D₀ t₀ tb₀ .none) ∈ news) (hn : (assignEach elts env).length = items.size) (hstar : (assignEach elts env).findIdx? (·.1) = none)
    (h : ∀ h', Fr h₀ L h' m → News h₀ L h' news → wpAny (model prog w) A (assignInOrder ((assignEach elts env).map (·.2)) items.toList) Q E { s with heap := h' }) :
    wpAny (model prog w) A (assign (.Tuple elts k pos) env (.ref t)) Q E s := by
  have ht : IsTup s.heap t items := ⟨_, (N _ hm).1, rfl, 0, rfl⟩
  have he := (N _ h₀e).1
  have hlt : t ≠ s.heap.objs.size := Nat.ne_of_lt (Heap.lt_size (N _ hm).1)
  have hle : e₀ ≠ s.heap.objs.size := Nat.ne_of_lt (Heap.lt_size he)
  rw [assign_Tuple]
  refine wpAny_bind (wpAny_standAt ?_)
  unfold unpack
  rw [hn, hstar]
  refine wpAny_bind (wpAny_holding ?_)
  unfold unpackItems
  refine wpAny_bind ?_
  unfold notIterableAtAll
  refine wpAny_bind (wpAny_specialOf ht.typeIs slot_tuple_iter.lookup ?_)
  refine wpAny_pure ?_
  simp only [Bool.false_eq_true, if_false]
  refine wpAny_bind (wpAny_holding (iter_tuple ht ?_))
  refine wpAny_bind (wpAny_holding (draw_tuple hlt items.size 0 _ _ ⟨_, Heap.get?_push_size _ rfl, rfl, rfl⟩ (ht.push _) (by omega) fun h₁ hit₁ hs₁ => ?_))
  rw [show List.take items.size (List.drop 0 items.toList) = items.toList by rw [List.drop_zero]; exact List.take_of_length_le (by simp)]
  rw [if_neg (by simp)]
  refine wpAny_bind (wpAny_holding (next_endH hh (hs₁.extBut e₀ _ hle (Heap.get?_push_of_some _ he)) hit₁ ((ht.push _).extBut hs₁.extBut hlt) (by simp) hle fun h₂ he₂ => ?_))
  simp only [Option.isSome_none, Bool.false_eq_true, if_false]
  have x : Heap.ExtBut s.heap.objs.size s.heap h₂ := fun b o hb e => he₂ b o hb (hs₁.extBut b o hb (Heap.get?_push_of_some _ e))
  exact wpAny_pure (h h₂ (F.extBut x (Nat.le_refl _)) (N.extBut x (Nat.le_refl _)))
end

end
section
local macro_rules | `(tactic| walk_at "mine pad 0") => `(tactic| fail)
local macro_rules | `(tactic| walk_at "mine memr") => `(tactic| first | with_reducible exact List.Mem.head _ | (with_reducible refine List.Mem.tail _ ?_; walk_at "mine memr"))
local macro_rules | `(tactic| k_memK) => `(tactic| walk_at "mine memr")
local macro_rules | `(tactic| k_lt $h) => `(tactic| (replace $h := allLt_of $h))
local macro_rules | `(tactic| k_ne) => `(tactic| (refine neN ?_; (try dsimp only); first | assumption | exact (Ne.symm (by assumption)) | exact Nat.ne_of_lt (by assumption) | exact Nat.ne_of_gt (by assumption) | exact allLt_ne (by assumption) (by k_memK) | exact (allLt_ne (by assumption) (by k_memK)).symm | exact allNe_mem (by assumption) (by k_memK) | exact (allNe_mem (by assumption) (by k_memK)).symm | exact allLt_ne2 (by assumption) (by assumption) (by k_memK) | exact (allLt_ne2 (by assumption) (by assumption) (by k_memK)).symm | exact allLt_ne1 (by assumption) (by k_memK) | exact (allLt_ne1 (by assumption) (by k_memK)).symm | exact neAll_mem (by assumption) (by k_memK) | exact (neAll_mem (by assumption) (by k_memK)).symm | exact offHead (by assumption) (by k_memK) | exact (offHead (by assumption) (by k_memK)).symm))
local macro_rules | `(tactic| walk_at "mine in") => `(tactic| (intro p9 h9; (repeat' (first | exact h9 | exact List.mem_append_left _ h9 | exact List.mem_append_right _ h9 | refine List.Mem.tail _ ?_)); done))
local macro_rules | `(tactic| k_all) => `(tactic| first | exact List.forall_mem_nil _ | (with_reducible refine List.forall_mem_cons.mpr ⟨?a, ?b⟩; (case a => k_ne); (case b => k_all)) | exact OwnOff.ne (by assumption) (by k_memK) | exact ltTl (by assumption) (by walk_at "mine in") | exact neTl (by assumption) (by walk_at "mine in") | exact ltTl2 (by assumption) (by assumption) (by walk_at "mine in"))
local macro_rules | `(tactic| walk_at "mine led") => `(tactic| first | (refine List.forall_mem_cons.mpr ⟨by k_memK, ?_⟩; walk_at "mine led") | exact List.forall_mem_nil _ | (refine List.forall_mem_append.mpr ⟨?y1, ?y2⟩; (case y1 => walk_at "mine led"); (case y2 => walk_at "mine led")) | walk_at "mine in")
local macro_rules | `(tactic| walk_at "mine lts") => `(tactic| first | assumption | exact ltSuf (by assumption) (by walk_at "mine in") | (refine allLt_cons (by assumption) (by k_memK) ?_; walk_at "mine lts"))
local macro_rules | `(tactic| walk_at "mine nes") => `(tactic| first | assumption | exact allNe_nil | exact neSuf (by assumption) (by walk_at "mine in") | exact ltSufNe (by assumption) (by walk_at "mine in") | (refine allNe_one (by k_ne) ?_; walk_at "mine nes"))
local macro_rules | `(tactic| walk_at "mine map") => `(tactic| first | exact List.forall_mem_nil _ | (refine List.forall_mem_cons.mpr ⟨rfl, ?_⟩; walk_at "mine map"))

theorem fmod_lo {a b : Int} (hb : 0 < b) : 0 ≤ a.fmod b := by
  rw [Int.fmod_eq_emod_of_nonneg _ (by omega)]; exact Int.emod_nonneg _ (by omega)
theorem fmod_hi {a b : Int} (hb : 0 < b) : a.fmod b < b := by
  rw [Int.fmod_eq_emod_of_nonneg _ (by omega)]; exact Int.emod_lt_of_pos _ hb
set_option maxRecDepth 100000 in
set_option maxHeartbeats 4000000 in
theorem next_core {w : World} {base h₀ : Heap} {L a r D : Addr} {m mg mb : Str → Option Value} {cn : Str} {nn : List (Str × NameKind)} {mm : List (Str × Const)} {cd : Value} {cl : List (Str × Addr)} {s : Shared} {p : Program} {loose : List Str} {mean : ExcName → Option Value}
    {ws : List Value} {ns : List Int} {rest : List (Addr × Obj)} {n many : Int} {t0 tm : Tok} {Q : Value → Shared → Prop} {E : Value → Shared → Prop}
    (B : Below callerA base [] h₀) (F : Fr h₀ L s.heap m) (X : (hd.heap_39 w.params).In h₀) (T : Top p loose mean mg mb h₀)
    (N : News h₀ L s.heap ((r, W.listOf #[.ref D, .int n t0] 0) :: (D, W.listOf ws.toArray 0) :: rest)) (hr : D ≠ r) (O : OwnOff rest [r]) (hI : IntsAre ws ns) (hl : ns.length ≤ 63) (hn : 0 ≤ n) (hn2 : n ≤ 1000) (hm : 0 < many) (hm2 : many ≤ 10)
    (h : ∀ (k : Int) (t1 t2 tk : Tok) h', 0 ≤ k → k < many → Fr h₀ L h' m → News h₀ L h' ((r, W.listOf #[.ref D, .int (n + 1) t1] 0) :: (D, W.listOf ws.toArray 0) :: rest) → Q (.int k t2) { s with heap := h', toks := tk }) :
    wpAny (model PySem.Challenge.rw_pq0676_01.row.prog w) (callerA.deeper (envA cn nn mm L a cd cl)) (call (.ref 118) [.ref r, .int many tm]) Q E s := by
  revert X
  k_fill
  intro X
  w_strict (w_top off; k_steps; (all_goals (refine h _ _ _ _ _ (fmod_lo hm) (fmod_hi hm) (by assumption) (by assumption))))
theorem next_ok {w : World} {base h₀ : Heap} {L a r D : Addr} {m mg mb : Str → Option Value} {cn : Str} {nn : List (Str × NameKind)} {mm : List (Str × Const)} {cd : Value} {cl : List (Str × Addr)} {s : Shared} {p : Program} {loose : List Str} {mean : ExcName → Option Value}
    {ws : List Value} {ns : List Int} {news : List (Addr × Obj)} {g : Obj → List (Addr × Obj)} {n many : Int} {t0 tm : Tok} {Q : Value → Shared → Prop} {E : Value → Shared → Prop}
    (B : Below callerA base [] h₀) (F : Fr h₀ L s.heap m) (X : (hd.heap_39 w.params).In h₀) (T : Top p loose mean mg mb h₀)
    (N : News h₀ L s.heap news) (U : UpdF r (W.listOf #[.ref D, .int n t0] 0) news g) (hD : (D, W.listOf ws.toArray 0) ∈ news) (hr : D ≠ r) (hI : IntsAre ws ns) (hl : ns.length ≤ 63) (hn : 0 ≤ n) (hn2 : n ≤ 1000) (hm : 0 < many) (hm2 : many ≤ 10)
    (h : ∀ (k : Int) (t1 t2 tk : Tok) h', 0 ≤ k → k < many → Fr h₀ L h' m → News h₀ L h' (g (W.listOf #[.ref D, .int (n + 1) t1] 0)) → Q (.int k t2) { s with heap := h', toks := tk }) :
    wpAny (model PySem.Challenge.rw_pq0676_01.row.prog w) (callerA.deeper (envA cn nn mm L a cd cl)) (call (.ref 118) [.ref r, .int many tm]) Q E s := by
  obtain ⟨pre, post, rfl, hg, n1, n2⟩ := U.split
  have N₁ : News h₀ L s.heap ((r, W.listOf #[.ref D, .int n t0] 0) :: (D, W.listOf ws.toArray 0) :: (pre ++ post)) := by
    intro p hp
    rcases List.mem_cons.mp hp with rfl | hp
    · exact N _ (List.mem_append_right _ (.head _))
    · rcases List.mem_cons.mp hp with rfl | hp
      · exact N _ hD
      · exact (List.mem_append.mp hp).elim (fun hp => N _ (List.mem_append_left _ hp)) fun hp => N _ (List.mem_append_right _ (.tail _ hp))
  have O : OwnOff (pre ++ post) [r] := by
    intro p hp b hb
    rw [List.mem_singleton.mp hb]
    exact (List.mem_append.mp hp).elim (n1 p) (n2 p)
  refine next_core B F X T N₁ hr O hI hl hn hn2 hm hm2 fun k t1 t2 tk h' lo hi F' N' => h k t1 t2 tk h' lo hi F' ?_
  rw [hg]
  intro p hp
  rcases List.mem_append.mp hp with hp | hp
  · exact N' _ (.tail _ (.tail _ (List.mem_append_left _ hp)))
  · rcases List.mem_cons.mp hp with rfl | hp
    · exact N' _ (.head _)
    · exact N' _ (.tail _ (.tail _ (List.mem_append_right _ hp)))

end
section
local macro_rules | `(tactic| walk_at "mine memr") => `(tactic| first | with_reducible exact List.Mem.head _ | (with_reducible refine List.Mem.tail _ ?_; walk_at "mine memr"))
local macro_rules | `(tactic| k_memK) => `(tactic| walk_at "mine memr")
local macro_rules | `(tactic| k_lt $h) => `(tactic| (replace $h := allLt_of $h))
local macro_rules | `(tactic| k_ne) => `(tactic| (refine neN ?_; (try dsimp only); first | assumption | exact (Ne.symm (by assumption)) | exact Nat.ne_of_lt (by assumption) | exact Nat.ne_of_gt (by assumption) | exact allLt_ne (by assumption) (by k_memK) | exact (allLt_ne (by assumption) (by k_memK)).symm | exact allNe_mem (by assumption) (by k_memK) | exact (allNe_mem (by assumption) (by k_memK)).symm | exact allLt_ne2 (by assumption) (by assumption) (by k_memK) | exact (allLt_ne2 (by assumption) (by assumption) (by k_memK)).symm | exact allLt_ne1 (by assumption) (by k_memK) | exact (allLt_ne1 (by assumption) (by k_memK)).symm | exact neAll_mem (by assumption) (by k_memK) | exact (neAll_mem (by assumption) (by k_memK)).symm | exact offHead (by assumption) (by k_memK) | exact (offHead (by assumption) (by k_memK)).symm))
local macro_rules | `(tactic| walk_at "mine in") => `(tactic| (intro p9 h9; (repeat' (first | exact h9 | exact List.mem_append_left _ h9 | exact List.mem_append_right _ h9 | refine List.Mem.tail _ ?_)); done))
local macro_rules | `(tactic| k_all) => `(tactic| first | exact List.forall_mem_nil _ | (with_reducible refine List.forall_mem_cons.mpr ⟨?a, ?b⟩; (case a => k_ne); (case b => k_all)) | exact OwnOff.ne (by assumption) (by k_memK) | exact ltTl (by assumption) (by walk_at "mine in") | exact neTl (by assumption) (by walk_at "mine in") | exact ltTl2 (by assumption) (by assumption) (by walk_at "mine in"))
local macro_rules | `(tactic| walk_at "mine led") => `(tactic| first | (refine List.forall_mem_cons.mpr ⟨by k_memK, ?_⟩; walk_at "mine led") | exact List.forall_mem_nil _ | (refine List.forall_mem_append.mpr ⟨?y1, ?y2⟩; (case y1 => walk_at "mine led"); (case y2 => walk_at "mine led")) | walk_at "mine in")
local macro_rules | `(tactic| walk_at "mine lts") => `(tactic| first | assumption | exact ltSuf (by assumption) (by walk_at "mine in") | (refine allLt_cons (by assumption) (by k_memK) ?_; walk_at "mine lts"))
local macro_rules | `(tactic| walk_at "mine nes") => `(tactic| first | assumption | exact allNe_nil | exact neSuf (by assumption) (by walk_at "mine in") | exact ltSufNe (by assumption) (by walk_at "mine in") | (refine allNe_one (by k_ne) ?_; walk_at "mine nes"))
local macro_rules | `(tactic| walk_at "mine map") => `(tactic| first | exact List.forall_mem_nil _ | (refine List.forall_mem_cons.mpr ⟨rfl, ?_⟩; walk_at "mine map"))

local macro_rules | `(tactic| walk_at "call ref") => `(tactic| (k_here; (with_reducible show wpAny _ _ (call (Value.ref 66) _) _ _ _); k_dflt (refine' call_exc (C := 66) (N₁ := 65) (fI := 63) ?F ?X ?N ?q ?f ?z ?_; (case F => k_asm); (case X => k_asm); (case N => k_asm); (case q => kernel_rfl); (case f => k_is); (case z => exact Nat.le_of_ble_eq_true rfl); k_whole); intro e' t' h' F' N' hn'; (replace hn' := gnNe_of hn'); (try k_sweep)))
local macro_rules | `(tactic| walk_at "setAttr ref") => `(tactic| (k_here; k_dflt (first | (refine' set_exc0 (C := 66) ?F ?X ?N ?U ?s ?p ?t ?_; (case N => k_asm); (case U => k_updF); (case F => k_asm); (case X => k_asm); (case s => k_is); (case p => kernel_rfl); (case t => k_is); k_whole; intro h' D' F' N' l1; (try dsimp only at N'); (try k_lt l1); (try k_sweep)) | (refine' set_excN (C := 66) ?F ?X ?N ?h1 ?h2 ?s ?p ?t ?l ?e ?U ?z ?_; (case N => k_asm); (case h1 => k_memK); (case h2 => k_memK); (case F => k_asm); (case X => k_asm); (case s => k_is); (case p => kernel_rfl); (case t => k_is); (case l => exact rfl); (case e => k_put); (case U => k_upd); (case z => exact Nat.le_of_ble_eq_true rfl); k_whole; intro h' F' N'; (try k_sweep)))))
local macro_rules | `(tactic| walk_at "getAttr ref") => `(tactic| (k_here; k_dflt (refine' get_excN (C := 66) ?F ?X ?N ?h1 ?h2 ?s ?p ?t ?hh ?ha ?hn ?l ?v ?_; (case N => k_asm); (case h1 => k_memK); (case h2 => k_memK); (case F => k_asm); (case X => k_asm); (case s => k_is); (case p => k_is); (case t => kernel_rfl); (case hh => k_is); (case ha => k_is); (case hn => k_is); (case l => k_get); (case v => first | assumption | k_handed); k_whole)))
local macro_rules | `(tactic| walk_at "exec Raise some none") => `(tactic| (k_here; k_dflt (refine' raise_open ?_)))
local macro_rules | `(tactic| walk_at "raiseTail ref") => `(tactic| (k_here; k_dflt (first | (refine' raise_exc0 (C := 66) ?hh ?F ?X ?N ?c ?hm ?_; (case hh => exact rfl); (case F => k_asm); (case X => k_asm); (case N => k_asm); (case c => kernel_rfl); (case hm => k_memK); k_whole) | (refine' raise_excH (C := 66) ?hh ?F ?X ?N ?c ?hm ?ne ?h0 ?U ?_; (case hh => exact rfl); (case F => k_asm); (case X => k_asm); (case N => k_asm); (case c => kernel_rfl); (case hm => k_memK); (case ne => k_ne); (case h0 => k_memK); (case U => k_upd); k_whole; intro h' F' N'; (try k_sweep)))))
local macro_rules | `(tactic| walk_at "mine wo") => `(tactic| (first | (refine' Wo.drop (Wo.nil ?wa); (case wa => k_all)) | (refine' Wo.keep ?wa ?wb; (case wa => k_ne); (case wb => walk_at "mine wo"))))
local macro_rules | `(tactic| walk_at "leaving ref") => `(tactic| (k_here; k_dflt (first | (refine' leave_next ?R ?K ?F ?f ?_; (case R => assumption); (case K => assumption); (case F => assumption); (case f => exact rfl); k_whole; intro h' T' R') | (refine' leave_firstW ?K ?F ?N ?hm ?hs ?f ?k ?_; (case F => k_asm); (case N => k_asm); (case K => assumption); (case hm => k_memK); (case hs => walk_at "mine wo"); (case f => exact rfl); (case k => exact rfl); k_whole; intro h' T' R'))))
local macro_rules | `(tactic| walk_at "noteFrame ref") => `(tactic| (k_here; k_dflt (refine' catch_as (C := 66) ?R ?F ?K ?XB ?TB ?D ?T0 ?kcn ?kcx ?_; (case R => assumption); (case F => assumption); (case K => assumption); (case XB => assumption); (case TB => assumption); (case D => assumption); (case T0 => first | assumption | exact KtsTurn.refl); (case kcn => k_is); (case kcx => kernel_rfl); k_whole); intro h' g' T' tk' T1' F' N' K' X' P' D'; (try k_lift K'); (try k_sweep)))
local macro_rules | `(tactic| walk_at "assign Tuple") => `(tactic| (k_here; (with_reducible show wpAny _ _ (assign (Expr.Tuple _ _ _) _ (Value.ref _)) _ _ _); k_dflt (refine' unpackH ?uF ?uN ?um ?uh ?ue ?un ?us ?_; (case uF => k_asm); (case uN => k_asm); (case um => k_memK); (case uh => exact rfl); (case ue => k_memK); (case un => exact rfl); (case us => exact rfl); k_whole); intro h' F' N'; (try k_sweep)))
local macro_rules | `(tactic| walk_at "exec While Compare cons nil") => `(tactic| (k_here; k_dflt (refine' handled_loop (fo := fnMade _ _ _ _ _ [(_, _)] _ _ _ _) ?lO ?lh rfl ?lE ?lF ?l1 ?l2 ?l3 ?l4 ?l5 ?lN ?lT0 ?lB ?lX ?lT ?lD ?lv ?lt0 ?le ?lturn; (case lO => assumption); (case lh => exact rfl); (case lF => k_asm); (case l1 => exact rfl); (case l2 => exact rfl); (case l3 => exact rfl); (case l4 => exact rfl); (case l5 => exact rfl); (case lN => exact News.less (by k_asm) (by walk_at "mine led")); (case lB => assumption); (case lX => assumption); (case lT => assumption); (case lD => assumption); (case lT0 => first | assumption | exact KtsTurn.refl); (case lv => assumption); (case lt0 => assumption); (case le => assumption); (case lE => first | passes_own | with_unfolding_all passes_own); k_whole); intro n' g' h' tk' u' v' tr' ttr' t' tt' cc' tcc' hc' thc' t1' t2' t3' t4' t5' t6' ttop' T' F' N' B' X' T1' D' hv' ht' he' hn'; dsimp only [ledH, mapH] at N' F'; (try k_sweep)))
local macro_rules | `(tactic| walk_at "WhlIf") => `(tactic| (refine whlIf_split ?_ ?_ <;> intro hc9))
local macro_rules | `(tactic| walk_at "WhlEnd") => `(tactic| (k_dflt (first | (refine' handled_next ?eF ?e1 ?e2 ?e3 ?e4 ?e5 ?eN ?eT0 ?eB ?eX ?eT ?eD ?ev ?et ?ee ?en; (case eF => k_asm); (case e1 => exact rfl); (case e2 => exact rfl); (case e3 => exact rfl); (case e4 => exact rfl); (case e5 => exact rfl); (case eN => exact News.less (by k_asm) (by walk_at "mine led")); (case eT0 => assumption); (case eB => assumption); (case eX => assumption); (case eT => assumption); (case eD => assumption); (case ev => first | assumption | k_handed); (case et => ((try simp only [getD_one] at *); omega)); (case ee => walk_at "mine dec"); (case en => ((try simp only [getD_one] at *); omega))) | (with_reducible show WhlEnd _ _ _ (Flow.ret _) _; dsimp only [WhlEnd]))))
local macro_rules | `(tactic| walk_at "mine dec") => `(tactic| ((refine Eq.trans (decide_eq_decide.mpr ?_) (by assumption)); (try simp only [getD_one] at *); omega))
local macro_rules | `(tactic| walk_at "call ref") => `(tactic| (k_here; (with_reducible show wpAny _ _ (call (Value.ref 97) _) _ _ _); k_dflt (refine wpAny_call ?_; refine' code_T ?k1 ?k2 ?k3 ?k4 ?k5 ?XB ?TB ?D ?T0 ?kA ?kF ?kK ?k6 ?k7 ?k8 ?k9 ?kB ?_ ?c2 ?c3 ?c4 ?c5; (case kA => exact rfl); (case kF => exact rfl); (case kK => exact rfl); (case k2 => k_asm); (case k1 => k_asm); (case XB => assumption); (case TB => assumption); (case D => first | assumption | exact ktsDicts_nil); (case T0 => first | assumption | exact KtsTurn.refl); (case k3 => k_asm); (case k4 => k_asm); (case k5 => k_asm); (case k6 => k_is); (case k7 => k_is); (case k8 => k_room); (case k9 => exact BindsTo.of_eq rfl); (case kB => exact locs rfl); (case c2 => exact rfl); (case c3 => exact rfl); (case c4 => exact rfl); (case c5 => decide); k_whole; intro g' L' h' FG' F' N' B' X' T' D'; (try dsimp only); (try k_lift B'); (try k_fold))))
local macro_rules | `(tactic| walk_at "call ref") => `(tactic| (k_here; (with_reducible show wpAny _ _ (call (Value.ref 90) _) _ _ _); k_dflt (refine wpAny_call ?_; refine' code_T ?k1 ?k2 ?k3 ?k4 ?k5 ?XB ?TB ?D ?T0 ?kA ?kF ?kK ?k6 ?k7 ?k8 ?k9 ?kB ?_ ?c2 ?c3 ?c4 ?c5; (case kA => exact rfl); (case kF => exact rfl); (case kK => exact rfl); (case k2 => k_asm); (case k1 => k_asm); (case XB => assumption); (case TB => assumption); (case D => first | assumption | exact ktsDicts_nil); (case T0 => first | assumption | exact KtsTurn.refl); (case k3 => k_asm); (case k4 => k_asm); (case k5 => k_asm); (case k6 => k_is); (case k7 => k_is); (case k8 => k_room); (case k9 => exact BindsTo.of_eq rfl); (case kB => exact locs rfl); (case c2 => exact rfl); (case c3 => exact rfl); (case c4 => exact rfl); (case c5 => decide); k_whole; intro g' L' h' FG' F' N' B' X' T' D'; (try dsimp only); (try k_lift B'); (try k_fold))))

set_option maxRecDepth 100000 in
set_option maxHeartbeats 4000000 in
theorem gw1 {w : World} {base h₀ : Heap} {L a : Addr} {m mg mb : Str → Option Value} {cn : Str} {nn : List (Str × NameKind)} {mm : List (Str × Const)} {cd : Value} {cl : List (Str × Addr)} {s : Shared} {p : Program} {loose : List Str} {mean : ExcName → Option Value}
    {rest : List (Addr × Obj)} {x f c' a1 : Addr} {name qual : Str} {pm ctv v : Value} {oc o1 : Obj} {vs : Array Value} {t : Tok} {Q : Value → Shared → Prop} {E : Value → Shared → Prop}
    (B : Below callerA base [] h₀) (F : Fr h₀ L s.heap m) (X : (hd.heap_39 w.params).In h₀) (XB : (hd.heap_39 w.params).In base) (T : Top p loose mean mg mb h₀) (TB : Top p loose mean mg mb base)
    (N : News h₀ L s.heap ((f, kla_obj name qual lam1.1 lam1.2.1 lam1.2.2 [("value", a1)] pm c' ctv) :: (c', oc) :: (a1, o1) :: rest)) (hcv : oc.data = .fields vs) (hcq : vs[1]? = some (.str qual t))
    (hv : o1.data = .cell (some v)) (hh : handedIn v = true) (C : CodeHd base 143 141)
    (h : ∀ (e D lt te T : Addr) (t1 t2 t3 : Tok) h' tk, Fr h₀ L h' m →
      News h₀ L h' ((e, excO 66 D te (.ref T) .none) :: (D, dictOf (exD w.params t1 t2 t3 v lt false) 3) :: (lt, W.listOf #[] 0) :: (f, kla_obj name qual lam1.1 lam1.2.1 lam1.2.2 [("value", a1)] pm c' ctv) :: (c', oc) :: (a1, o1) :: rest) →
      GnNe e ((f, kla_obj name qual lam1.1 lam1.2.1 lam1.2.2 [("value", a1)] pm c' ctv) :: (c', oc) :: (a1, o1) :: rest) → AllLt D ((e, o1) :: (f, kla_obj name qual lam1.1 lam1.2.1 lam1.2.2 [("value", a1)] pm c' ctv) :: (c', oc) :: (a1, o1) :: rest) →
      AllLt lt ((D, o1) :: (e, o1) :: (f, kla_obj name qual lam1.1 lam1.2.1 lam1.2.2 [("value", a1)] pm c' ctv) :: (c', oc) :: (a1, o1) :: rest) → Q (.ref e) { s with heap := h', toks := tk }) :
    wpAny (model PySem.Challenge.rw_pq0676_01.row.prog w) (callerA.deeper (envA cn nn mm L a cd cl)) (call (.ref 97) [.ref x, .ref f, .none]) Q E s := by
  have hMk := kstMark
  revert X XB
  k_fill
  intro X XB
  dsimp only [lam1, lamParts, turnBody, lawFn, PySem.Challenge.pw_pq0676_01, List.reverse, List.reverseAux] at N h
  w_strict (w_top off; k_steps; (all_goals (refine h _ _ _ _ _ _ _ _ _ _ (fr_nil (by assumption) (by assumption)) (news_nil (by assumption) (News.less (by assumption) (by walk_at "mine led"))) ?_ ?_ ?_)))
  · walk_at "mine nes"
  · walk_at "mine lts"
  · walk_at "mine lts"

end
section
local macro_rules | `(tactic| walk_at "mine pad 0") => `(tactic| fail)
local macro_rules | `(tactic| walk_at "mine memr") => `(tactic| first | with_reducible exact List.Mem.head _ | (with_reducible refine List.Mem.tail _ ?_; walk_at "mine memr"))
local macro_rules | `(tactic| k_memK) => `(tactic| walk_at "mine memr")
local macro_rules | `(tactic| k_lt $h) => `(tactic| (replace $h := allLt_of $h))
local macro_rules | `(tactic| k_ne) => `(tactic| (refine neN ?_; (try dsimp only); first | assumption | exact (Ne.symm (by assumption)) | exact Nat.ne_of_lt (by assumption) | exact Nat.ne_of_gt (by assumption) | exact allLt_ne (by assumption) (by k_memK) | exact (allLt_ne (by assumption) (by k_memK)).symm | exact allNe_mem (by assumption) (by k_memK) | exact (allNe_mem (by assumption) (by k_memK)).symm | exact allLt_ne2 (by assumption) (by assumption) (by k_memK) | exact (allLt_ne2 (by assumption) (by assumption) (by k_memK)).symm | exact allLt_ne1 (by assumption) (by k_memK) | exact (allLt_ne1 (by assumption) (by k_memK)).symm | exact neAll_mem (by assumption) (by k_memK) | exact (neAll_mem (by assumption) (by k_memK)).symm | exact offHead (by assumption) (by k_memK) | exact (offHead (by assumption) (by k_memK)).symm))
local macro_rules | `(tactic| walk_at "mine in") => `(tactic| (intro p9 h9; (repeat' (first | exact h9 | exact List.mem_append_left _ h9 | exact List.mem_append_right _ h9 | refine List.Mem.tail _ ?_)); done))
local macro_rules | `(tactic| k_all) => `(tactic| first | exact List.forall_mem_nil _ | (with_reducible refine List.forall_mem_cons.mpr ⟨?a, ?b⟩; (case a => k_ne); (case b => k_all)) | exact OwnOff.ne (by assumption) (by k_memK) | exact ltTl (by assumption) (by walk_at "mine in") | exact neTl (by assumption) (by walk_at "mine in") | exact ltTl2 (by assumption) (by assumption) (by walk_at "mine in"))
local macro_rules | `(tactic| walk_at "mine led") => `(tactic| first | (refine List.forall_mem_cons.mpr ⟨by k_memK, ?_⟩; walk_at "mine led") | exact List.forall_mem_nil _ | (refine List.forall_mem_append.mpr ⟨?y1, ?y2⟩; (case y1 => walk_at "mine led"); (case y2 => walk_at "mine led")) | walk_at "mine in")
local macro_rules | `(tactic| walk_at "mine lts") => `(tactic| first | assumption | exact ltSuf (by assumption) (by walk_at "mine in") | (refine allLt_cons (by assumption) (by k_memK) ?_; walk_at "mine lts"))
local macro_rules | `(tactic| walk_at "mine nes") => `(tactic| first | assumption | exact allNe_nil | exact neSuf (by assumption) (by walk_at "mine in") | exact ltSufNe (by assumption) (by walk_at "mine in") | (refine allNe_one (by k_ne) ?_; walk_at "mine nes"))
local macro_rules | `(tactic| walk_at "mine map") => `(tactic| first | exact List.forall_mem_nil _ | (refine List.forall_mem_cons.mpr ⟨rfl, ?_⟩; walk_at "mine map"))

local macro_rules | `(tactic| walk_at "call ref") => `(tactic| (k_here; (with_reducible show wpAny _ _ (call (Value.ref 66) _) _ _ _); k_dflt (refine' call_exc (C := 66) (N₁ := 65) (fI := 63) ?F ?X ?N ?q ?f ?z ?_; (case F => k_asm); (case X => k_asm); (case N => k_asm); (case q => kernel_rfl); (case f => k_is); (case z => exact Nat.le_of_ble_eq_true rfl); k_whole); intro e' t' h' F' N' hn'; (replace hn' := gnNe_of hn'); (try k_sweep)))
local macro_rules | `(tactic| walk_at "setAttr ref") => `(tactic| (k_here; k_dflt (first | (refine' set_exc0 (C := 66) ?F ?X ?N ?U ?s ?p ?t ?_; (case N => k_asm); (case U => k_updF); (case F => k_asm); (case X => k_asm); (case s => k_is); (case p => kernel_rfl); (case t => k_is); k_whole; intro h' D' F' N' l1; (try dsimp only at N'); (try k_lt l1); (try k_sweep)) | (refine' set_excN (C := 66) ?F ?X ?N ?h1 ?h2 ?s ?p ?t ?l ?e ?U ?z ?_; (case N => k_asm); (case h1 => k_memK); (case h2 => k_memK); (case F => k_asm); (case X => k_asm); (case s => k_is); (case p => kernel_rfl); (case t => k_is); (case l => exact rfl); (case e => k_put); (case U => k_upd); (case z => exact Nat.le_of_ble_eq_true rfl); k_whole; intro h' F' N'; (try k_sweep)))))
local macro_rules | `(tactic| walk_at "getAttr ref") => `(tactic| (k_here; k_dflt (refine' get_excN (C := 66) ?F ?X ?N ?h1 ?h2 ?s ?p ?t ?hh ?ha ?hn ?l ?v ?_; (case N => k_asm); (case h1 => k_memK); (case h2 => k_memK); (case F => k_asm); (case X => k_asm); (case s => k_is); (case p => k_is); (case t => kernel_rfl); (case hh => k_is); (case ha => k_is); (case hn => k_is); (case l => k_get); (case v => first | assumption | k_handed); k_whole)))
local macro_rules | `(tactic| walk_at "exec Raise some none") => `(tactic| (k_here; k_dflt (refine' raise_open ?_)))
local macro_rules | `(tactic| walk_at "raiseTail ref") => `(tactic| (k_here; k_dflt (first | (refine' raise_exc0 (C := 66) ?hh ?F ?X ?N ?c ?hm ?_; (case hh => exact rfl); (case F => k_asm); (case X => k_asm); (case N => k_asm); (case c => kernel_rfl); (case hm => k_memK); k_whole) | (refine' raise_excH (C := 66) ?hh ?F ?X ?N ?c ?hm ?ne ?h0 ?U ?_; (case hh => exact rfl); (case F => k_asm); (case X => k_asm); (case N => k_asm); (case c => kernel_rfl); (case hm => k_memK); (case ne => k_ne); (case h0 => k_memK); (case U => k_upd); k_whole; intro h' F' N'; (try k_sweep)))))
local macro_rules | `(tactic| walk_at "mine wo") => `(tactic| (first | (refine' Wo.drop (Wo.nil ?wa); (case wa => k_all)) | (refine' Wo.keep ?wa ?wb; (case wa => k_ne); (case wb => walk_at "mine wo"))))
local macro_rules | `(tactic| walk_at "leaving ref") => `(tactic| (k_here; k_dflt (first | (refine' leave_next ?R ?K ?F ?f ?_; (case R => assumption); (case K => assumption); (case F => assumption); (case f => exact rfl); k_whole; intro h' T' R') | (refine' leave_firstW ?K ?F ?N ?hm ?hs ?f ?k ?_; (case F => k_asm); (case N => k_asm); (case K => assumption); (case hm => k_memK); (case hs => walk_at "mine wo"); (case f => exact rfl); (case k => exact rfl); k_whole; intro h' T' R'))))
local macro_rules | `(tactic| walk_at "noteFrame ref") => `(tactic| (k_here; k_dflt (refine' catch_as (C := 66) ?R ?F ?K ?XB ?TB ?D ?T0 ?kcn ?kcx ?_; (case R => assumption); (case F => assumption); (case K => assumption); (case XB => assumption); (case TB => assumption); (case D => assumption); (case T0 => first | assumption | exact KtsTurn.refl); (case kcn => k_is); (case kcx => kernel_rfl); k_whole); intro h' g' T' tk' T1' F' N' K' X' P' D'; (try k_lift K'); (try k_sweep)))
local macro_rules | `(tactic| walk_at "assign Tuple") => `(tactic| (k_here; (with_reducible show wpAny _ _ (assign (Expr.Tuple _ _ _) _ (Value.ref _)) _ _ _); k_dflt (refine' unpackH ?uF ?uN ?um ?uh ?ue ?un ?us ?_; (case uF => k_asm); (case uN => k_asm); (case um => k_memK); (case uh => exact rfl); (case ue => k_memK); (case un => exact rfl); (case us => exact rfl); k_whole); intro h' F' N'; (try k_sweep)))
local macro_rules | `(tactic| walk_at "exec While Compare cons nil") => `(tactic| (k_here; k_dflt (refine' handled_loop (fo := fnMade _ _ _ _ _ [(_, _)] _ _ _ _) ?lO ?lh rfl ?lE ?lF ?l1 ?l2 ?l3 ?l4 ?l5 ?lN ?lT0 ?lB ?lX ?lT ?lD ?lv ?lt0 ?le ?lturn; (case lO => assumption); (case lh => exact rfl); (case lF => k_asm); (case l1 => exact rfl); (case l2 => exact rfl); (case l3 => exact rfl); (case l4 => exact rfl); (case l5 => exact rfl); (case lN => exact News.less (by k_asm) (by walk_at "mine led")); (case lB => assumption); (case lX => assumption); (case lT => assumption); (case lD => assumption); (case lT0 => first | assumption | exact KtsTurn.refl); (case lv => assumption); (case lt0 => assumption); (case le => assumption); (case lE => first | passes_own | with_unfolding_all passes_own); k_whole); intro n' g' h' tk' u' v' tr' ttr' t' tt' cc' tcc' hc' thc' t1' t2' t3' t4' t5' t6' ttop' T' F' N' B' X' T1' D' hv' ht' he' hn'; dsimp only [ledH, mapH] at N' F'; (try k_sweep)))
local macro_rules | `(tactic| walk_at "WhlIf") => `(tactic| (refine whlIf_split ?_ ?_ <;> intro hc9))
local macro_rules | `(tactic| walk_at "WhlEnd") => `(tactic| (k_dflt (first | (refine' handled_next ?eF ?e1 ?e2 ?e3 ?e4 ?e5 ?eN ?eT0 ?eB ?eX ?eT ?eD ?ev ?et ?ee ?en; (case eF => k_asm); (case e1 => exact rfl); (case e2 => exact rfl); (case e3 => exact rfl); (case e4 => exact rfl); (case e5 => exact rfl); (case eN => exact News.less (by k_asm) (by walk_at "mine led")); (case eT0 => assumption); (case eB => assumption); (case eX => assumption); (case eT => assumption); (case eD => assumption); (case ev => first | assumption | k_handed); (case et => ((try simp only [getD_one] at *); omega)); (case ee => walk_at "mine dec"); (case en => ((try simp only [getD_one] at *); omega))) | (with_reducible show WhlEnd _ _ _ (Flow.ret _) _; dsimp only [WhlEnd]))))
local macro_rules | `(tactic| walk_at "mine dec") => `(tactic| ((refine Eq.trans (decide_eq_decide.mpr ?_) (by assumption)); (try simp only [getD_one] at *); omega))
local macro_rules | `(tactic| walk_at "call ref") => `(tactic| (k_here; (with_reducible show wpAny _ _ (call (Value.ref 97) _) _ _ _); k_dflt (refine wpAny_call ?_; refine' code_T ?k1 ?k2 ?k3 ?k4 ?k5 ?XB ?TB ?D ?T0 ?kA ?kF ?kK ?k6 ?k7 ?k8 ?k9 ?kB ?_ ?c2 ?c3 ?c4 ?c5; (case kA => exact rfl); (case kF => exact rfl); (case kK => exact rfl); (case k2 => k_asm); (case k1 => k_asm); (case XB => assumption); (case TB => assumption); (case D => first | assumption | exact ktsDicts_nil); (case T0 => first | assumption | exact KtsTurn.refl); (case k3 => k_asm); (case k4 => k_asm); (case k5 => k_asm); (case k6 => k_is); (case k7 => k_is); (case k8 => k_room); (case k9 => exact BindsTo.of_eq rfl); (case kB => exact locs rfl); (case c2 => exact rfl); (case c3 => exact rfl); (case c4 => exact rfl); (case c5 => decide); k_whole; intro g' L' h' FG' F' N' B' X' T' D'; (try dsimp only); (try k_lift B'); (try k_fold))))
local macro_rules | `(tactic| walk_at "call ref") => `(tactic| (k_here; (with_reducible show wpAny _ _ (call (Value.ref 90) _) _ _ _); k_dflt (refine wpAny_call ?_; refine' code_T ?k1 ?k2 ?k3 ?k4 ?k5 ?XB ?TB ?D ?T0 ?kA ?kF ?kK ?k6 ?k7 ?k8 ?k9 ?kB ?_ ?c2 ?c3 ?c4 ?c5; (case kA => exact rfl); (case kF => exact rfl); (case kK => exact rfl); (case k2 => k_asm); (case k1 => k_asm); (case XB => assumption); (case TB => assumption); (case D => first | assumption | exact ktsDicts_nil); (case T0 => first | assumption | exact KtsTurn.refl); (case k3 => k_asm); (case k4 => k_asm); (case k5 => k_asm); (case k6 => k_is); (case k7 => k_is); (case k8 => k_room); (case k9 => exact BindsTo.of_eq rfl); (case kB => exact locs rfl); (case c2 => exact rfl); (case c3 => exact rfl); (case c4 => exact rfl); (case c5 => decide); k_whole; intro g' L' h' FG' F' N' B' X' T' D'; (try dsimp only); (try k_lift B'); (try k_fold))))

set_option maxRecDepth 100000 in
set_option maxHeartbeats 4000000 in
theorem gw2 {w : World} {base h₀ : Heap} {L a : Addr} {m mg mb : Str → Option Value} {cn : Str} {nn : List (Str × NameKind)} {mm : List (Str × Const)} {cd : Value} {cl : List (Str × Addr)} {s : Shared} {p : Program} {loose : List Str} {mean : ExcName → Option Value}
    {rest : List (Addr × Obj)} {x f c' a2 e1 D1 lt1 te1 : Addr} {name qual : Str} {pm ctv v tb1 cx1 : Value} {oc o1 : Obj} {vs : Array Value} {t t11 t12 t13 : Tok} {b : Bool} {Q : Value → Shared → Prop} {E : Value → Shared → Prop}
    (B : Below callerA base [] h₀) (F : Fr h₀ L s.heap m) (X : (hd.heap_39 w.params).In h₀) (XB : (hd.heap_39 w.params).In base) (T : Top p loose mean mg mb h₀) (TB : Top p loose mean mg mb base)
    (N : News h₀ L s.heap ((f, kla_obj name qual lam2.1 lam2.2.1 lam2.2.2 [("found", a2)] pm c' ctv) :: (c', oc) :: (a2, o1) :: (e1, excO 66 D1 te1 tb1 cx1) :: (D1, dictOf (exD w.params t11 t12 t13 v lt1 b) 3) :: rest)) (hcv : oc.data = .fields vs) (hcq : vs[1]? = some (.str qual t))
    (hv : o1.data = .cell (some (.ref e1))) (hh : handedIn v = true) (C : CodeHd base 143 141)
    (h : ∀ (e D lt te T : Addr) (t1 t2 t3 : Tok) h' tk, Fr h₀ L h' m →
      News h₀ L h' ((e, excO 66 D te (.ref T) .none) :: (D, dictOf (exD w.params t1 t2 t3 v lt false) 3) :: (f, kla_obj name qual lam2.1 lam2.2.1 lam2.2.2 [("found", a2)] pm c' ctv) :: (c', oc) :: (a2, o1) :: (e1, excO 66 D1 te1 tb1 cx1) :: (D1, dictOf (exD w.params t11 t12 t13 v lt1 b) 3) :: rest) →
      Q (.ref e) { s with heap := h', toks := tk }) :
    wpAny (model PySem.Challenge.rw_pq0676_01.row.prog w) (callerA.deeper (envA cn nn mm L a cd cl)) (call (.ref 97) [.ref x, .ref f, .none]) Q E s := by
  have hMk := kstMark
  revert X XB
  k_fill
  intro X XB
  dsimp only [lam2, lamParts, turnBody, lawFn, PySem.Challenge.pw_pq0676_01, List.reverse, List.reverseAux] at N h
  w_strict (w_top off; k_steps; (all_goals (refine h _ _ _ _ _ _ _ _ _ _ (fr_nil (by assumption) (by assumption)) (news_nil (by assumption) (News.less (by assumption) (by walk_at "mine led"))))))

end
section
local macro_rules | `(tactic| walk_at "mine pad 0") => `(tactic| fail)
local macro_rules | `(tactic| walk_at "mine pad 1") => `(tactic| fail)
local macro_rules | `(tactic| walk_at "mine memr") => `(tactic| first | with_reducible exact List.Mem.head _ | (with_reducible refine List.Mem.tail _ ?_; walk_at "mine memr"))
local macro_rules | `(tactic| k_memK) => `(tactic| walk_at "mine memr")
local macro_rules | `(tactic| k_lt $h) => `(tactic| (replace $h := allLt_of $h))
local macro_rules | `(tactic| k_ne) => `(tactic| (refine neN ?_; (try dsimp only); first | assumption | exact (Ne.symm (by assumption)) | exact Nat.ne_of_lt (by assumption) | exact Nat.ne_of_gt (by assumption) | exact allLt_ne (by assumption) (by k_memK) | exact (allLt_ne (by assumption) (by k_memK)).symm | exact allNe_mem (by assumption) (by k_memK) | exact (allNe_mem (by assumption) (by k_memK)).symm | exact allLt_ne2 (by assumption) (by assumption) (by k_memK) | exact (allLt_ne2 (by assumption) (by assumption) (by k_memK)).symm | exact allLt_ne1 (by assumption) (by k_memK) | exact (allLt_ne1 (by assumption) (by k_memK)).symm | exact neAll_mem (by assumption) (by k_memK) | exact (neAll_mem (by assumption) (by k_memK)).symm | exact offHead (by assumption) (by k_memK) | exact (offHead (by assumption) (by k_memK)).symm))
local macro_rules | `(tactic| walk_at "mine in") => `(tactic| (intro p9 h9; (repeat' (first | exact h9 | exact List.mem_append_left _ h9 | exact List.mem_append_right _ h9 | refine List.Mem.tail _ ?_)); done))
local macro_rules | `(tactic| k_all) => `(tactic| first | exact List.forall_mem_nil _ | (with_reducible refine List.forall_mem_cons.mpr ⟨?a, ?b⟩; (case a => k_ne); (case b => k_all)) | exact OwnOff.ne (by assumption) (by k_memK) | exact ltTl (by assumption) (by walk_at "mine in") | exact neTl (by assumption) (by walk_at "mine in") | exact ltTl2 (by assumption) (by assumption) (by walk_at "mine in"))
local macro_rules | `(tactic| walk_at "mine led") => `(tactic| first | (refine List.forall_mem_cons.mpr ⟨by k_memK, ?_⟩; walk_at "mine led") | exact List.forall_mem_nil _ | (refine List.forall_mem_append.mpr ⟨?y1, ?y2⟩; (case y1 => walk_at "mine led"); (case y2 => walk_at "mine led")) | walk_at "mine in")
local macro_rules | `(tactic| walk_at "mine lts") => `(tactic| first | assumption | exact ltSuf (by assumption) (by walk_at "mine in") | (refine allLt_cons (by assumption) (by k_memK) ?_; walk_at "mine lts"))
local macro_rules | `(tactic| walk_at "mine nes") => `(tactic| first | assumption | exact allNe_nil | exact neSuf (by assumption) (by walk_at "mine in") | exact ltSufNe (by assumption) (by walk_at "mine in") | (refine allNe_one (by k_ne) ?_; walk_at "mine nes"))
local macro_rules | `(tactic| walk_at "mine map") => `(tactic| first | exact List.forall_mem_nil _ | (refine List.forall_mem_cons.mpr ⟨rfl, ?_⟩; walk_at "mine map"))

local macro_rules | `(tactic| walk_at "call ref") => `(tactic| (k_here; (with_reducible show wpAny _ _ (call (Value.ref 66) _) _ _ _); k_dflt (refine' call_exc (C := 66) (N₁ := 65) (fI := 63) ?F ?X ?N ?q ?f ?z ?_; (case F => k_asm); (case X => k_asm); (case N => k_asm); (case q => kernel_rfl); (case f => k_is); (case z => exact Nat.le_of_ble_eq_true rfl); k_whole); intro e' t' h' F' N' hn'; (replace hn' := gnNe_of hn'); (try k_sweep)))
local macro_rules | `(tactic| walk_at "setAttr ref") => `(tactic| (k_here; k_dflt (first | (refine' set_exc0 (C := 66) ?F ?X ?N ?U ?s ?p ?t ?_; (case N => k_asm); (case U => k_updF); (case F => k_asm); (case X => k_asm); (case s => k_is); (case p => kernel_rfl); (case t => k_is); k_whole; intro h' D' F' N' l1; (try dsimp only at N'); (try k_lt l1); (try k_sweep)) | (refine' set_excN (C := 66) ?F ?X ?N ?h1 ?h2 ?s ?p ?t ?l ?e ?U ?z ?_; (case N => k_asm); (case h1 => k_memK); (case h2 => k_memK); (case F => k_asm); (case X => k_asm); (case s => k_is); (case p => kernel_rfl); (case t => k_is); (case l => exact rfl); (case e => k_put); (case U => k_upd); (case z => exact Nat.le_of_ble_eq_true rfl); k_whole; intro h' F' N'; (try k_sweep)))))
local macro_rules | `(tactic| walk_at "getAttr ref") => `(tactic| (k_here; k_dflt (refine' get_excN (C := 66) ?F ?X ?N ?h1 ?h2 ?s ?p ?t ?hh ?ha ?hn ?l ?v ?_; (case N => k_asm); (case h1 => k_memK); (case h2 => k_memK); (case F => k_asm); (case X => k_asm); (case s => k_is); (case p => k_is); (case t => kernel_rfl); (case hh => k_is); (case ha => k_is); (case hn => k_is); (case l => k_get); (case v => first | assumption | k_handed); k_whole)))
local macro_rules | `(tactic| walk_at "exec Raise some none") => `(tactic| (k_here; k_dflt (refine' raise_open ?_)))
local macro_rules | `(tactic| walk_at "raiseTail ref") => `(tactic| (k_here; k_dflt (first | (refine' raise_exc0 (C := 66) ?hh ?F ?X ?N ?c ?hm ?_; (case hh => exact rfl); (case F => k_asm); (case X => k_asm); (case N => k_asm); (case c => kernel_rfl); (case hm => k_memK); k_whole) | (refine' raise_excH (C := 66) ?hh ?F ?X ?N ?c ?hm ?ne ?h0 ?U ?_; (case hh => exact rfl); (case F => k_asm); (case X => k_asm); (case N => k_asm); (case c => kernel_rfl); (case hm => k_memK); (case ne => k_ne); (case h0 => k_memK); (case U => k_upd); k_whole; intro h' F' N'; (try k_sweep)))))
local macro_rules | `(tactic| walk_at "mine wo") => `(tactic| (first | (refine' Wo.drop (Wo.nil ?wa); (case wa => k_all)) | (refine' Wo.keep ?wa ?wb; (case wa => k_ne); (case wb => walk_at "mine wo"))))
local macro_rules | `(tactic| walk_at "leaving ref") => `(tactic| (k_here; k_dflt (first | (refine' leave_next ?R ?K ?F ?f ?_; (case R => assumption); (case K => assumption); (case F => assumption); (case f => exact rfl); k_whole; intro h' T' R') | (refine' leave_firstW ?K ?F ?N ?hm ?hs ?f ?k ?_; (case F => k_asm); (case N => k_asm); (case K => assumption); (case hm => k_memK); (case hs => walk_at "mine wo"); (case f => exact rfl); (case k => exact rfl); k_whole; intro h' T' R'))))
local macro_rules | `(tactic| walk_at "noteFrame ref") => `(tactic| (k_here; k_dflt (refine' catch_as (C := 66) ?R ?F ?K ?XB ?TB ?D ?T0 ?kcn ?kcx ?_; (case R => assumption); (case F => assumption); (case K => assumption); (case XB => assumption); (case TB => assumption); (case D => assumption); (case T0 => first | assumption | exact KtsTurn.refl); (case kcn => k_is); (case kcx => kernel_rfl); k_whole); intro h' g' T' tk' T1' F' N' K' X' P' D'; (try k_lift K'); (try k_sweep)))
local macro_rules | `(tactic| walk_at "assign Tuple") => `(tactic| (k_here; (with_reducible show wpAny _ _ (assign (Expr.Tuple _ _ _) _ (Value.ref _)) _ _ _); k_dflt (refine' unpackH ?uF ?uN ?um ?uh ?ue ?un ?us ?_; (case uF => k_asm); (case uN => k_asm); (case um => k_memK); (case uh => exact rfl); (case ue => k_memK); (case un => exact rfl); (case us => exact rfl); k_whole); intro h' F' N'; (try k_sweep)))
local macro_rules | `(tactic| walk_at "exec While Compare cons nil") => `(tactic| (k_here; k_dflt (refine' handled_loop (fo := fnMade _ _ _ _ _ [(_, _)] _ _ _ _) ?lO ?lh rfl ?lE ?lF ?l1 ?l2 ?l3 ?l4 ?l5 ?lN ?lT0 ?lB ?lX ?lT ?lD ?lv ?lt0 ?le ?lturn; (case lO => assumption); (case lh => exact rfl); (case lF => k_asm); (case l1 => exact rfl); (case l2 => exact rfl); (case l3 => exact rfl); (case l4 => exact rfl); (case l5 => exact rfl); (case lN => exact News.less (by k_asm) (by walk_at "mine led")); (case lB => assumption); (case lX => assumption); (case lT => assumption); (case lD => assumption); (case lT0 => first | assumption | exact KtsTurn.refl); (case lv => assumption); (case lt0 => assumption); (case le => assumption); (case lE => first | passes_own | with_unfolding_all passes_own); k_whole); intro n' g' h' tk' u' v' tr' ttr' t' tt' cc' tcc' hc' thc' t1' t2' t3' t4' t5' t6' ttop' T' F' N' B' X' T1' D' hv' ht' he' hn'; dsimp only [ledH, mapH] at N' F'; (try k_sweep)))
local macro_rules | `(tactic| walk_at "WhlIf") => `(tactic| (refine whlIf_split ?_ ?_ <;> intro hc9))
local macro_rules | `(tactic| walk_at "WhlEnd") => `(tactic| (k_dflt (first | (refine' handled_next ?eF ?e1 ?e2 ?e3 ?e4 ?e5 ?eN ?eT0 ?eB ?eX ?eT ?eD ?ev ?et ?ee ?en; (case eF => k_asm); (case e1 => exact rfl); (case e2 => exact rfl); (case e3 => exact rfl); (case e4 => exact rfl); (case e5 => exact rfl); (case eN => exact News.less (by k_asm) (by walk_at "mine led")); (case eT0 => assumption); (case eB => assumption); (case eX => assumption); (case eT => assumption); (case eD => assumption); (case ev => first | assumption | k_handed); (case et => ((try simp only [getD_one] at *); omega)); (case ee => walk_at "mine dec"); (case en => ((try simp only [getD_one] at *); omega))) | (with_reducible show WhlEnd _ _ _ (Flow.ret _) _; dsimp only [WhlEnd]))))
local macro_rules | `(tactic| walk_at "mine dec") => `(tactic| ((refine Eq.trans (decide_eq_decide.mpr ?_) (by assumption)); (try simp only [getD_one] at *); omega))
local macro_rules | `(tactic| walk_at "call ref") => `(tactic| (k_here; (with_reducible show wpAny _ _ (call (Value.ref 97) _) _ _ _); k_dflt (refine wpAny_call ?_; refine' code_T ?k1 ?k2 ?k3 ?k4 ?k5 ?XB ?TB ?D ?T0 ?kA ?kF ?kK ?k6 ?k7 ?k8 ?k9 ?kB ?_ ?c2 ?c3 ?c4 ?c5; (case kA => exact rfl); (case kF => exact rfl); (case kK => exact rfl); (case k2 => k_asm); (case k1 => k_asm); (case XB => assumption); (case TB => assumption); (case D => first | assumption | exact ktsDicts_nil); (case T0 => first | assumption | exact KtsTurn.refl); (case k3 => k_asm); (case k4 => k_asm); (case k5 => k_asm); (case k6 => k_is); (case k7 => k_is); (case k8 => k_room); (case k9 => exact BindsTo.of_eq rfl); (case kB => exact locs rfl); (case c2 => exact rfl); (case c3 => exact rfl); (case c4 => exact rfl); (case c5 => decide); k_whole; intro g' L' h' FG' F' N' B' X' T' D'; (try dsimp only); (try k_lift B'); (try k_fold))))
local macro_rules | `(tactic| walk_at "call ref") => `(tactic| (k_here; (with_reducible show wpAny _ _ (call (Value.ref 90) _) _ _ _); k_dflt (refine wpAny_call ?_; refine' code_T ?k1 ?k2 ?k3 ?k4 ?k5 ?XB ?TB ?D ?T0 ?kA ?kF ?kK ?k6 ?k7 ?k8 ?k9 ?kB ?_ ?c2 ?c3 ?c4 ?c5; (case kA => exact rfl); (case kF => exact rfl); (case kK => exact rfl); (case k2 => k_asm); (case k1 => k_asm); (case XB => assumption); (case TB => assumption); (case D => first | assumption | exact ktsDicts_nil); (case T0 => first | assumption | exact KtsTurn.refl); (case k3 => k_asm); (case k4 => k_asm); (case k5 => k_asm); (case k6 => k_is); (case k7 => k_is); (case k8 => k_room); (case k9 => exact BindsTo.of_eq rfl); (case kB => exact locs rfl); (case c2 => exact rfl); (case c3 => exact rfl); (case c4 => exact rfl); (case c5 => decide); k_whole; intro g' L' h' FG' F' N' B' X' T' D'; (try dsimp only); (try k_lift B'); (try k_fold))))

set_option maxRecDepth 100000 in
set_option maxHeartbeats 4000000 in
theorem handled_ok {w : World} {base g₀ g : Heap} {L1 a ga : Addr} {cn gn : Str} {nn gnn : List (Str × NameKind)} {mm gmm : List (Str × Const)} {cd gcd : Value} {cl : List (Str × Addr)} {L : Addr} {m mg mb : Str → Option Value} {s : Shared} {p : Program} {loose : List Str} {mean : ExcName → Option Value}
    {rest : List (Addr × Obj)} {tup x D lt f c' cT e De te Te lS lU lF : Addr} {oc oT : Obj} {name qual : Str} {doc pm ctv v : Value} {vs : Array Value} {tq t1 t2 t3 t4 t5 t6 tcc thc ttop tt tm : Tok} {t cc hc top most : Int} {ended : Bool} {Q : Value → Shared → Prop} {E : Value → Shared → Prop}
    (B : Below (callerA.deeper (envA cn nn mm L1 a cd cl)) base [envA cn nn mm L1 a cd cl] g) (F : Fr g L s.heap m) (X : (hd.heap_39 w.params).In g) (XB : (hd.heap_39 w.params).In base) (T : Top p loose mean mg mb g) (TB : Top p loose mean mg mb base) (Dd : KtsDicts ([envA cn nn mm L1 a cd cl].filterMap (·.frame)) g) (T0 : KtsTurn ([envA cn nn mm L1 a cd cl].filterMap (·.frame)) g₀ g)
    (N : News g L s.heap ((tup, { cls := .type "tuple", data := .seq #[.ref f, .int most tm] }) ::
      ledH w.params x D lt f c' cT e (fnMade name qual ansArgs ansBody ansScope [("times", cT)] doc pm c' ctv) oc oT (excO 66 De te (.ref Te) .none) lS lU lF top rest t tt cc tcc hc thc t1 t2 t3 t4 t5 t6 ttop))
    (hcv : oc.data = .fields vs) (hcq : vs[1]? = some (.str qual tq)) (hT : oT.data = .cell (some (.ref lt))) (hv : handedIn v = true) (ht : 0 ≤ t) (he : decide (most - cc ≤ t) = ended) (C : CodeHd base 138 134)
    (d1 : GnNe D ((x, oc) :: (lt, oc) :: (f, oc) :: (c', oc) :: (cT, oc) :: (e, oc) :: (tup, oc) :: [])) (d2 : GnNe lt ((x, oc) :: (f, oc) :: (c', oc) :: (cT, oc) :: (e, oc) :: (tup, oc) :: [])) (d3 : OwnOff rest [D, lt])
    (h : ∀ (e2 D2 lt2 te2 : Addr) (u1 u2 u3 tv : Tok) g' h' tk cc' tcc' hc' thc' tt' t' t1 t2 t3 t4 t5 t6 ttop, KtsTurn ([envA cn nn mm L1 a cd cl].filterMap (·.frame)) g₀ g' → Fr g' L h' m →
      News g' L h' ((e2, excO 66 D2 te2 .none .none) :: (D2, dictOf (exD w.params u1 u2 u3 (.bytes (resB ended).toArray tv) lt2 ended) 3) :: (lt2, W.listOf #[] 0) ::
        ledH w.params x D lt f c' cT e (fnMade name qual ansArgs ansBody ansScope [("times", cT)] doc pm c' ctv) oc oT (excO 66 De te (.ref Te) .none) lS lU lF top rest t' tt' cc' tcc' hc' thc' t1 t2 t3 t4 t5 t6 ttop) →
      Below (callerA.deeper (envA cn nn mm L1 a cd cl)) base [envA cn nn mm L1 a cd cl] g' → (hd.heap_39 w.params).In g' → Top p loose mean mg mb g' → KtsDicts ([envA cn nn mm L1 a cd cl].filterMap (·.frame)) g' →
      GnNe e2 ((x, oc) :: (D, oc) :: (lt, oc) :: (f, oc) :: (c', oc) :: (cT, oc) :: (e, oc) :: rest) → AllLt D2 ((x, oc) :: (D, oc) :: (lt, oc) :: (f, oc) :: (c', oc) :: (cT, oc) :: (e, oc) :: rest) → AllLt lt2 ((x, oc) :: (D, oc) :: (lt, oc) :: (f, oc) :: (c', oc) :: (cT, oc) :: (e, oc) :: rest) → Q (.ref e2) { s with heap := h', toks := tk }) :
    wpAny (model PySem.Challenge.rw_pq0676_01.row.prog w) (((callerA.deeper (envA cn nn mm L1 a cd cl)).deeper (envOf gn { kind := .function, names := gnn, isGenerator := false, isCoroutine := false, more := gmm } L ga gcd)).mark (some (.ref e))) (call (.ref 90) [.ref x, .ref tup, v]) Q E s := by
  have hMk := kstMark
  revert X XB
  k_fill
  intro X XB
  dsimp only [ansArgs, ansBody, ansScope, ansFn, PySem.Challenge.pw_pq0676_01, List.reverse, List.reverseAux] at N h
  w_strict (w_top off; k_steps)
  · have hend : ended = false := by
      refine Eq.trans (Eq.symm (by assumption)) (decide_eq_false (p := most - _ ≤ _) ?_)
      (simp only [getD_one] at *); omega
    subst hend
    exact h _ _ _ _ _ _ _ _ _ _ _ _ _ _ _ _ _ _ _ _ _ _ _ _ (by assumption) (by assumption) (News.less (by assumption) (by walk_at "mine led")) (by assumption) (by assumption) (by assumption) (by assumption) (by walk_at "mine nes") (by walk_at "mine lts") (by walk_at "mine lts")
  · have hend : ended = true := by
      refine Eq.trans (Eq.symm (by assumption)) (decide_eq_true (p := most - _ ≤ _) ?_)
      (simp only [getD_one] at *); omega
    subst hend
    exact h _ _ _ _ _ _ _ _ _ _ _ _ _ _ _ _ _ _ _ _ _ _ _ _ (by assumption) (by assumption) (News.less (by assumption) (by walk_at "mine led")) (by assumption) (by assumption) (by assumption) (by assumption) (by walk_at "mine nes") (by walk_at "mine lts") (by walk_at "mine lts")

end
section
local macro_rules | `(tactic| walk_at "mine pad 0") => `(tactic| fail)
local macro_rules | `(tactic| walk_at "mine pad 1") => `(tactic| fail)
local macro_rules | `(tactic| walk_at "mine memr") => `(tactic| first | with_reducible exact List.Mem.head _ | (with_reducible refine List.Mem.tail _ ?_; walk_at "mine memr"))
local macro_rules | `(tactic| k_memK) => `(tactic| walk_at "mine memr")
local macro_rules | `(tactic| k_lt $h) => `(tactic| (replace $h := allLt_of $h))
local macro_rules | `(tactic| k_ne) => `(tactic| (refine neN ?_; (try dsimp only); first | assumption | exact (Ne.symm (by assumption)) | exact Nat.ne_of_lt (by assumption) | exact Nat.ne_of_gt (by assumption) | exact allLt_ne (by assumption) (by k_memK) | exact (allLt_ne (by assumption) (by k_memK)).symm | exact allNe_mem (by assumption) (by k_memK) | exact (allNe_mem (by assumption) (by k_memK)).symm | exact allLt_ne2 (by assumption) (by assumption) (by k_memK) | exact (allLt_ne2 (by assumption) (by assumption) (by k_memK)).symm | exact allLt_ne1 (by assumption) (by k_memK) | exact (allLt_ne1 (by assumption) (by k_memK)).symm | exact neAll_mem (by assumption) (by k_memK) | exact (neAll_mem (by assumption) (by k_memK)).symm | exact offHead (by assumption) (by k_memK) | exact (offHead (by assumption) (by k_memK)).symm))
local macro_rules | `(tactic| walk_at "mine in") => `(tactic| (intro p9 h9; (repeat' (first | exact h9 | exact List.mem_append_left _ h9 | exact List.mem_append_right _ h9 | refine List.Mem.tail _ ?_)); done))
local macro_rules | `(tactic| k_all) => `(tactic| first | exact List.forall_mem_nil _ | (with_reducible refine List.forall_mem_cons.mpr ⟨?a, ?b⟩; (case a => k_ne); (case b => k_all)) | exact OwnOff.ne (by assumption) (by k_memK) | exact ltTl (by assumption) (by walk_at "mine in") | exact neTl (by assumption) (by walk_at "mine in") | exact ltTl2 (by assumption) (by assumption) (by walk_at "mine in"))
local macro_rules | `(tactic| walk_at "mine led") => `(tactic| first | (refine List.forall_mem_cons.mpr ⟨by k_memK, ?_⟩; walk_at "mine led") | exact List.forall_mem_nil _ | (refine List.forall_mem_append.mpr ⟨?y1, ?y2⟩; (case y1 => walk_at "mine led"); (case y2 => walk_at "mine led")) | walk_at "mine in")
local macro_rules | `(tactic| walk_at "mine lts") => `(tactic| first | assumption | exact ltSuf (by assumption) (by walk_at "mine in") | (refine allLt_cons (by assumption) (by k_memK) ?_; walk_at "mine lts"))
local macro_rules | `(tactic| walk_at "mine nes") => `(tactic| first | assumption | exact allNe_nil | exact neSuf (by assumption) (by walk_at "mine in") | exact ltSufNe (by assumption) (by walk_at "mine in") | (refine allNe_one (by k_ne) ?_; walk_at "mine nes"))
local macro_rules | `(tactic| walk_at "mine map") => `(tactic| first | exact List.forall_mem_nil _ | (refine List.forall_mem_cons.mpr ⟨rfl, ?_⟩; walk_at "mine map"))

local macro_rules | `(tactic| walk_at "call ref") => `(tactic| (k_here; (with_reducible show wpAny _ _ (call (Value.ref 66) _) _ _ _); k_dflt (refine' call_exc (C := 66) (N₁ := 65) (fI := 63) ?F ?X ?N ?q ?f ?z ?_; (case F => k_asm); (case X => k_asm); (case N => k_asm); (case q => kernel_rfl); (case f => k_is); (case z => exact Nat.le_of_ble_eq_true rfl); k_whole); intro e' t' h' F' N' hn'; (replace hn' := gnNe_of hn'); (try k_sweep)))
local macro_rules | `(tactic| walk_at "setAttr ref") => `(tactic| (k_here; k_dflt (first | (refine' set_exc0 (C := 66) ?F ?X ?N ?U ?s ?p ?t ?_; (case N => k_asm); (case U => k_updF); (case F => k_asm); (case X => k_asm); (case s => k_is); (case p => kernel_rfl); (case t => k_is); k_whole; intro h' D' F' N' l1; (try dsimp only at N'); (try k_lt l1); (try k_sweep)) | (refine' set_excN (C := 66) ?F ?X ?N ?h1 ?h2 ?s ?p ?t ?l ?e ?U ?z ?_; (case N => k_asm); (case h1 => k_memK); (case h2 => k_memK); (case F => k_asm); (case X => k_asm); (case s => k_is); (case p => kernel_rfl); (case t => k_is); (case l => exact rfl); (case e => k_put); (case U => k_upd); (case z => exact Nat.le_of_ble_eq_true rfl); k_whole; intro h' F' N'; (try k_sweep)))))
local macro_rules | `(tactic| walk_at "getAttr ref") => `(tactic| (k_here; k_dflt (refine' get_excN (C := 66) ?F ?X ?N ?h1 ?h2 ?s ?p ?t ?hh ?ha ?hn ?l ?v ?_; (case N => k_asm); (case h1 => k_memK); (case h2 => k_memK); (case F => k_asm); (case X => k_asm); (case s => k_is); (case p => k_is); (case t => kernel_rfl); (case hh => k_is); (case ha => k_is); (case hn => k_is); (case l => k_get); (case v => first | assumption | k_handed); k_whole)))
local macro_rules | `(tactic| walk_at "exec Raise some none") => `(tactic| (k_here; k_dflt (refine' raise_open ?_)))
local macro_rules | `(tactic| walk_at "raiseTail ref") => `(tactic| (k_here; k_dflt (first | (refine' raise_exc0 (C := 66) ?hh ?F ?X ?N ?c ?hm ?_; (case hh => exact rfl); (case F => k_asm); (case X => k_asm); (case N => k_asm); (case c => kernel_rfl); (case hm => k_memK); k_whole) | (refine' raise_excH (C := 66) ?hh ?F ?X ?N ?c ?hm ?ne ?h0 ?U ?_; (case hh => exact rfl); (case F => k_asm); (case X => k_asm); (case N => k_asm); (case c => kernel_rfl); (case hm => k_memK); (case ne => k_ne); (case h0 => k_memK); (case U => k_upd); k_whole; intro h' F' N'; (try k_sweep)))))
local macro_rules | `(tactic| walk_at "mine wo") => `(tactic| (first | (refine' Wo.drop (Wo.nil ?wa); (case wa => k_all)) | (refine' Wo.keep ?wa ?wb; (case wa => k_ne); (case wb => walk_at "mine wo"))))
local macro_rules | `(tactic| walk_at "leaving ref") => `(tactic| (k_here; k_dflt (first | (refine' leave_next ?R ?K ?F ?f ?_; (case R => assumption); (case K => assumption); (case F => assumption); (case f => exact rfl); k_whole; intro h' T' R') | (refine' leave_firstW ?K ?F ?N ?hm ?hs ?f ?k ?_; (case F => k_asm); (case N => k_asm); (case K => assumption); (case hm => k_memK); (case hs => walk_at "mine wo"); (case f => exact rfl); (case k => exact rfl); k_whole; intro h' T' R'))))
local macro_rules | `(tactic| walk_at "noteFrame ref") => `(tactic| (k_here; k_dflt (refine' catch_as (C := 66) ?R ?F ?K ?XB ?TB ?D ?T0 ?kcn ?kcx ?_; (case R => assumption); (case F => assumption); (case K => assumption); (case XB => assumption); (case TB => assumption); (case D => assumption); (case T0 => first | assumption | exact KtsTurn.refl); (case kcn => k_is); (case kcx => kernel_rfl); k_whole); intro h' g' T' tk' T1' F' N' K' X' P' D'; (try k_lift K'); (try k_sweep)))
local macro_rules | `(tactic| walk_at "assign Tuple") => `(tactic| (k_here; (with_reducible show wpAny _ _ (assign (Expr.Tuple _ _ _) _ (Value.ref _)) _ _ _); k_dflt (refine' unpackH ?uF ?uN ?um ?uh ?ue ?un ?us ?_; (case uF => k_asm); (case uN => k_asm); (case um => k_memK); (case uh => exact rfl); (case ue => k_memK); (case un => exact rfl); (case us => exact rfl); k_whole); intro h' F' N'; (try k_sweep)))
local macro_rules | `(tactic| walk_at "exec While Compare cons nil") => `(tactic| (k_here; k_dflt (refine' handled_loop (fo := fnMade _ _ _ _ _ [(_, _)] _ _ _ _) ?lO ?lh rfl ?lE ?lF ?l1 ?l2 ?l3 ?l4 ?l5 ?lN ?lT0 ?lB ?lX ?lT ?lD ?lv ?lt0 ?le ?lturn; (case lO => assumption); (case lh => exact rfl); (case lF => k_asm); (case l1 => exact rfl); (case l2 => exact rfl); (case l3 => exact rfl); (case l4 => exact rfl); (case l5 => exact rfl); (case lN => exact News.less (by k_asm) (by walk_at "mine led")); (case lB => assumption); (case lX => assumption); (case lT => assumption); (case lD => assumption); (case lT0 => first | assumption | exact KtsTurn.refl); (case lv => assumption); (case lt0 => assumption); (case le => assumption); (case lE => first | passes_own | with_unfolding_all passes_own); k_whole); intro n' g' h' tk' u' v' tr' ttr' t' tt' cc' tcc' hc' thc' t1' t2' t3' t4' t5' t6' ttop' T' F' N' B' X' T1' D' hv' ht' he' hn'; dsimp only [ledH, mapH] at N' F'; (try k_sweep)))
local macro_rules | `(tactic| walk_at "WhlIf") => `(tactic| (refine whlIf_split ?_ ?_ <;> intro hc9))
local macro_rules | `(tactic| walk_at "WhlEnd") => `(tactic| (k_dflt (first | (refine' handled_next ?eF ?e1 ?e2 ?e3 ?e4 ?e5 ?eN ?eT0 ?eB ?eX ?eT ?eD ?ev ?et ?ee ?en; (case eF => k_asm); (case e1 => exact rfl); (case e2 => exact rfl); (case e3 => exact rfl); (case e4 => exact rfl); (case e5 => exact rfl); (case eN => exact News.less (by k_asm) (by walk_at "mine led")); (case eT0 => assumption); (case eB => assumption); (case eX => assumption); (case eT => assumption); (case eD => assumption); (case ev => first | assumption | k_handed); (case et => ((try simp only [getD_one] at *); omega)); (case ee => walk_at "mine dec"); (case en => ((try simp only [getD_one] at *); omega))) | (with_reducible show WhlEnd _ _ _ (Flow.ret _) _; dsimp only [WhlEnd]))))
local macro_rules | `(tactic| walk_at "mine dec") => `(tactic| ((refine Eq.trans (decide_eq_decide.mpr ?_) (by assumption)); (try simp only [getD_one] at *); omega))
local macro_rules | `(tactic| walk_at "call ref") => `(tactic| (k_here; (with_reducible show wpAny _ _ (call (Value.ref 97) _) _ _ _); k_dflt (refine wpAny_call ?_; refine' code_T ?k1 ?k2 ?k3 ?k4 ?k5 ?XB ?TB ?D ?T0 ?kA ?kF ?kK ?k6 ?k7 ?k8 ?k9 ?kB ?_ ?c2 ?c3 ?c4 ?c5; (case kA => exact rfl); (case kF => exact rfl); (case kK => exact rfl); (case k2 => k_asm); (case k1 => k_asm); (case XB => assumption); (case TB => assumption); (case D => first | assumption | exact ktsDicts_nil); (case T0 => first | assumption | exact KtsTurn.refl); (case k3 => k_asm); (case k4 => k_asm); (case k5 => k_asm); (case k6 => k_is); (case k7 => k_is); (case k8 => k_room); (case k9 => exact BindsTo.of_eq rfl); (case kB => exact locs rfl); (case c2 => exact rfl); (case c3 => exact rfl); (case c4 => exact rfl); (case c5 => decide); k_whole; intro g' L' h' FG' F' N' B' X' T' D'; (try dsimp only); (try k_lift B'); (try k_fold))))
local macro_rules | `(tactic| walk_at "call ref") => `(tactic| (k_here; (with_reducible show wpAny _ _ (call (Value.ref 90) _) _ _ _); k_dflt (refine wpAny_call ?_; refine' code_T ?k1 ?k2 ?k3 ?k4 ?k5 ?XB ?TB ?D ?T0 ?kA ?kF ?kK ?k6 ?k7 ?k8 ?k9 ?kB ?_ ?c2 ?c3 ?c4 ?c5; (case kA => exact rfl); (case kF => exact rfl); (case kK => exact rfl); (case k2 => k_asm); (case k1 => k_asm); (case XB => assumption); (case TB => assumption); (case D => first | assumption | exact ktsDicts_nil); (case T0 => first | assumption | exact KtsTurn.refl); (case k3 => k_asm); (case k4 => k_asm); (case k5 => k_asm); (case k6 => k_is); (case k7 => k_is); (case k8 => k_room); (case k9 => exact BindsTo.of_eq rfl); (case kB => exact locs rfl); (case c2 => exact rfl); (case c3 => exact rfl); (case c4 => exact rfl); (case c5 => decide); k_whole; intro g' L' h' FG' F' N' B' X' T' D'; (try dsimp only); (try k_lift B'); (try k_fold))))

local macro_rules | `(tactic| walk_at "call ref") => `(tactic| (k_here; (with_reducible show wpAny _ _ (call (Value.ref 90) _) _ _ _); k_dflt (refine' handled_ok ?hB ?hF ?hX ?hXB ?hTt ?hTB ?hDd ?hT0 ?hN ?hcv ?hcq ?hTo ?hv ?ht ?he ?hC ?hd1 ?hd2 ?hd3 ?_; (case hd3 => assumption); (case hF => k_asm); (case hB => assumption); (case hX => assumption); (case hXB => assumption); (case hTt => assumption); (case hTB => assumption); (case hDd => assumption); (case hT0 => first | assumption | exact KtsTurn.refl); (case hN => exact News.less (by k_asm) (by walk_at "mine led")); (case hcv => assumption); (case hcq => assumption); (case hTo => assumption); (case hv => first | assumption | k_handed); (case ht => assumption); (case he => assumption); (case hC => kn_code); (case hd1 => walk_at "mine nes"); (case hd2 => walk_at "mine nes"); k_whole); intro e2' D2' lt2' te2' u1' u2' u3' tv' g' h' tk' cc' tcc' hc' thc' tt' t' t1' t2' t3' t4' t5' t6' ttop' T' F' N' B' X' T1' D' q1' q2' q3'; (try dsimp only [ledH] at N'); (try k_lift B'); (try k_sweep)))

set_option maxRecDepth 100000 in
set_option maxHeartbeats 4000000 in
set_option pp.deepTerms false in
set_option pp.deepTerms.threshold 4 in
theorem gwH {w : World} {base h₀ : Heap} {L a : Addr} {m mg mb : Str → Option Value} {cn : Str} {nn : List (Str × NameKind)} {mm : List (Str × Const)} {cd : Value} {cl : List (Str × Addr)} {s : Shared} {p : Program} {loose : List Str} {mean : ExcName → Option Value}
    {rest : List (Addr × Obj)} {x D f1 c1 a1 tup fA cA cT lt lS lU lF : Addr} {n1 q1 nA qA : Str} {pm1 ctv1 docA pmA ctvA v : Value} {oc1 o1 ocA oT : Obj} {vs1 vsA : Array Value} {tq1 tqA t1 t2 t3 t4 t5 t6 tcc thc ttop tt tm : Tok} {t cc hc top most : Int} {ended : Bool} {Q : Value → Shared → Prop} {E : Value → Shared → Prop}
    (B : Below callerA base [] h₀) (F : Fr h₀ L s.heap m) (X : (hd.heap_39 w.params).In h₀) (XB : (hd.heap_39 w.params).In base) (T : Top p loose mean mg mb h₀) (TB : Top p loose mean mg mb base)
    (N : News h₀ L s.heap ((f1, kla_obj n1 q1 lam1.1 lam1.2.1 lam1.2.2 [("value", a1)] pm1 c1 ctv1) :: (c1, oc1) :: (a1, o1) :: (tup, { cls := .type "tuple", data := .seq #[.ref fA, .int most tm] }) ::
      (x, instObj 38 D) :: (D, dictOf (hoD w.params t1 t2 t3 t4 t5 t6 tcc thc ttop lS lU lF cc hc top) 6) :: (lt, W.listOf #[.int t tt] 0) :: (fA, fnMade nA qA ansArgs ansBody ansScope [("times", cT)] docA pmA cA ctvA) :: (cA, ocA) :: (cT, oT) :: rest))
    (hcv1 : oc1.data = .fields vs1) (hcq1 : vs1[1]? = some (.str q1 tq1)) (hcvA : ocA.data = .fields vsA) (hcqA : vsA[1]? = some (.str qA tqA)) (hT : oT.data = .cell (some (.ref lt)))
    (hv1 : o1.data = .cell (some v)) (hh : handedIn v = true) (ht : 0 ≤ t) (he : decide (most - cc ≤ t) = ended) (C1 : CodeHd base 143 141) (C : CodeHd base 138 134)
    (d1 : GnNe D ((x, oc1) :: (lt, oc1) :: (fA, oc1) :: (cA, oc1) :: (cT, oc1) :: (tup, oc1) :: [])) (d2 : GnNe lt ((x, oc1) :: (fA, oc1) :: (cA, oc1) :: (cT, oc1) :: (tup, oc1) :: []))
    (d3 : OwnOff ((f1, kla_obj n1 q1 lam1.1 lam1.2.1 lam1.2.2 [("value", a1)] pm1 c1 ctv1) :: (c1, oc1) :: (a1, o1) :: rest) [D, lt])
    (h : ∀ (e2 D2 lt2 te2 : Addr) (u1 u2 u3 tv : Tok) h' tk cc' tcc' hc' thc' t1 t2 t3 t4 t5 t6 ttop, Fr h₀ L h' m →
      News h₀ L h' ((e2, excO 66 D2 te2 .none .none) :: (D2, dictOf (exD w.params u1 u2 u3 (.bytes (resB ended).toArray tv) lt2 ended) 3) ::
        (x, instObj 38 D) :: (D, dictOf (hoD w.params t1 t2 t3 t4 t5 t6 tcc' thc' ttop lS lU lF cc' hc' top) 6) :: (a1, o1) :: (c1, oc1) :: (cA, ocA) :: rest) →
      GnNe e2 ((x, oc1) :: (D, oc1) :: (a1, oc1) :: (c1, oc1) :: (cA, oc1) :: rest) → AllLt D2 ((x, oc1) :: (D, oc1) :: (a1, oc1) :: (c1, oc1) :: (cA, oc1) :: rest) → Q (.ref e2) { s with heap := h', toks := tk }) :
    wpAny (model PySem.Challenge.rw_pq0676_01.row.prog w) (callerA.deeper (envA cn nn mm L a cd cl)) (call (.ref 97) [.ref x, .ref f1, .ref tup]) Q E s := by
  have hMk := kstMark
  revert X XB
  k_fill
  intro X XB
  dsimp only [lam1, lamParts, turnBody, lawFn, PySem.Challenge.pw_pq0676_01, List.reverse, List.reverseAux] at N h d3
  w_strict (w_top off; k_steps; (all_goals (exact h _ _ _ _ _ _ _ _ _ _ _ _ _ _ _ _ _ _ _ _ _ (fr_nil (by assumption) (by assumption)) (news_nil (by assumption) (News.less (by assumption) (by walk_at "mine led"))) (by walk_at "mine nes") (by walk_at "mine lts"))))

end
section
local macro_rules | `(tactic| walk_at "mine pad 0") => `(tactic| fail)
local macro_rules | `(tactic| walk_at "mine pad 1") => `(tactic| fail)
local macro_rules | `(tactic| walk_at "mine pad 2") => `(tactic| fail)
local macro_rules | `(tactic| walk_at "mine memr") => `(tactic| first | with_reducible exact List.Mem.head _ | (with_reducible refine List.Mem.tail _ ?_; walk_at "mine memr"))
local macro_rules | `(tactic| k_memK) => `(tactic| walk_at "mine memr")
local macro_rules | `(tactic| k_lt $h) => `(tactic| (replace $h := allLt_of $h))
local macro_rules | `(tactic| k_ne) => `(tactic| (refine neN ?_; (try dsimp only); first | assumption | exact (Ne.symm (by assumption)) | exact Nat.ne_of_lt (by assumption) | exact Nat.ne_of_gt (by assumption) | exact allLt_ne (by assumption) (by k_memK) | exact (allLt_ne (by assumption) (by k_memK)).symm | exact allNe_mem (by assumption) (by k_memK) | exact (allNe_mem (by assumption) (by k_memK)).symm | exact allLt_ne2 (by assumption) (by assumption) (by k_memK) | exact (allLt_ne2 (by assumption) (by assumption) (by k_memK)).symm | exact allLt_ne1 (by assumption) (by k_memK) | exact (allLt_ne1 (by assumption) (by k_memK)).symm | exact neAll_mem (by assumption) (by k_memK) | exact (neAll_mem (by assumption) (by k_memK)).symm | exact offHead (by assumption) (by k_memK) | exact (offHead (by assumption) (by k_memK)).symm))
local macro_rules | `(tactic| walk_at "mine in") => `(tactic| (intro p9 h9; (repeat' (first | exact h9 | exact List.mem_append_left _ h9 | exact List.mem_append_right _ h9 | refine List.Mem.tail _ ?_)); done))
local macro_rules | `(tactic| k_all) => `(tactic| first | exact List.forall_mem_nil _ | (with_reducible refine List.forall_mem_cons.mpr ⟨?a, ?b⟩; (case a => k_ne); (case b => k_all)) | exact OwnOff.ne (by assumption) (by k_memK) | exact ltTl (by assumption) (by walk_at "mine in") | exact neTl (by assumption) (by walk_at "mine in") | exact ltTl2 (by assumption) (by assumption) (by walk_at "mine in"))
local macro_rules | `(tactic| walk_at "mine led") => `(tactic| first | (refine List.forall_mem_cons.mpr ⟨by k_memK, ?_⟩; walk_at "mine led") | exact List.forall_mem_nil _ | (refine List.forall_mem_append.mpr ⟨?y1, ?y2⟩; (case y1 => walk_at "mine led"); (case y2 => walk_at "mine led")) | walk_at "mine in")
local macro_rules | `(tactic| walk_at "mine lts") => `(tactic| first | assumption | exact ltSuf (by assumption) (by walk_at "mine in") | (refine allLt_cons (by assumption) (by k_memK) ?_; walk_at "mine lts"))
local macro_rules | `(tactic| walk_at "mine nes") => `(tactic| first | assumption | exact allNe_nil | exact neSuf (by assumption) (by walk_at "mine in") | exact ltSufNe (by assumption) (by walk_at "mine in") | (refine allNe_one (by k_ne) ?_; walk_at "mine nes"))
local macro_rules | `(tactic| walk_at "mine map") => `(tactic| first | exact List.forall_mem_nil _ | (refine List.forall_mem_cons.mpr ⟨rfl, ?_⟩; walk_at "mine map"))

local macro_rules | `(tactic| walk_at "call ref") => `(tactic| (k_here; (with_reducible show wpAny _ _ (call (Value.ref 66) _) _ _ _); k_dflt (refine' call_exc (C := 66) (N₁ := 65) (fI := 63) ?F ?X ?N ?q ?f ?z ?_; (case F => k_asm); (case X => k_asm); (case N => k_asm); (case q => kernel_rfl); (case f => k_is); (case z => exact Nat.le_of_ble_eq_true rfl); k_whole); intro e' t' h' F' N' hn'; (replace hn' := gnNe_of hn'); (try k_sweep)))
local macro_rules | `(tactic| walk_at "setAttr ref") => `(tactic| (k_here; k_dflt (first | (refine' set_exc0 (C := 66) ?F ?X ?N ?U ?s ?p ?t ?_; (case N => k_asm); (case U => k_updF); (case F => k_asm); (case X => k_asm); (case s => k_is); (case p => kernel_rfl); (case t => k_is); k_whole; intro h' D' F' N' l1; (try dsimp only at N'); (try k_lt l1); (try k_sweep)) | (refine' set_excN (C := 66) ?F ?X ?N ?h1 ?h2 ?s ?p ?t ?l ?e ?U ?z ?_; (case N => k_asm); (case h1 => k_memK); (case h2 => k_memK); (case F => k_asm); (case X => k_asm); (case s => k_is); (case p => kernel_rfl); (case t => k_is); (case l => exact rfl); (case e => k_put); (case U => k_upd); (case z => exact Nat.le_of_ble_eq_true rfl); k_whole; intro h' F' N'; (try k_sweep)))))
local macro_rules | `(tactic| walk_at "getAttr ref") => `(tactic| (k_here; k_dflt (refine' get_excN (C := 66) ?F ?X ?N ?h1 ?h2 ?s ?p ?t ?hh ?ha ?hn ?l ?v ?_; (case N => k_asm); (case h1 => k_memK); (case h2 => k_memK); (case F => k_asm); (case X => k_asm); (case s => k_is); (case p => k_is); (case t => kernel_rfl); (case hh => k_is); (case ha => k_is); (case hn => k_is); (case l => k_get); (case v => first | assumption | k_handed); k_whole)))
local macro_rules | `(tactic| walk_at "exec Raise some none") => `(tactic| (k_here; k_dflt (refine' raise_open ?_)))
local macro_rules | `(tactic| walk_at "raiseTail ref") => `(tactic| (k_here; k_dflt (first | (refine' raise_exc0 (C := 66) ?hh ?F ?X ?N ?c ?hm ?_; (case hh => exact rfl); (case F => k_asm); (case X => k_asm); (case N => k_asm); (case c => kernel_rfl); (case hm => k_memK); k_whole) | (refine' raise_excH (C := 66) ?hh ?F ?X ?N ?c ?hm ?ne ?h0 ?U ?_; (case hh => exact rfl); (case F => k_asm); (case X => k_asm); (case N => k_asm); (case c => kernel_rfl); (case hm => k_memK); (case ne => k_ne); (case h0 => k_memK); (case U => k_upd); k_whole; intro h' F' N'; (try k_sweep)))))
local macro_rules | `(tactic| walk_at "mine wo") => `(tactic| (first | (refine' Wo.drop (Wo.nil ?wa); (case wa => k_all)) | (refine' Wo.keep ?wa ?wb; (case wa => k_ne); (case wb => walk_at "mine wo"))))
local macro_rules | `(tactic| walk_at "leaving ref") => `(tactic| (k_here; k_dflt (first | (refine' leave_next ?R ?K ?F ?f ?_; (case R => assumption); (case K => assumption); (case F => assumption); (case f => exact rfl); k_whole; intro h' T' R') | (refine' leave_firstW ?K ?F ?N ?hm ?hs ?f ?k ?_; (case F => k_asm); (case N => k_asm); (case K => assumption); (case hm => k_memK); (case hs => walk_at "mine wo"); (case f => exact rfl); (case k => exact rfl); k_whole; intro h' T' R'))))
local macro_rules | `(tactic| walk_at "noteFrame ref") => `(tactic| (k_here; k_dflt (refine' catch_as (C := 66) ?R ?F ?K ?XB ?TB ?D ?T0 ?kcn ?kcx ?_; (case R => assumption); (case F => assumption); (case K => assumption); (case XB => assumption); (case TB => assumption); (case D => assumption); (case T0 => first | assumption | exact KtsTurn.refl); (case kcn => k_is); (case kcx => kernel_rfl); k_whole); intro h' g' T' tk' T1' F' N' K' X' P' D'; (try k_lift K'); (try k_sweep)))
local macro_rules | `(tactic| walk_at "assign Tuple") => `(tactic| (k_here; (with_reducible show wpAny _ _ (assign (Expr.Tuple _ _ _) _ (Value.ref _)) _ _ _); k_dflt (refine' unpackH ?uF ?uN ?um ?uh ?ue ?un ?us ?_; (case uF => k_asm); (case uN => k_asm); (case um => k_memK); (case uh => exact rfl); (case ue => k_memK); (case un => exact rfl); (case us => exact rfl); k_whole); intro h' F' N'; (try k_sweep)))
local macro_rules | `(tactic| walk_at "exec While Compare cons nil") => `(tactic| (k_here; k_dflt (refine' handled_loop (fo := fnMade _ _ _ _ _ [(_, _)] _ _ _ _) ?lO ?lh rfl ?lE ?lF ?l1 ?l2 ?l3 ?l4 ?l5 ?lN ?lT0 ?lB ?lX ?lT ?lD ?lv ?lt0 ?le ?lturn; (case lO => assumption); (case lh => exact rfl); (case lF => k_asm); (case l1 => exact rfl); (case l2 => exact rfl); (case l3 => exact rfl); (case l4 => exact rfl); (case l5 => exact rfl); (case lN => exact News.less (by k_asm) (by walk_at "mine led")); (case lB => assumption); (case lX => assumption); (case lT => assumption); (case lD => assumption); (case lT0 => first | assumption | exact KtsTurn.refl); (case lv => assumption); (case lt0 => assumption); (case le => assumption); (case lE => first | passes_own | with_unfolding_all passes_own); k_whole); intro n' g' h' tk' u' v' tr' ttr' t' tt' cc' tcc' hc' thc' t1' t2' t3' t4' t5' t6' ttop' T' F' N' B' X' T1' D' hv' ht' he' hn'; dsimp only [ledH, mapH] at N' F'; (try k_sweep)))
local macro_rules | `(tactic| walk_at "WhlIf") => `(tactic| (refine whlIf_split ?_ ?_ <;> intro hc9))
local macro_rules | `(tactic| walk_at "WhlEnd") => `(tactic| (k_dflt (first | (refine' handled_next ?eF ?e1 ?e2 ?e3 ?e4 ?e5 ?eN ?eT0 ?eB ?eX ?eT ?eD ?ev ?et ?ee ?en; (case eF => k_asm); (case e1 => exact rfl); (case e2 => exact rfl); (case e3 => exact rfl); (case e4 => exact rfl); (case e5 => exact rfl); (case eN => exact News.less (by k_asm) (by walk_at "mine led")); (case eT0 => assumption); (case eB => assumption); (case eX => assumption); (case eT => assumption); (case eD => assumption); (case ev => first | assumption | k_handed); (case et => ((try simp only [getD_one] at *); omega)); (case ee => walk_at "mine dec"); (case en => ((try simp only [getD_one] at *); omega))) | (with_reducible show WhlEnd _ _ _ (Flow.ret _) _; dsimp only [WhlEnd]))))
local macro_rules | `(tactic| walk_at "mine dec") => `(tactic| ((refine Eq.trans (decide_eq_decide.mpr ?_) (by assumption)); (try simp only [getD_one] at *); omega))
local macro_rules | `(tactic| walk_at "call ref") => `(tactic| (k_here; (with_reducible show wpAny _ _ (call (Value.ref 97) _) _ _ _); k_dflt (refine wpAny_call ?_; refine' code_T ?k1 ?k2 ?k3 ?k4 ?k5 ?XB ?TB ?D ?T0 ?kA ?kF ?kK ?k6 ?k7 ?k8 ?k9 ?kB ?_ ?c2 ?c3 ?c4 ?c5; (case kA => exact rfl); (case kF => exact rfl); (case kK => exact rfl); (case k2 => k_asm); (case k1 => k_asm); (case XB => assumption); (case TB => assumption); (case D => first | assumption | exact ktsDicts_nil); (case T0 => first | assumption | exact KtsTurn.refl); (case k3 => k_asm); (case k4 => k_asm); (case k5 => k_asm); (case k6 => k_is); (case k7 => k_is); (case k8 => k_room); (case k9 => exact BindsTo.of_eq rfl); (case kB => exact locs rfl); (case c2 => exact rfl); (case c3 => exact rfl); (case c4 => exact rfl); (case c5 => decide); k_whole; intro g' L' h' FG' F' N' B' X' T' D'; (try dsimp only); (try k_lift B'); (try k_fold))))
local macro_rules | `(tactic| walk_at "call ref") => `(tactic| (k_here; (with_reducible show wpAny _ _ (call (Value.ref 90) _) _ _ _); k_dflt (refine wpAny_call ?_; refine' code_T ?k1 ?k2 ?k3 ?k4 ?k5 ?XB ?TB ?D ?T0 ?kA ?kF ?kK ?k6 ?k7 ?k8 ?k9 ?kB ?_ ?c2 ?c3 ?c4 ?c5; (case kA => exact rfl); (case kF => exact rfl); (case kK => exact rfl); (case k2 => k_asm); (case k1 => k_asm); (case XB => assumption); (case TB => assumption); (case D => first | assumption | exact ktsDicts_nil); (case T0 => first | assumption | exact KtsTurn.refl); (case k3 => k_asm); (case k4 => k_asm); (case k5 => k_asm); (case k6 => k_is); (case k7 => k_is); (case k8 => k_room); (case k9 => exact BindsTo.of_eq rfl); (case kB => exact locs rfl); (case c2 => exact rfl); (case c3 => exact rfl); (case c4 => exact rfl); (case c5 => decide); k_whole; intro g' L' h' FG' F' N' B' X' T' D'; (try dsimp only); (try k_lift B'); (try k_fold))))

local macro_rules | `(tactic| walk_at "exec FunctionDef") => `(tactic| (k_here; kn_here; k_dflt (refine' nestDef_K ?d0 ?k0 ?a0 ?_; (case d0 => exact rfl); (case k0 => exact rfl); (case a0 => exact rfl)); k_dflt (refine' nest_any ?nF ?nN ?nT ?nC ?ncd ?nU ?nc ?nk ?nx ?nt ?ni ?no ?na ?ncl ?_; (case nF => k_asm); (case nN => k_asm); (case nT => k_asm); (case ncd => exact rfl); (case nC => kn_code); (case nU => k_updF); (case nc => assumption); (case nk => exact tailIn (tailIn (by assumption))); (case nx => exact ExOk.skip (ExOk.skip (by assumption))); (case nt => assumption); (case ni => exact tailIn (tailIn (by assumption))); (case no => assumption); (case na => exact adrTail (by assumption)); (case ncl => exact rfl); k_whole); intro f' c' oc' vs' t' ct' dc' h' tk' ps' F' N' d1' d2' hC' hne' hT' hO' l1 l2; (try dsimp only at N'); (try k_lt l1); (try k_lt2 l2); (try k_sweep)))

set_option maxRecDepth 100000 in
set_option maxHeartbeats 4000000 in
theorem ans_ok {w : World} {base h₀ : Heap} {L a : Addr} {m mg mb : Str → Option Value} {cn : Str} {nn : List (Str × NameKind)} {mm : List (Str × Const)} {cd : Value} {cl : List (Str × Addr)} {s : Shared} {p : Program} {loose : List Str} {mean : ExcName → Option Value}
    {rest ks ow : List (Addr × Obj)} {lt : Addr} {ps : Array Value} {ex : List Nat} {adr : List Addr} {Q : Value → Shared → Prop} {E : Value → Shared → Prop}
    (B : Below callerA base [] h₀) (F : Fr h₀ L s.heap m) (X : (hd.heap_39 w.params).In h₀) (XB : (hd.heap_39 w.params).In base) (T : Top p loose mean mg mb h₀)
    (N : News h₀ L s.heap ((134, tabObj ps) :: rest)) (O : OwnOff rest [134]) (hC : Codes ks ps (Str.ofString "_law_answers.<locals>.answer")) (hk : ∀ p ∈ ks, p ∈ rest) (hx : ExOk ks rest ex) (ht : TbOff ow ks) (hi : ∀ p ∈ ow, p ∈ rest) (ho : OwnOff ks adr) (ha : ∀ b ∈ adr, ∃ o, (b, o) ∈ ((134 : Nat), tabObj ps) :: rest)
    (C : CodeHd base 138 134)
    (h : ∀ (fA cA cT : Addr) (ocA oT : Obj) (doc pm ctv : Value) (vs : Array Value) (t : Tok) (ps' : Array Value) h' tk, Fr h₀ L h' m →
      News h₀ L h' ((fA, fnMade (Str.ofString "answer") (Str.ofString "_law_answers.<locals>.answer") ansArgs ansBody ansScope [(Str.ofString "times", cT)] doc pm cA ctv) :: (cA, ocA) :: (cT, oT) :: (134, tabObj ps') :: rest) →
      ocA.data = .fields vs → vs[1]? = some (.str (Str.ofString "_law_answers.<locals>.answer") t) → oT.data = .cell (some (.ref lt)) → Codes ((cA, ocA) :: ks) ps' (Str.ofString "_law_answers.<locals>.answer") → NeAll cA ex → TbOff ow ((cA, ocA) :: ks) → OwnOff ((cA, ocA) :: ks) adr →
      AllLt cT ((134, ocA) :: rest) → AllLt fA ((cT, ocA) :: (134, ocA) :: rest) → @LT.lt Nat _ cA fA → Q (.ref fA) { s with heap := h', toks := tk }) :
    wpAny (model PySem.Challenge.rw_pq0676_01.row.prog w) (callerA.deeper (envA cn nn mm L a cd cl)) (call (.ref 139) [.ref lt]) Q E s := by
  have hMk := kstMark
  revert X XB
  k_fill
  intro X XB
  w_strict (w_top off; k_steps; (all_goals (exact h _ _ _ _ _ _ _ _ _ _ _ _ _ (by assumption) (by assumption) (by assumption) (by assumption) (by assumption) (by assumption) (by assumption) (by assumption) (by assumption) (allLt_up (by assumption)) (by assumption) (by assumption))))

/-- as ans_ok, over any ledger -/
theorem ans_n {w : World} {base h₀ : Heap} {L a : Addr} {m mg mb : Str → Option Value} {cn : Str} {nn : List (Str × NameKind)} {mm : List (Str × Const)} {cd : Value} {cl : List (Str × Addr)} {s : Shared} {p : Program} {loose : List Str} {mean : ExcName → Option Value}
    {news rest ks ow : List (Addr × Obj)} {lt : Addr} {ps : Array Value} {ex : List Nat} {adr : List Addr} {Q : Value → Shared → Prop} {E : Value → Shared → Prop}
    (B : Below callerA base [] h₀) (F : Fr h₀ L s.heap m) (X : (hd.heap_39 w.params).In h₀) (XB : (hd.heap_39 w.params).In base) (T : Top p loose mean mg mb h₀)
    (N : News h₀ L s.heap news) (Wd : Wo 134 news rest) (mP : ((134 : Nat), tabObj ps) ∈ news) (hC : Codes ks ps (Str.ofString "_law_answers.<locals>.answer")) (hk : ∀ p ∈ ks, p ∈ rest) (hx : ExOk ks rest ex) (ht : TbOff ow ks) (hi : ∀ p ∈ ow, p ∈ rest) (ho : OwnOff ks adr) (ha : ∀ b ∈ adr, ∃ o, (b, o) ∈ ((134 : Nat), tabObj ps) :: rest)
    (C : CodeHd base 138 134)
    (h : ∀ (fA cA cT : Addr) (ocA oT : Obj) (doc pm ctv : Value) (vs : Array Value) (t : Tok) (ps' : Array Value) h' tk, Fr h₀ L h' m →
      News h₀ L h' ((fA, fnMade (Str.ofString "answer") (Str.ofString "_law_answers.<locals>.answer") ansArgs ansBody ansScope [(Str.ofString "times", cT)] doc pm cA ctv) :: (cA, ocA) :: (cT, oT) :: (134, tabObj ps') :: rest) →
      ocA.data = .fields vs → vs[1]? = some (.str (Str.ofString "_law_answers.<locals>.answer") t) → oT.data = .cell (some (.ref lt)) → Codes ((cA, ocA) :: ks) ps' (Str.ofString "_law_answers.<locals>.answer") → NeAll cA ex → TbOff ow ((cA, ocA) :: ks) → OwnOff ((cA, ocA) :: ks) adr →
      AllLt cT ((134, ocA) :: rest) → AllLt fA ((cT, ocA) :: (134, ocA) :: rest) → @LT.lt Nat _ cA fA → Q (.ref fA) { s with heap := h', toks := tk }) :
    wpAny (model PySem.Challenge.rw_pq0676_01.row.prog w) (callerA.deeper (envA cn nn mm L a cd cl)) (call (.ref 139) [.ref lt]) Q E s :=
  ans_ok B F X XB T (News.less N (memIn mP fun q hq => (Wd.sub q hq).1)) (fun q hq b hb => by rw [List.mem_singleton.mp hb]; exact (Wd.sub q hq).2) hC hk hx ht hi ho ha C h

end
section
section
variable {w : World} {base h₀ : Heap} {L a : Addr} {m mg mb : Str → Option Value} {cn : Str} {nn : List (Str × NameKind)} {mm : List (Str × Const)} {cd : Value} {cl : List (Str × Addr)} {s : Shared} {p : Program} {loose : List Str} {mean : ExcName → Option Value} {news rest r1 : List (Addr × Obj)} {Q : Value → Shared → Prop} {E : Value → Shared → Prop}
/-- as gw1, over any ledger -/
theorem gw1n {x f c' a1 : Addr} {name qual : Str} {pm ctv v : Value} {oc o1 : Obj} {vs : Array Value} {t : Tok}
    (B : Below callerA base [] h₀) (F : Fr h₀ L s.heap m) (X : (hd.heap_39 w.params).In h₀) (XB : (hd.heap_39 w.params).In base) (T : Top p loose mean mg mb h₀) (TB : Top p loose mean mg mb base)
    (N : News h₀ L s.heap news) (m1 : (f, kla_obj name qual lam1.1 lam1.2.1 lam1.2.2 [("value", a1)] pm c' ctv) ∈ news) (m2 : (c', oc) ∈ news) (m3 : (a1, o1) ∈ news) (hcv : oc.data = .fields vs) (hcq : vs[1]? = some (.str qual t))
    (hv : o1.data = .cell (some v)) (hh : handedIn v = true) (C : CodeHd base 143 141)
    (h : ∀ (e D lt te T : Addr) (t1 t2 t3 : Tok) h' tk, Fr h₀ L h' m →
      News h₀ L h' ((e, excO 66 D te (.ref T) .none) :: (D, dictOf (exD w.params t1 t2 t3 v lt false) 3) :: (lt, W.listOf #[] 0) :: news) →
      GnNe e news → AllLt D ((e, instObj 0 0) :: news) → AllLt lt ((D, instObj 0 0) :: (e, instObj 0 0) :: news) → Q (.ref e) { s with heap := h', toks := tk }) :
    wpAny (model PySem.Challenge.rw_pq0676_01.row.prog w) (callerA.deeper (envA cn nn mm L a cd cl)) (call (.ref 97) [.ref x, .ref f, .none]) Q E s := by
  refine gw1 (rest := news) B F X XB T TB (News.less N (memIn m1 (memIn m2 (memIn m3 selfIn)))) hcv hcq hv hh C fun e D lt te T t1 t2 t3 h' tk F' N' q1 q2 q3 =>
    h e D lt te T t1 t2 t3 h' tk F' (News.less N' (headIn (headIn (headIn (tailIn (tailIn (tailIn selfIn))))))) (neSuf q1 (tailIn (tailIn (tailIn selfIn)))) ⟨q2.1, ltSuf q2 (tailIn (tailIn (tailIn (tailIn selfIn))))⟩ ⟨q3.1, q3.2.1, ltSuf q3 (tailIn (tailIn (tailIn (tailIn (tailIn selfIn)))))⟩
/-- as gw2, over any ledger -/
theorem gw2n {x f c' a2 e1 D1 lt1 te1 : Addr} {name qual : Str} {pm ctv v tb1 cx1 : Value} {oc o1 : Obj} {vs : Array Value} {t t11 t12 t13 : Tok} {b : Bool}
    (B : Below callerA base [] h₀) (F : Fr h₀ L s.heap m) (X : (hd.heap_39 w.params).In h₀) (XB : (hd.heap_39 w.params).In base) (T : Top p loose mean mg mb h₀) (TB : Top p loose mean mg mb base)
    (N : News h₀ L s.heap news) (m1 : (f, kla_obj name qual lam2.1 lam2.2.1 lam2.2.2 [("found", a2)] pm c' ctv) ∈ news) (m2 : (c', oc) ∈ news) (m3 : (a2, o1) ∈ news) (m4 : (e1, excO 66 D1 te1 tb1 cx1) ∈ news) (m5 : (D1, dictOf (exD w.params t11 t12 t13 v lt1 b) 3) ∈ news)
    (hcv : oc.data = .fields vs) (hcq : vs[1]? = some (.str qual t)) (hv : o1.data = .cell (some (.ref e1))) (hh : handedIn v = true) (C : CodeHd base 143 141)
    (h : ∀ (e D lt te T : Addr) (t1 t2 t3 : Tok) h' tk, Fr h₀ L h' m →
      News h₀ L h' ((e, excO 66 D te (.ref T) .none) :: (D, dictOf (exD w.params t1 t2 t3 v lt false) 3) :: news) → Q (.ref e) { s with heap := h', toks := tk }) :
    wpAny (model PySem.Challenge.rw_pq0676_01.row.prog w) (callerA.deeper (envA cn nn mm L a cd cl)) (call (.ref 97) [.ref x, .ref f, .none]) Q E s := by
  refine gw2 (rest := news) B F X XB T TB (News.less N (memIn m1 (memIn m2 (memIn m3 (memIn m4 (memIn m5 selfIn)))))) hcv hcq hv hh C fun e D lt te T t1 t2 t3 h' tk F' N' =>
    h e D lt te T t1 t2 t3 h' tk F' (News.less N' (headIn (headIn (tailIn (tailIn (tailIn (tailIn (tailIn selfIn))))))))
/-- as gwH, over any ledger: the holder's dict and the list of times are written anew -/
theorem gwHn {x D f1 c1 a1 tup fA cA cT lt lS lU lF : Addr} {n1 q1 nA qA : Str} {pm1 ctv1 docA pmA ctvA v : Value} {oc1 o1 ocA oT : Obj} {vs1 vsA : Array Value} {tq1 tqA t1 t2 t3 t4 t5 t6 tcc thc ttop tt tm : Tok} {t cc hc top most : Int} {ended : Bool}
    (B : Below callerA base [] h₀) (F : Fr h₀ L s.heap m) (X : (hd.heap_39 w.params).In h₀) (XB : (hd.heap_39 w.params).In base) (T : Top p loose mean mg mb h₀) (TB : Top p loose mean mg mb base)
    (N : News h₀ L s.heap news) (m1 : (tup, ({ cls := .type "tuple", data := .seq #[.ref fA, .int most tm] } : Obj)) ∈ news) (m2 : (fA, fnMade nA qA ansArgs ansBody ansScope [("times", cT)] docA pmA cA ctvA) ∈ news) (m3 : (cT, oT) ∈ news) (hT : oT.data = .cell (some (.ref lt)))
    (m4 : (lt, W.listOf #[.int t tt] 0) ∈ news) (m5 : (x, instObj 38 D) ∈ news) (m6 : (D, dictOf (hoD w.params t1 t2 t3 t4 t5 t6 tcc thc ttop lS lU lF cc hc top) 6) ∈ news) (m7 : (f1, kla_obj n1 q1 lam1.1 lam1.2.1 lam1.2.2 [("value", a1)] pm1 c1 ctv1) ∈ news)
    (m8 : (c1, oc1) ∈ news) (m9 : (a1, o1) ∈ news) (m10 : (cA, ocA) ∈ news)
    (hcv1 : oc1.data = .fields vs1) (hcq1 : vs1[1]? = some (.str q1 tq1)) (hcvA : ocA.data = .fields vsA) (hcqA : vsA[1]? = some (.str qA tqA))
    (hv1 : o1.data = .cell (some v)) (hh : handedIn v = true) (ht : 0 ≤ t) (he : decide (most - cc ≤ t) = ended) (C1 : CodeHd base 143 141) (C : CodeHd base 138 134)
    (W1 : Wo D news r1) (W2 : Wo lt r1 rest) (w1 : ∀ p ∈ (x, oc1) :: (fA, oc1) :: (cA, ocA) :: (cT, oc1) :: (tup, oc1) :: (f1, oc1) :: (c1, oc1) :: (a1, oc1) :: [], p.1 ≠ D ∧ p.1 ≠ lt) (w2 : @Ne Nat lt D)
    (h : ∀ (e2 D2 lt2 te2 : Addr) (u1 u2 u3 tv : Tok) h' tk cc' tcc' hc' thc' t1 t2 t3 t4 t5 t6 ttop, Fr h₀ L h' m →
      News h₀ L h' ((e2, excO 66 D2 te2 .none .none) :: (D2, dictOf (exD w.params u1 u2 u3 (.bytes (resB ended).toArray tv) lt2 ended) 3) ::
        (D, dictOf (hoD w.params t1 t2 t3 t4 t5 t6 tcc' thc' ttop lS lU lF cc' hc' top) 6) :: rest) →
      GnNe e2 ((D, instObj 0 0) :: rest) → AllLt D2 ((D, instObj 0 0) :: rest) → Q (.ref e2) { s with heap := h', toks := tk }) :
    wpAny (model PySem.Challenge.rw_pq0676_01.row.prog w) (callerA.deeper (envA cn nn mm L a cd cl)) (call (.ref 97) [.ref x, .ref f1, .ref tup]) Q E s := by
  have k1 : ∀ p ∈ rest, p ∈ news ∧ p.1 ≠ D ∧ p.1 ≠ lt := fun p hp => ⟨(W1.sub _ (W2.sub _ hp).1).1, (W1.sub _ (W2.sub _ hp).1).2, (W2.sub _ hp).2⟩
  have all := fun {b : Addr} {o : Obj} (hb : (b, o) ∈ (x, oc1) :: (fA, oc1) :: (cA, ocA) :: (cT, oc1) :: (tup, oc1) :: (f1, oc1) :: (c1, oc1) :: (a1, oc1) :: []) => w1 _ hb
  have d3 : OwnOff ((f1, kla_obj n1 q1 lam1.1 lam1.2.1 lam1.2.2 [("value", a1)] pm1 c1 ctv1) :: (c1, oc1) :: (a1, o1) :: rest) [D, lt] := by
    have two : ∀ {b : Addr}, b ≠ D ∧ b ≠ lt → ∀ d ∈ [D, lt], b ≠ d := fun h d hd => by
      rcases List.mem_cons.mp hd with rfl | hd
      · exact h.1
      · rw [List.mem_singleton.mp hd]; exact h.2
    refine ownOff_cons (two (all (b := f1) (o := oc1) (by simp))) (ownOff_cons (two (all (b := c1) (o := oc1) (by simp))) (ownOff_cons (two (all (b := a1) (o := oc1) (by simp))) fun p hp => two (k1 p hp).2))
  have a := fun (b : Addr) (o : Obj) (hb : (b, o) ∈ (x, oc1) :: (fA, oc1) :: (cA, ocA) :: (cT, oc1) :: (tup, oc1) :: (f1, oc1) :: (c1, oc1) :: (a1, oc1) :: []) => w1 _ hb
  refine gwH (rest := rest) B F X XB T TB (News.less N (memIn m7 (memIn m8 (memIn m9 (memIn m1 (memIn m5 (memIn m6 (memIn m4 (memIn m2 (memIn m10 (memIn m3 fun p hp => (k1 p hp).1))))))))))) hcv1 hcq1 hcvA hcqA hT hv1 hh ht he C1 C
    ⟨(a x oc1 (by simp)).1, w2, (a fA oc1 (by simp)).1, (a cA ocA (by simp)).1, (a cT oc1 (by simp)).1, (a tup oc1 (by simp)).1, True.intro⟩
    ⟨(a x oc1 (by simp)).2, (a fA oc1 (by simp)).2, (a cA ocA (by simp)).2, (a cT oc1 (by simp)).2, (a tup oc1 (by simp)).2, True.intro⟩ d3 ?_
  intro e2 D2 lt2 te2 u1 u2 u3 tv h' tk cc' tcc' hc' thc' t1 t2 t3 t4 t5 t6 ttop F' N' q1 q2
  refine h e2 D2 lt2 te2 u1 u2 u3 tv h' tk cc' tcc' hc' thc' t1 t2 t3 t4 t5 t6 ttop F' (News.less N' ?_) ⟨q1.2.1, q1.2.2.2.2.2⟩ ⟨q2.2.1, q2.2.2.2.2.2⟩
  exact headIn (headIn (memIn (.tail _ (.head _)) (tailIn (tailIn (tailIn (tailIn (tailIn selfIn)))))))
/-- as gwHn, its two ways apart -/
theorem gwHm {x D f1 c1 a1 tup fA cA cT lt lS lU lF : Addr} {n1 q1 nA qA : Str} {pm1 ctv1 docA pmA ctvA v : Value} {oc1 o1 ocA oT : Obj} {vs1 vsA : Array Value} {tq1 tqA t1 t2 t3 t4 t5 t6 tcc thc ttop tt tm : Tok} {t cc hc top most : Int}
    (B : Below callerA base [] h₀) (F : Fr h₀ L s.heap m) (X : (hd.heap_39 w.params).In h₀) (XB : (hd.heap_39 w.params).In base) (T : Top p loose mean mg mb h₀) (TB : Top p loose mean mg mb base)
    (N : News h₀ L s.heap news) (m1 : (tup, ({ cls := .type "tuple", data := .seq #[.ref fA, .int most tm] } : Obj)) ∈ news) (m2 : (fA, fnMade nA qA ansArgs ansBody ansScope [("times", cT)] docA pmA cA ctvA) ∈ news) (m3 : (cT, oT) ∈ news) (hT : oT.data = .cell (some (.ref lt)))
    (m4 : (lt, W.listOf #[.int t tt] 0) ∈ news) (m5 : (x, instObj 38 D) ∈ news) (m6 : (D, dictOf (hoD w.params t1 t2 t3 t4 t5 t6 tcc thc ttop lS lU lF cc hc top) 6) ∈ news) (m7 : (f1, kla_obj n1 q1 lam1.1 lam1.2.1 lam1.2.2 [("value", a1)] pm1 c1 ctv1) ∈ news)
    (m8 : (c1, oc1) ∈ news) (m9 : (a1, o1) ∈ news) (m10 : (cA, ocA) ∈ news)
    (hcv1 : oc1.data = .fields vs1) (hcq1 : vs1[1]? = some (.str q1 tq1)) (hcvA : ocA.data = .fields vsA) (hcqA : vsA[1]? = some (.str qA tqA))
    (hv1 : o1.data = .cell (some v)) (hh : handedIn v = true) (ht : 0 ≤ t) (C1 : CodeHd base 143 141) (C : CodeHd base 138 134)
    (W1 : Wo D news r1) (W2 : Wo lt r1 rest) (w1 : ∀ p ∈ (x, oc1) :: (fA, oc1) :: (cA, ocA) :: (cT, oc1) :: (tup, oc1) :: (f1, oc1) :: (c1, oc1) :: (a1, oc1) :: [], p.1 ≠ D ∧ p.1 ≠ lt) (w2 : @Ne Nat lt D)
    (kT : most - cc ≤ t → ∀ (e2 D2 lt2 te2 : Addr) (u1 u2 u3 tv : Tok) h' tk cc' tcc' hc' thc' t1 t2 t3 t4 t5 t6 ttop, Fr h₀ L h' m →
      News h₀ L h' ((e2, excO 66 D2 te2 .none .none) :: (D2, dictOf (exD w.params u1 u2 u3 (.bytes (resB true).toArray tv) lt2 true) 3) ::
        (D, dictOf (hoD w.params t1 t2 t3 t4 t5 t6 tcc' thc' ttop lS lU lF cc' hc' top) 6) :: rest) →
      GnNe e2 ((D, instObj 0 0) :: rest) → AllLt D2 ((D, instObj 0 0) :: rest) → Q (.ref e2) { s with heap := h', toks := tk })
    (kF : ¬ most - cc ≤ t → ∀ (e2 D2 lt2 te2 : Addr) (u1 u2 u3 tv : Tok) h' tk cc' tcc' hc' thc' t1 t2 t3 t4 t5 t6 ttop, Fr h₀ L h' m →
      News h₀ L h' ((e2, excO 66 D2 te2 .none .none) :: (D2, dictOf (exD w.params u1 u2 u3 (.bytes (resB false).toArray tv) lt2 false) 3) ::
        (D, dictOf (hoD w.params t1 t2 t3 t4 t5 t6 tcc' thc' ttop lS lU lF cc' hc' top) 6) :: rest) →
      GnNe e2 ((D, instObj 0 0) :: rest) → AllLt D2 ((D, instObj 0 0) :: rest) → Q (.ref e2) { s with heap := h', toks := tk }) :
    wpAny (model PySem.Challenge.rw_pq0676_01.row.prog w) (callerA.deeper (envA cn nn mm L a cd cl)) (call (.ref 97) [.ref x, .ref f1, .ref tup]) Q E s := by
  by_cases hc : most - cc ≤ t
  · exact gwHn B F X XB T TB N m1 m2 m3 hT m4 m5 m6 m7 m8 m9 m10 hcv1 hcq1 hcvA hcqA hv1 hh ht (decide_eq_true hc) C1 C W1 W2 w1 w2 (kT hc)
  · exact gwHn B F X XB T TB N m1 m2 m3 hT m4 m5 m6 m7 m8 m9 m10 hcv1 hcq1 hcvA hcqA hv1 hh ht (decide_eq_false hc) C1 C W1 W2 w1 w2 (kF hc)
end

end
section
/-- the two values compare as the same -/
def SameV (prog : Program) (w : World) (v v' : Value) : Prop := ∀ (A : Around) (E : Value → Shared → Prop) (s : Shared) (Q : Value → Shared → Prop), Q (.bool false) s → wpAny (model prog w) A (compareOp .NotEq v v') Q E s
theorem same_use {prog : Program} {w : World} {v v' : Value} {A : Around} {E : Value → Shared → Prop} {s : Shared} {Q : Value → Shared → Prop} (h : SameV prog w v v') (k : Q (.bool false) s) : wpAny (model prog w) A (compareOp .NotEq v v') Q E s := h A E s Q k
theorem same_bytes {prog : Program} {w : World} (b : Array UInt8) (t u : Tok) : SameV prog w (.bytes b t) (.bytes b u) := fun A E s Q h => ne_bytes (by rw [bne_self_eq_false]; exact h)
theorem same_none {prog : Program} {w : World} : SameV prog w .none .none := fun A E s Q h => EqNone.ne_none_none h
theorem same_int {prog : Program} {w : World} (k : Int) (t u : Tok) : SameV prog w (.int k t) (.int k u) := fun A E s Q h => ne_int (by rw [bne_self_eq_false]; exact h)

/-- one of the four values of the law's menu -/
theorem sub_four {prog : Program} {w : World} {A : Around} {E : Value → Shared → Prop} {s : Shared} {h₀ : Heap} {L l : Addr} {news : List (Addr × Obj)} {value slice : PySem.Expr} {b1 b2 : Array UInt8} {u1 u2 u3 : Tok} {n : Int} {k : Int} {u : Tok} {Q : Value → Shared → Prop} (N : News h₀ L s.heap news) (hm : (l, W.listOf #[.bytes b1 u1, .none, .int n u2, .bytes b2 u3] 0) ∈ news)
    (h0 : 0 ≤ k) (h1 : k < 4) (h : ∀ v, SameV prog w v v → handedIn v = true → Q v s)
    (hs : subscripted slice false (.ref l) (.int k u) = operate [.ref l, .int k u] (getItem (.ref l) (.int k u)) := by with_unfolding_all rfl) :
    wpAny (model prog w) A (subscriptTail value slice (.ref l) (.int k u)) Q E s := by
  have hl : s.heap.IsList l #[.bytes b1 u1, .none, .int n u2, .bytes b2 u3] := ⟨_, (N _ hm).1, rfl, 0, rfl⟩
  refine tail_any hl.typeIs slot_list_getitem.lookup ?_ hs
  have hk : k = 0 ∨ k = 1 ∨ k = 2 ∨ k = 3 := by omega
  rcases hk with rfl | rfl | rfl | rfl
  · exact wpAny_getItem_list hl (by omega) (by omega) rfl (h _ (same_bytes _ _ _) rfl)
  · exact wpAny_getItem_list hl (by omega) (by omega) rfl (h _ same_none rfl)
  · exact wpAny_getItem_list hl (by omega) (by omega) rfl (h _ (same_int _ _ _) rfl)
  · exact wpAny_getItem_list hl (by omega) (by omega) rfl (h _ (same_bytes _ _ _) rfl)
theorem t4_lo (a : Int) : 0 ≤ 1 + a.fmod 2 := by
  rw [Int.fmod_eq_emod_of_nonneg _ (by omega)]
  have := Int.emod_nonneg a (show (2 : Int) ≠ 0 by omega)
  omega

end
section
local macro_rules | `(tactic| walk_at "mine memr") => `(tactic| first | with_reducible exact List.Mem.head _ | (with_reducible refine List.Mem.tail _ ?_; walk_at "mine memr"))
local macro_rules | `(tactic| k_memK) => `(tactic| walk_at "mine memr")
local macro_rules | `(tactic| k_lt $h) => `(tactic| (replace $h := allLt_of $h))
local macro_rules | `(tactic| k_ne) => `(tactic| (refine neN ?_; (try dsimp only); first | assumption | exact (Ne.symm (by assumption)) | exact Nat.ne_of_lt (by assumption) | exact Nat.ne_of_gt (by assumption) | exact allLt_ne (by assumption) (by k_memK) | exact (allLt_ne (by assumption) (by k_memK)).symm | exact allNe_mem (by assumption) (by k_memK) | exact (allNe_mem (by assumption) (by k_memK)).symm | exact allLt_ne2 (by assumption) (by assumption) (by k_memK) | exact (allLt_ne2 (by assumption) (by assumption) (by k_memK)).symm | exact allLt_ne1 (by assumption) (by k_memK) | exact (allLt_ne1 (by assumption) (by k_memK)).symm | exact neAll_mem (by assumption) (by k_memK) | exact (neAll_mem (by assumption) (by k_memK)).symm | exact offHead (by assumption) (by k_memK) | exact (offHead (by assumption) (by k_memK)).symm))
local macro_rules | `(tactic| walk_at "mine in") => `(tactic| (intro p9 h9; (repeat' (first | exact h9 | exact List.mem_append_left _ h9 | exact List.mem_append_right _ h9 | refine List.Mem.tail _ ?_)); done))
local macro_rules | `(tactic| k_all) => `(tactic| first | exact List.forall_mem_nil _ | (with_reducible refine List.forall_mem_cons.mpr ⟨?a, ?b⟩; (case a => k_ne); (case b => k_all)) | exact OwnOff.ne (by assumption) (by k_memK) | exact ltTl (by assumption) (by walk_at "mine in") | exact neTl (by assumption) (by walk_at "mine in") | exact ltTl2 (by assumption) (by assumption) (by walk_at "mine in"))
local macro_rules | `(tactic| walk_at "mine led") => `(tactic| first | (refine List.forall_mem_cons.mpr ⟨by k_memK, ?_⟩; walk_at "mine led") | exact List.forall_mem_nil _ | (refine List.forall_mem_append.mpr ⟨?y1, ?y2⟩; (case y1 => walk_at "mine led"); (case y2 => walk_at "mine led")) | walk_at "mine in")
local macro_rules | `(tactic| walk_at "mine lts") => `(tactic| first | assumption | exact ltSuf (by assumption) (by walk_at "mine in") | (refine allLt_cons (by assumption) (by k_memK) ?_; walk_at "mine lts"))
local macro_rules | `(tactic| walk_at "mine nes") => `(tactic| first | assumption | exact allNe_nil | exact neSuf (by assumption) (by walk_at "mine in") | exact ltSufNe (by assumption) (by walk_at "mine in") | (refine allNe_one (by k_ne) ?_; walk_at "mine nes"))
local macro_rules | `(tactic| walk_at "mine map") => `(tactic| first | exact List.forall_mem_nil _ | (refine List.forall_mem_cons.mpr ⟨rfl, ?_⟩; walk_at "mine map"))

set_option maxRecDepth 100000 in
set_option maxHeartbeats 4000000 in
theorem tb_ok {w : World} {base h₀ : Heap} {L a : Addr} {m mg mb : Str → Option Value} {cn : Str} {nn : List (Str × NameKind)} {mm : List (Str × Const)} {cd : Value} {cl : List (Str × Addr)} {s : Shared} {p : Program} {loose : List Str} {mean : ExcName → Option Value}
    {rest : List (Addr × Obj)} {x D lS lU lF : Addr} {t1 t2 t3 t4 t5 t6 tcc thc ttop t7 ta tb tc td : Tok} {cc hc top d : Int} {Q : Value → Shared → Prop} {E : Value → Shared → Prop}
    (B : Below callerA base [] h₀) (F : Fr h₀ L s.heap m) (X : (hd.heap_39 w.params).In h₀) (T : Top p loose mean mg mb h₀)
    (N : News h₀ L s.heap ((D, dictOf (hoD w.params t1 t2 t3 t4 t5 t6 tcc thc ttop lS lU lF cc hc top) 6) :: (x, instObj 38 D) :: (lU, W.listOf #[] 0) :: (lF, W.listOf #[.int 7 t7] 0) :: rest)) (O : OwnOff rest [D]) (d1 : GnNe D ((x, instObj 0 0) :: (lU, instObj 0 0) :: (lF, instObj 0 0) :: []))
    (h : ∀ (l : Addr) (tcc thc ttop : Tok) h' tk, Fr h₀ L h' m →
      News h₀ L h' ((l, W.listOf #[] 0) :: (D, dictOf (hoD w.params t1 t2 t3 t4 t5 t6 tcc thc ttop lS lU lF d 0 0) 6) :: (x, instObj 38 D) :: (lU, W.listOf #[] 0) :: (lF, W.listOf #[.int 7 t7] 0) :: rest) → AllLt l ((D, instObj 0 0) :: (x, instObj 0 0) :: (lU, instObj 0 0) :: (lF, instObj 0 0) :: rest) → Q (.ref l) { s with heap := h', toks := tk }) :
    wpAny (model PySem.Challenge.rw_pq0676_01.row.prog w) (callerA.deeper (envA cn nn mm L a cd cl)) (call (.ref 104) [.ref x, .int 1 ta, .int d tb, .int 0 tc, .int 0 td]) Q E s := by
  have hMk := kstMark
  revert X
  k_fill
  intro X
  w_strict (w_top off; k_steps; (all_goals (exact h _ _ _ _ _ _ (by assumption) (News.less (by assumption) (by walk_at "mine led")) (by walk_at "mine lts"))))

end
section
local macro_rules | `(tactic| walk_at "mine memr") => `(tactic| first | with_reducible exact List.Mem.head _ | (with_reducible refine List.Mem.tail _ ?_; walk_at "mine memr"))
local macro_rules | `(tactic| k_memK) => `(tactic| walk_at "mine memr")
local macro_rules | `(tactic| k_lt $h) => `(tactic| (replace $h := allLt_of $h))
local macro_rules | `(tactic| k_ne) => `(tactic| (refine neN ?_; (try dsimp only); first | assumption | exact (Ne.symm (by assumption)) | exact Nat.ne_of_lt (by assumption) | exact Nat.ne_of_gt (by assumption) | exact allLt_ne (by assumption) (by k_memK) | exact (allLt_ne (by assumption) (by k_memK)).symm | exact allNe_mem (by assumption) (by k_memK) | exact (allNe_mem (by assumption) (by k_memK)).symm | exact allLt_ne2 (by assumption) (by assumption) (by k_memK) | exact (allLt_ne2 (by assumption) (by assumption) (by k_memK)).symm | exact allLt_ne1 (by assumption) (by k_memK) | exact (allLt_ne1 (by assumption) (by k_memK)).symm | exact neAll_mem (by assumption) (by k_memK) | exact (neAll_mem (by assumption) (by k_memK)).symm | exact offHead (by assumption) (by k_memK) | exact (offHead (by assumption) (by k_memK)).symm))
local macro_rules | `(tactic| walk_at "mine in") => `(tactic| (intro p9 h9; (repeat' (first | exact h9 | exact List.mem_append_left _ h9 | exact List.mem_append_right _ h9 | refine List.Mem.tail _ ?_)); done))
local macro_rules | `(tactic| k_all) => `(tactic| first | exact List.forall_mem_nil _ | (with_reducible refine List.forall_mem_cons.mpr ⟨?a, ?b⟩; (case a => k_ne); (case b => k_all)) | exact OwnOff.ne (by assumption) (by k_memK) | exact ltTl (by assumption) (by walk_at "mine in") | exact neTl (by assumption) (by walk_at "mine in") | exact ltTl2 (by assumption) (by assumption) (by walk_at "mine in"))
local macro_rules | `(tactic| walk_at "mine led") => `(tactic| first | (refine List.forall_mem_cons.mpr ⟨by k_memK, ?_⟩; walk_at "mine led") | exact List.forall_mem_nil _ | (refine List.forall_mem_append.mpr ⟨?y1, ?y2⟩; (case y1 => walk_at "mine led"); (case y2 => walk_at "mine led")) | walk_at "mine in")
local macro_rules | `(tactic| walk_at "mine lts") => `(tactic| first | assumption | exact ltSuf (by assumption) (by walk_at "mine in") | (refine allLt_cons (by assumption) (by k_memK) ?_; walk_at "mine lts"))
local macro_rules | `(tactic| walk_at "mine nes") => `(tactic| first | assumption | exact allNe_nil | exact neSuf (by assumption) (by walk_at "mine in") | exact ltSufNe (by assumption) (by walk_at "mine in") | (refine allNe_one (by k_ne) ?_; walk_at "mine nes"))
local macro_rules | `(tactic| walk_at "mine map") => `(tactic| first | exact List.forall_mem_nil _ | (refine List.forall_mem_cons.mpr ⟨rfl, ?_⟩; walk_at "mine map"))

local macro_rules | `(tactic| walk_at "execs cons") => `(tactic| ((with_reducible show wpAny _ _ (execs [_, _] (envOfC _ _ _ _ _)) _ _ _); refine Hdn.out ?_))
local macro_rules | `(tactic| walk_at "call ref") => `(tactic| (k_here; (with_reducible show wpAny _ _ (call (Value.ref 104) _) _ _ _); k_dflt (refine' tb_ok ?bB ?bF ?bX ?bT ?bN ?bO ?bd ?_; (case bO => assumption); (case bB => assumption); (case bF => k_asm); (case bX => assumption); (case bT => assumption); (case bN => exact News.less (by k_asm) (by walk_at "mine led")); (case bd => walk_at "mine nes"); k_whole); intro l' tcc' thc' ttop' h' tk' F' N' l1'; (try k_sweep)))

set_option maxRecDepth 100000 in
set_option maxHeartbeats 4000000 in
theorem tail10 {w : World} {base h₀ : Heap} {L fa : Addr} {m mg mb : Str → Option Value} {s : Shared} {p : Program} {loose : List Str} {mean : ExcName → Option Value}
    {news rest : List (Addr × Obj)} {x D lS lU lF : Addr} {t1 t2 t3 t4 t5 t6 tcc thc ttop t7 td : Tok} {cc hc top d : Int} {Q : Flow → Shared → Prop} {E : Value → Shared → Prop}
    (B : Below callerA base [] h₀) (F : Fr h₀ L s.heap m) (X : (hd.heap_39 w.params).In h₀) (T : Top p loose mean mg mb h₀) (hm : ∀ p ∈ [(Str.ofString "holder", Value.ref x), (Str.ofString "depth", Value.int d td)], m p.1 = some p.2)
    (N : News h₀ L s.heap news) (m0 : (x, instObj 38 D) ∈ news) (Wd : Wo D news rest) (mD : (D, dictOf (hoD w.params t1 t2 t3 t4 t5 t6 tcc thc ttop lS lU lF cc hc top) 6) ∈ news) (mx : (x, instObj 38 D) ∈ rest) (mU : (lU, W.listOf #[] 0) ∈ rest) (mF : (lF, W.listOf #[.int 7 t7] 0) ∈ rest) (C : CodeHd base 143 141)
    (k : ∀ (tcc thc ttop : Tok) h' tk, Fr h₀ L h' m → News h₀ L h' ((D, dictOf (hoD w.params t1 t2 t3 t4 t5 t6 tcc thc ttop lS lU lF d 0 0) 6) :: rest) →
      Hdn (wpAny (model PySem.Challenge.rw_pq0676_01.row.prog w) (callerA.deeper (envOfC (Str.ofString "law") lawScope L fa (.ref 143))) (execs (turnFrom 11) (envOfC (Str.ofString "law") lawScope L fa (.ref 143))) Q E { s with heap := h', toks := tk })) :
    Hdn (wpAny (model PySem.Challenge.rw_pq0676_01.row.prog w) (callerA.deeper (envOfC (Str.ofString "law") lawScope L fa (.ref 143))) (execs (turnFrom 10) (envOfC (Str.ofString "law") lawScope L fa (.ref 143))) Q E s) := by
  refine ⟨?_⟩
  have hMk := kstMark
  have O : OwnOff rest [D] := fun q hq b hb => by rw [List.mem_singleton.mp hb]; exact (Wd.sub q hq).2
  have d1 : GnNe D ((x, instObj 0 0) :: (lU, instObj 0 0) :: (lF, instObj 0 0) :: []) := ⟨(Wd.sub _ mx).2, (Wd.sub _ mU).2, (Wd.sub _ mF).2, True.intro⟩
  have N₁ := News.less N (memIn mD (memIn (Wd.sub _ mx).1 (memIn (Wd.sub _ mU).1 (memIn (Wd.sub _ mF).1 fun q hq => (Wd.sub q hq).1))))
  have F₁ := F
  rw [mapL_of hm] at F₁
  clear N Wd mD mx mU mF F
  revert X
  k_fill
  intro X
  dsimp only [turnFrom, lawScope, turnBody, lawFn, PySem.Challenge.pw_pq0676_01, List.reverse, List.reverseAux, List.drop] at k ⊢
  w_strict (w_top off; k_steps)
  refine (k _ _ _ _ _ (by rw [mapL_of hm]; k_asm) (News.less (by k_asm) (by walk_at "mine led")))

end
section
local macro_rules | `(tactic| walk_at "mine memr") => `(tactic| first | with_reducible exact List.Mem.head _ | (with_reducible refine List.Mem.tail _ ?_; walk_at "mine memr"))
local macro_rules | `(tactic| k_memK) => `(tactic| walk_at "mine memr")
local macro_rules | `(tactic| k_lt $h) => `(tactic| (replace $h := allLt_of $h))
local macro_rules | `(tactic| k_ne) => `(tactic| (refine neN ?_; (try dsimp only); first | assumption | exact (Ne.symm (by assumption)) | exact Nat.ne_of_lt (by assumption) | exact Nat.ne_of_gt (by assumption) | exact allLt_ne (by assumption) (by k_memK) | exact (allLt_ne (by assumption) (by k_memK)).symm | exact allNe_mem (by assumption) (by k_memK) | exact (allNe_mem (by assumption) (by k_memK)).symm | exact allLt_ne2 (by assumption) (by assumption) (by k_memK) | exact (allLt_ne2 (by assumption) (by assumption) (by k_memK)).symm | exact allLt_ne1 (by assumption) (by k_memK) | exact (allLt_ne1 (by assumption) (by k_memK)).symm | exact neAll_mem (by assumption) (by k_memK) | exact (neAll_mem (by assumption) (by k_memK)).symm | exact offHead (by assumption) (by k_memK) | exact (offHead (by assumption) (by k_memK)).symm))
local macro_rules | `(tactic| walk_at "mine in") => `(tactic| (intro p9 h9; (repeat' (first | exact h9 | exact List.mem_append_left _ h9 | exact List.mem_append_right _ h9 | refine List.Mem.tail _ ?_)); done))
local macro_rules | `(tactic| k_all) => `(tactic| first | exact List.forall_mem_nil _ | (with_reducible refine List.forall_mem_cons.mpr ⟨?a, ?b⟩; (case a => k_ne); (case b => k_all)) | exact OwnOff.ne (by assumption) (by k_memK) | exact ltTl (by assumption) (by walk_at "mine in") | exact neTl (by assumption) (by walk_at "mine in") | exact ltTl2 (by assumption) (by assumption) (by walk_at "mine in"))
local macro_rules | `(tactic| walk_at "mine led") => `(tactic| first | (refine List.forall_mem_cons.mpr ⟨by k_memK, ?_⟩; walk_at "mine led") | exact List.forall_mem_nil _ | (refine List.forall_mem_append.mpr ⟨?y1, ?y2⟩; (case y1 => walk_at "mine led"); (case y2 => walk_at "mine led")) | walk_at "mine in")
local macro_rules | `(tactic| walk_at "mine lts") => `(tactic| first | assumption | exact ltSuf (by assumption) (by walk_at "mine in") | (refine allLt_cons (by assumption) (by k_memK) ?_; walk_at "mine lts"))
local macro_rules | `(tactic| walk_at "mine nes") => `(tactic| first | assumption | exact allNe_nil | exact neSuf (by assumption) (by walk_at "mine in") | exact ltSufNe (by assumption) (by walk_at "mine in") | (refine allNe_one (by k_ne) ?_; walk_at "mine nes"))
local macro_rules | `(tactic| walk_at "mine map") => `(tactic| first | exact List.forall_mem_nil _ | (refine List.forall_mem_cons.mpr ⟨rfl, ?_⟩; walk_at "mine map"))

local macro_rules | `(tactic| walk_at "call ref") => `(tactic| (k_here; (with_reducible show wpAny _ _ (call (Value.ref 66) _) _ _ _); k_dflt (refine' call_exc (C := 66) (N₁ := 65) (fI := 63) ?F ?X ?N ?q ?f ?z ?_; (case F => k_asm); (case X => k_asm); (case N => k_asm); (case q => kernel_rfl); (case f => k_is); (case z => exact Nat.le_of_ble_eq_true rfl); k_whole); intro e' t' h' F' N' hn'; (replace hn' := gnNe_of hn'); (try k_sweep)))
local macro_rules | `(tactic| walk_at "setAttr ref") => `(tactic| (k_here; k_dflt (first | (refine' set_exc0 (C := 66) ?F ?X ?N ?U ?s ?p ?t ?_; (case N => k_asm); (case U => k_updF); (case F => k_asm); (case X => k_asm); (case s => k_is); (case p => kernel_rfl); (case t => k_is); k_whole; intro h' D' F' N' l1; (try dsimp only at N'); (try k_lt l1); (try k_sweep)) | (refine' set_excN (C := 66) ?F ?X ?N ?h1 ?h2 ?s ?p ?t ?l ?e ?U ?z ?_; (case N => k_asm); (case h1 => k_memK); (case h2 => k_memK); (case F => k_asm); (case X => k_asm); (case s => k_is); (case p => kernel_rfl); (case t => k_is); (case l => exact rfl); (case e => k_put); (case U => k_upd); (case z => exact Nat.le_of_ble_eq_true rfl); k_whole; intro h' F' N'; (try k_sweep)))))
local macro_rules | `(tactic| walk_at "getAttr ref") => `(tactic| (k_here; k_dflt (refine' get_excN (C := 66) ?F ?X ?N ?h1 ?h2 ?s ?p ?t ?hh ?ha ?hn ?l ?v ?_; (case N => k_asm); (case h1 => k_memK); (case h2 => k_memK); (case F => k_asm); (case X => k_asm); (case s => k_is); (case p => k_is); (case t => kernel_rfl); (case hh => k_is); (case ha => k_is); (case hn => k_is); (case l => k_get); (case v => first | assumption | k_handed); k_whole)))
local macro_rules | `(tactic| walk_at "exec Raise some none") => `(tactic| (k_here; k_dflt (refine' raise_open ?_)))
local macro_rules | `(tactic| walk_at "raiseTail ref") => `(tactic| (k_here; k_dflt (first | (refine' raise_exc0 (C := 66) ?hh ?F ?X ?N ?c ?hm ?_; (case hh => exact rfl); (case F => k_asm); (case X => k_asm); (case N => k_asm); (case c => kernel_rfl); (case hm => k_memK); k_whole) | (refine' raise_excH (C := 66) ?hh ?F ?X ?N ?c ?hm ?ne ?h0 ?U ?_; (case hh => exact rfl); (case F => k_asm); (case X => k_asm); (case N => k_asm); (case c => kernel_rfl); (case hm => k_memK); (case ne => k_ne); (case h0 => k_memK); (case U => k_upd); k_whole; intro h' F' N'; (try k_sweep)))))
local macro_rules | `(tactic| walk_at "mine wo") => `(tactic| (first | (refine' Wo.drop (Wo.nil ?wa); (case wa => k_all)) | (refine' Wo.keep ?wa ?wb; (case wa => k_ne); (case wb => walk_at "mine wo"))))
local macro_rules | `(tactic| walk_at "leaving ref") => `(tactic| (k_here; k_dflt (first | (refine' leave_next ?R ?K ?F ?f ?_; (case R => assumption); (case K => assumption); (case F => assumption); (case f => exact rfl); k_whole; intro h' T' R') | (refine' leave_firstW ?K ?F ?N ?hm ?hs ?f ?k ?_; (case F => k_asm); (case N => k_asm); (case K => assumption); (case hm => k_memK); (case hs => walk_at "mine wo"); (case f => exact rfl); (case k => exact rfl); k_whole; intro h' T' R'))))
local macro_rules | `(tactic| walk_at "noteFrame ref") => `(tactic| (k_here; k_dflt (refine' catch_as (C := 66) ?R ?F ?K ?XB ?TB ?D ?T0 ?kcn ?kcx ?_; (case R => assumption); (case F => assumption); (case K => assumption); (case XB => assumption); (case TB => assumption); (case D => assumption); (case T0 => first | assumption | exact KtsTurn.refl); (case kcn => k_is); (case kcx => kernel_rfl); k_whole); intro h' g' T' tk' T1' F' N' K' X' P' D'; (try k_lift K'); (try k_sweep)))
local macro_rules | `(tactic| walk_at "assign Tuple") => `(tactic| (k_here; (with_reducible show wpAny _ _ (assign (Expr.Tuple _ _ _) _ (Value.ref _)) _ _ _); k_dflt (refine' unpackH ?uF ?uN ?um ?uh ?ue ?un ?us ?_; (case uF => k_asm); (case uN => k_asm); (case um => k_memK); (case uh => exact rfl); (case ue => k_memK); (case un => exact rfl); (case us => exact rfl); k_whole); intro h' F' N'; (try k_sweep)))
local macro_rules | `(tactic| walk_at "exec While Compare cons nil") => `(tactic| (k_here; k_dflt (refine' handled_loop (fo := fnMade _ _ _ _ _ [(_, _)] _ _ _ _) ?lO ?lh rfl ?lE ?lF ?l1 ?l2 ?l3 ?l4 ?l5 ?lN ?lT0 ?lB ?lX ?lT ?lD ?lv ?lt0 ?le ?lturn; (case lO => assumption); (case lh => exact rfl); (case lF => k_asm); (case l1 => exact rfl); (case l2 => exact rfl); (case l3 => exact rfl); (case l4 => exact rfl); (case l5 => exact rfl); (case lN => exact News.less (by k_asm) (by walk_at "mine led")); (case lB => assumption); (case lX => assumption); (case lT => assumption); (case lD => assumption); (case lT0 => first | assumption | exact KtsTurn.refl); (case lv => assumption); (case lt0 => assumption); (case le => assumption); (case lE => first | passes_own | with_unfolding_all passes_own); k_whole); intro n' g' h' tk' u' v' tr' ttr' t' tt' cc' tcc' hc' thc' t1' t2' t3' t4' t5' t6' ttop' T' F' N' B' X' T1' D' hv' ht' he' hn'; dsimp only [ledH, mapH] at N' F'; (try k_sweep)))
local macro_rules | `(tactic| walk_at "WhlIf") => `(tactic| (refine whlIf_split ?_ ?_ <;> intro hc9))
local macro_rules | `(tactic| walk_at "WhlEnd") => `(tactic| (k_dflt (first | (refine' handled_next ?eF ?e1 ?e2 ?e3 ?e4 ?e5 ?eN ?eT0 ?eB ?eX ?eT ?eD ?ev ?et ?ee ?en; (case eF => k_asm); (case e1 => exact rfl); (case e2 => exact rfl); (case e3 => exact rfl); (case e4 => exact rfl); (case e5 => exact rfl); (case eN => exact News.less (by k_asm) (by walk_at "mine led")); (case eT0 => assumption); (case eB => assumption); (case eX => assumption); (case eT => assumption); (case eD => assumption); (case ev => first | assumption | k_handed); (case et => ((try simp only [getD_one] at *); omega)); (case ee => walk_at "mine dec"); (case en => ((try simp only [getD_one] at *); omega))) | (with_reducible show WhlEnd _ _ _ (Flow.ret _) _; dsimp only [WhlEnd]))))
local macro_rules | `(tactic| walk_at "mine dec") => `(tactic| ((refine Eq.trans (decide_eq_decide.mpr ?_) (by assumption)); (try simp only [getD_one] at *); omega))
local macro_rules | `(tactic| walk_at "call ref") => `(tactic| (k_here; (with_reducible show wpAny _ _ (call (Value.ref 97) _) _ _ _); k_dflt (refine wpAny_call ?_; refine' code_T ?k1 ?k2 ?k3 ?k4 ?k5 ?XB ?TB ?D ?T0 ?kA ?kF ?kK ?k6 ?k7 ?k8 ?k9 ?kB ?_ ?c2 ?c3 ?c4 ?c5; (case kA => exact rfl); (case kF => exact rfl); (case kK => exact rfl); (case k2 => k_asm); (case k1 => k_asm); (case XB => assumption); (case TB => assumption); (case D => first | assumption | exact ktsDicts_nil); (case T0 => first | assumption | exact KtsTurn.refl); (case k3 => k_asm); (case k4 => k_asm); (case k5 => k_asm); (case k6 => k_is); (case k7 => k_is); (case k8 => k_room); (case k9 => exact BindsTo.of_eq rfl); (case kB => exact locs rfl); (case c2 => exact rfl); (case c3 => exact rfl); (case c4 => exact rfl); (case c5 => decide); k_whole; intro g' L' h' FG' F' N' B' X' T' D'; (try dsimp only); (try k_lift B'); (try k_fold))))
local macro_rules | `(tactic| walk_at "call ref") => `(tactic| (k_here; (with_reducible show wpAny _ _ (call (Value.ref 90) _) _ _ _); k_dflt (refine wpAny_call ?_; refine' code_T ?k1 ?k2 ?k3 ?k4 ?k5 ?XB ?TB ?D ?T0 ?kA ?kF ?kK ?k6 ?k7 ?k8 ?k9 ?kB ?_ ?c2 ?c3 ?c4 ?c5; (case kA => exact rfl); (case kF => exact rfl); (case kK => exact rfl); (case k2 => k_asm); (case k1 => k_asm); (case XB => assumption); (case TB => assumption); (case D => first | assumption | exact ktsDicts_nil); (case T0 => first | assumption | exact KtsTurn.refl); (case k3 => k_asm); (case k4 => k_asm); (case k5 => k_asm); (case k6 => k_is); (case k7 => k_is); (case k8 => k_room); (case k9 => exact BindsTo.of_eq rfl); (case kB => exact locs rfl); (case c2 => exact rfl); (case c3 => exact rfl); (case c4 => exact rfl); (case c5 => decide); k_whole; intro g' L' h' FG' F' N' B' X' T' D'; (try dsimp only); (try k_lift B'); (try k_fold))))

set_option maxRecDepth 100000 in
set_option maxHeartbeats 4000000 in
theorem status_e {w : World} {base h₀ : Heap} {L a : Addr} {m mg mb : Str → Option Value} {cn : Str} {nn : List (Str × NameKind)} {mm : List (Str × Const)} {cd : Value} {cl : List (Str × Addr)} {s : Shared} {p : Program} {loose : List Str} {mean : ExcName → Option Value}
    {news : List (Addr × Obj)} {e1 D1 lt1 te1 : Addr} {v tb1 cx1 : Value} {t11 t12 t13 : Tok} {b : Bool} {Q : Value → Shared → Prop} {E : Value → Shared → Prop}
    (B : Below callerA base [] h₀) (F : Fr h₀ L s.heap m) (X : (hd.heap_39 w.params).In h₀) (T : Top p loose mean mg mb h₀)
    (N : News h₀ L s.heap news) (m4 : (e1, excO 66 D1 te1 tb1 cx1) ∈ news) (m5 : (D1, dictOf (exD w.params t11 t12 t13 v lt1 b) 3) ∈ news)
    (h : ∀ (tn : Tok) h' tk, Fr h₀ L h' m → News h₀ L h' news → Q (.int (if b then 5 else 2) tn) { s with heap := h', toks := tk }) :
    wpAny (model PySem.Challenge.rw_pq0676_01.row.prog w) (callerA.deeper (envA cn nn mm L a cd cl)) (call (.ref 83) [.ref e1]) Q E s := by
  have hMk := kstMark
  have N₁ := News.less N (memIn m4 (memIn m5 selfIn))
  clear N m4 m5
  revert X
  k_fill
  intro X
  cases b
  · w_strict (w_top off; k_steps; (all_goals (exact h _ _ _ (by assumption) (News.less (by assumption) (tailIn (tailIn selfIn))))))
  · w_strict (w_top off; k_steps; (all_goals (exact h _ _ _ (by assumption) (News.less (by assumption) (tailIn (tailIn selfIn))))))

end
section
local macro_rules | `(tactic| walk_at "mine pad 0") => `(tactic| fail)
local macro_rules | `(tactic| walk_at "mine memr") => `(tactic| first | with_reducible exact List.Mem.head _ | (with_reducible refine List.Mem.tail _ ?_; walk_at "mine memr"))
local macro_rules | `(tactic| k_memK) => `(tactic| walk_at "mine memr")
local macro_rules | `(tactic| k_lt $h) => `(tactic| (replace $h := allLt_of $h))
local macro_rules | `(tactic| k_ne) => `(tactic| (refine neN ?_; (try dsimp only); first | assumption | exact (Ne.symm (by assumption)) | exact Nat.ne_of_lt (by assumption) | exact Nat.ne_of_gt (by assumption) | exact allLt_ne (by assumption) (by k_memK) | exact (allLt_ne (by assumption) (by k_memK)).symm | exact allNe_mem (by assumption) (by k_memK) | exact (allNe_mem (by assumption) (by k_memK)).symm | exact allLt_ne2 (by assumption) (by assumption) (by k_memK) | exact (allLt_ne2 (by assumption) (by assumption) (by k_memK)).symm | exact allLt_ne1 (by assumption) (by k_memK) | exact (allLt_ne1 (by assumption) (by k_memK)).symm | exact neAll_mem (by assumption) (by k_memK) | exact (neAll_mem (by assumption) (by k_memK)).symm | exact offHead (by assumption) (by k_memK) | exact (offHead (by assumption) (by k_memK)).symm))
local macro_rules | `(tactic| walk_at "mine in") => `(tactic| (intro p9 h9; (repeat' (first | exact h9 | exact List.mem_append_left _ h9 | exact List.mem_append_right _ h9 | refine List.Mem.tail _ ?_)); done))
local macro_rules | `(tactic| k_all) => `(tactic| first | exact List.forall_mem_nil _ | (with_reducible refine List.forall_mem_cons.mpr ⟨?a, ?b⟩; (case a => k_ne); (case b => k_all)) | exact OwnOff.ne (by assumption) (by k_memK) | exact ltTl (by assumption) (by walk_at "mine in") | exact neTl (by assumption) (by walk_at "mine in") | exact ltTl2 (by assumption) (by assumption) (by walk_at "mine in"))
local macro_rules | `(tactic| walk_at "mine led") => `(tactic| first | (refine List.forall_mem_cons.mpr ⟨by k_memK, ?_⟩; walk_at "mine led") | exact List.forall_mem_nil _ | (refine List.forall_mem_append.mpr ⟨?y1, ?y2⟩; (case y1 => walk_at "mine led"); (case y2 => walk_at "mine led")) | walk_at "mine in")
local macro_rules | `(tactic| walk_at "mine lts") => `(tactic| first | assumption | exact ltSuf (by assumption) (by walk_at "mine in") | (refine allLt_cons (by assumption) (by k_memK) ?_; walk_at "mine lts"))
local macro_rules | `(tactic| walk_at "mine nes") => `(tactic| first | assumption | exact allNe_nil | exact neSuf (by assumption) (by walk_at "mine in") | exact ltSufNe (by assumption) (by walk_at "mine in") | (refine allNe_one (by k_ne) ?_; walk_at "mine nes"))
local macro_rules | `(tactic| walk_at "mine map") => `(tactic| first | exact List.forall_mem_nil _ | (refine List.forall_mem_cons.mpr ⟨rfl, ?_⟩; walk_at "mine map"))

local macro_rules | `(tactic| walk_at "call ref") => `(tactic| (k_here; (with_reducible show wpAny _ _ (call (Value.ref 66) _) _ _ _); k_dflt (refine' call_exc (C := 66) (N₁ := 65) (fI := 63) ?F ?X ?N ?q ?f ?z ?_; (case F => k_asm); (case X => k_asm); (case N => k_asm); (case q => kernel_rfl); (case f => k_is); (case z => exact Nat.le_of_ble_eq_true rfl); k_whole); intro e' t' h' F' N' hn'; (replace hn' := gnNe_of hn'); (try k_sweep)))
local macro_rules | `(tactic| walk_at "setAttr ref") => `(tactic| (k_here; k_dflt (first | (refine' set_exc0 (C := 66) ?F ?X ?N ?U ?s ?p ?t ?_; (case N => k_asm); (case U => k_updF); (case F => k_asm); (case X => k_asm); (case s => k_is); (case p => kernel_rfl); (case t => k_is); k_whole; intro h' D' F' N' l1; (try dsimp only at N'); (try k_lt l1); (try k_sweep)) | (refine' set_excN (C := 66) ?F ?X ?N ?h1 ?h2 ?s ?p ?t ?l ?e ?U ?z ?_; (case N => k_asm); (case h1 => k_memK); (case h2 => k_memK); (case F => k_asm); (case X => k_asm); (case s => k_is); (case p => kernel_rfl); (case t => k_is); (case l => exact rfl); (case e => k_put); (case U => k_upd); (case z => exact Nat.le_of_ble_eq_true rfl); k_whole; intro h' F' N'; (try k_sweep)))))
local macro_rules | `(tactic| walk_at "getAttr ref") => `(tactic| (k_here; k_dflt (refine' get_excN (C := 66) ?F ?X ?N ?h1 ?h2 ?s ?p ?t ?hh ?ha ?hn ?l ?v ?_; (case N => k_asm); (case h1 => k_memK); (case h2 => k_memK); (case F => k_asm); (case X => k_asm); (case s => k_is); (case p => k_is); (case t => kernel_rfl); (case hh => k_is); (case ha => k_is); (case hn => k_is); (case l => k_get); (case v => first | assumption | k_handed); k_whole)))
local macro_rules | `(tactic| walk_at "exec Raise some none") => `(tactic| (k_here; k_dflt (refine' raise_open ?_)))
local macro_rules | `(tactic| walk_at "raiseTail ref") => `(tactic| (k_here; k_dflt (first | (refine' raise_exc0 (C := 66) ?hh ?F ?X ?N ?c ?hm ?_; (case hh => exact rfl); (case F => k_asm); (case X => k_asm); (case N => k_asm); (case c => kernel_rfl); (case hm => k_memK); k_whole) | (refine' raise_excH (C := 66) ?hh ?F ?X ?N ?c ?hm ?ne ?h0 ?U ?_; (case hh => exact rfl); (case F => k_asm); (case X => k_asm); (case N => k_asm); (case c => kernel_rfl); (case hm => k_memK); (case ne => k_ne); (case h0 => k_memK); (case U => k_upd); k_whole; intro h' F' N'; (try k_sweep)))))
local macro_rules | `(tactic| walk_at "mine wo") => `(tactic| (first | (refine' Wo.drop (Wo.nil ?wa); (case wa => k_all)) | (refine' Wo.keep ?wa ?wb; (case wa => k_ne); (case wb => walk_at "mine wo"))))
local macro_rules | `(tactic| walk_at "leaving ref") => `(tactic| (k_here; k_dflt (first | (refine' leave_next ?R ?K ?F ?f ?_; (case R => assumption); (case K => assumption); (case F => assumption); (case f => exact rfl); k_whole; intro h' T' R') | (refine' leave_firstW ?K ?F ?N ?hm ?hs ?f ?k ?_; (case F => k_asm); (case N => k_asm); (case K => assumption); (case hm => k_memK); (case hs => walk_at "mine wo"); (case f => exact rfl); (case k => exact rfl); k_whole; intro h' T' R'))))
local macro_rules | `(tactic| walk_at "noteFrame ref") => `(tactic| (k_here; k_dflt (refine' catch_as (C := 66) ?R ?F ?K ?XB ?TB ?D ?T0 ?kcn ?kcx ?_; (case R => assumption); (case F => assumption); (case K => assumption); (case XB => assumption); (case TB => assumption); (case D => assumption); (case T0 => first | assumption | exact KtsTurn.refl); (case kcn => k_is); (case kcx => kernel_rfl); k_whole); intro h' g' T' tk' T1' F' N' K' X' P' D'; (try k_lift K'); (try k_sweep)))
local macro_rules | `(tactic| walk_at "assign Tuple") => `(tactic| (k_here; (with_reducible show wpAny _ _ (assign (Expr.Tuple _ _ _) _ (Value.ref _)) _ _ _); k_dflt (refine' unpackH ?uF ?uN ?um ?uh ?ue ?un ?us ?_; (case uF => k_asm); (case uN => k_asm); (case um => k_memK); (case uh => exact rfl); (case ue => k_memK); (case un => exact rfl); (case us => exact rfl); k_whole); intro h' F' N'; (try k_sweep)))
local macro_rules | `(tactic| walk_at "exec While Compare cons nil") => `(tactic| (k_here; k_dflt (refine' handled_loop (fo := fnMade _ _ _ _ _ [(_, _)] _ _ _ _) ?lO ?lh rfl ?lE ?lF ?l1 ?l2 ?l3 ?l4 ?l5 ?lN ?lT0 ?lB ?lX ?lT ?lD ?lv ?lt0 ?le ?lturn; (case lO => assumption); (case lh => exact rfl); (case lF => k_asm); (case l1 => exact rfl); (case l2 => exact rfl); (case l3 => exact rfl); (case l4 => exact rfl); (case l5 => exact rfl); (case lN => exact News.less (by k_asm) (by walk_at "mine led")); (case lB => assumption); (case lX => assumption); (case lT => assumption); (case lD => assumption); (case lT0 => first | assumption | exact KtsTurn.refl); (case lv => assumption); (case lt0 => assumption); (case le => assumption); (case lE => first | passes_own | with_unfolding_all passes_own); k_whole); intro n' g' h' tk' u' v' tr' ttr' t' tt' cc' tcc' hc' thc' t1' t2' t3' t4' t5' t6' ttop' T' F' N' B' X' T1' D' hv' ht' he' hn'; dsimp only [ledH, mapH] at N' F'; (try k_sweep)))
local macro_rules | `(tactic| walk_at "WhlIf") => `(tactic| (refine whlIf_split ?_ ?_ <;> intro hc9))
local macro_rules | `(tactic| walk_at "WhlEnd") => `(tactic| (k_dflt (first | (refine' handled_next ?eF ?e1 ?e2 ?e3 ?e4 ?e5 ?eN ?eT0 ?eB ?eX ?eT ?eD ?ev ?et ?ee ?en; (case eF => k_asm); (case e1 => exact rfl); (case e2 => exact rfl); (case e3 => exact rfl); (case e4 => exact rfl); (case e5 => exact rfl); (case eN => exact News.less (by k_asm) (by walk_at "mine led")); (case eT0 => assumption); (case eB => assumption); (case eX => assumption); (case eT => assumption); (case eD => assumption); (case ev => first | assumption | k_handed); (case et => ((try simp only [getD_one] at *); omega)); (case ee => walk_at "mine dec"); (case en => ((try simp only [getD_one] at *); omega))) | (with_reducible show WhlEnd _ _ _ (Flow.ret _) _; dsimp only [WhlEnd]))))
local macro_rules | `(tactic| walk_at "mine dec") => `(tactic| ((refine Eq.trans (decide_eq_decide.mpr ?_) (by assumption)); (try simp only [getD_one] at *); omega))
local macro_rules | `(tactic| walk_at "call ref") => `(tactic| (k_here; (with_reducible show wpAny _ _ (call (Value.ref 97) _) _ _ _); k_dflt (refine wpAny_call ?_; refine' code_T ?k1 ?k2 ?k3 ?k4 ?k5 ?XB ?TB ?D ?T0 ?kA ?kF ?kK ?k6 ?k7 ?k8 ?k9 ?kB ?_ ?c2 ?c3 ?c4 ?c5; (case kA => exact rfl); (case kF => exact rfl); (case kK => exact rfl); (case k2 => k_asm); (case k1 => k_asm); (case XB => assumption); (case TB => assumption); (case D => first | assumption | exact ktsDicts_nil); (case T0 => first | assumption | exact KtsTurn.refl); (case k3 => k_asm); (case k4 => k_asm); (case k5 => k_asm); (case k6 => k_is); (case k7 => k_is); (case k8 => k_room); (case k9 => exact BindsTo.of_eq rfl); (case kB => exact locs rfl); (case c2 => exact rfl); (case c3 => exact rfl); (case c4 => exact rfl); (case c5 => decide); k_whole; intro g' L' h' FG' F' N' B' X' T' D'; (try dsimp only); (try k_lift B'); (try k_fold))))
local macro_rules | `(tactic| walk_at "call ref") => `(tactic| (k_here; (with_reducible show wpAny _ _ (call (Value.ref 90) _) _ _ _); k_dflt (refine wpAny_call ?_; refine' code_T ?k1 ?k2 ?k3 ?k4 ?k5 ?XB ?TB ?D ?T0 ?kA ?kF ?kK ?k6 ?k7 ?k8 ?k9 ?kB ?_ ?c2 ?c3 ?c4 ?c5; (case kA => exact rfl); (case kF => exact rfl); (case kK => exact rfl); (case k2 => k_asm); (case k1 => k_asm); (case XB => assumption); (case TB => assumption); (case D => first | assumption | exact ktsDicts_nil); (case T0 => first | assumption | exact KtsTurn.refl); (case k3 => k_asm); (case k4 => k_asm); (case k5 => k_asm); (case k6 => k_is); (case k7 => k_is); (case k8 => k_room); (case k9 => exact BindsTo.of_eq rfl); (case kB => exact locs rfl); (case c2 => exact rfl); (case c3 => exact rfl); (case c4 => exact rfl); (case c5 => decide); k_whole; intro g' L' h' FG' F' N' B' X' T' D'; (try dsimp only); (try k_lift B'); (try k_fold))))

set_option maxRecDepth 100000 in
set_option maxHeartbeats 4000000 in
theorem gw0 {w : World} {base h₀ : Heap} {L a : Addr} {m mg mb : Str → Option Value} {cn : Str} {nn : List (Str × NameKind)} {mm : List (Str × Const)} {cd : Value} {cl : List (Str × Addr)} {s : Shared} {p : Program} {loose : List Str} {mean : ExcName → Option Value}
    {news : List (Addr × Obj)} {x f c' : Addr} {name qual : Str} {cl0 : List (Str × Addr)} {pm ctv : Value} {oc : Obj} {vs : Array Value} {t : Tok} {Q : Value → Shared → Prop} {E : Value → Shared → Prop}
    (B : Below callerA base [] h₀) (F : Fr h₀ L s.heap m) (X : (hd.heap_39 w.params).In h₀) (XB : (hd.heap_39 w.params).In base) (T : Top p loose mean mg mb h₀) (TB : Top p loose mean mg mb base)
    (N : News h₀ L s.heap news) (m1 : (f, kla_obj name qual lam0.1 lam0.2.1 lam0.2.2 cl0 pm c' ctv) ∈ news) (m2 : (c', oc) ∈ news) (hcv : oc.data = .fields vs) (hcq : vs[1]? = some (.str qual t)) (C : CodeHd base 143 141)
    (h : ∀ h' tk, Fr h₀ L h' m → News h₀ L h' news → Q .none { s with heap := h', toks := tk }) :
    wpAny (model PySem.Challenge.rw_pq0676_01.row.prog w) (callerA.deeper (envA cn nn mm L a cd cl)) (call (.ref 97) [.ref x, .ref f, .none]) Q E s := by
  have hMk := kstMark
  have N₁ := News.less N (memIn m1 (memIn m2 selfIn))
  clear N m1 m2
  revert X XB
  k_fill
  intro X XB
  dsimp only [lam0, lamParts, turnBody, lawFn, PySem.Challenge.pw_pq0676_01, List.reverse, List.reverseAux] at N₁
  w_strict (w_top off; k_steps; (all_goals (exact h _ _ (by first | assumption | exact fr_nil (by assumption) (by assumption)) (by first | exact News.less (by assumption) (tailIn (tailIn selfIn)) | exact news_nil (by assumption) (News.less (by assumption) (tailIn (tailIn selfIn)))))))

end
section
open PySem PySem.W PySem.Calls PyProof.Rows
/-- the explicit part of the ledger between two turns -/
abbrev ledJ (r D a1 a2 P1 P2 : Addr) (ws : List Value) (n : Int) (t : Tok) (w1 w2 : Obj) (ps1 ps2 : Array Value) (cs : List (Addr × Obj)) : List (Addr × Obj) :=
  (r, W.listOf #[.ref D, .int n t] 0) :: (D, W.listOf ws.toArray 0) :: (a1, w1) :: (a2, w2) :: (P1, tabObj ps1) :: (P2, tabObj ps2) :: cs
/-- what holds between two turns of the loop -/
def LawJ (rope : Str) (r D a1 a2 P1 P2 : Addr) (q1 q2 : Str) (ws : List Value) (i : Nat) (m : Str → Option Value) (nx : List (Addr × Obj)) : Prop :=
  ∃ n t w1 b1 w2 b2 ps1 ps2 cs, nx = ledJ r D a1 a2 P1 P2 ws n t w1 w2 ps1 ps2 cs ∧ w1.data = .cell b1 ∧ w2.data = .cell b2 ∧ 0 ≤ n ∧ n ≤ 1 + 4 * (i : Int) ∧ Codes cs ps1 q1 ∧ Codes cs ps2 q2 ∧ OwnOff cs [r, D, a1, a2, P1, P2] ∧ m rope = some (.ref r)
section
variable {prog : Program} {w : World} {A : Around} {E : Value → Shared → Prop} {s : Shared} {env : Env} {h₀ : Heap} {x : Str} {body : List Stmt} {Q : Flow → Shared → Prop}
theorem law_loop {rg r D a1 a2 P1 P2 : Addr} {b₀ : Int} {t₀ u₀ v₀ t : Tok} {m₀ : Str → Option Value} {ws : List Value} {n : Int} {w1 w2 : Obj} {b1 b2 : Option Value} (rope q1 q2 : Str)
    (hh : A.handled = none) (hr : IsRange s.heap rg 0 b₀ 1 t₀ u₀ v₀) (hb0 : 0 ≤ b₀) (hb1 : b₀ ≤ 3) (F : Fr h₀ env.locals s.heap m₀)
    (N : News h₀ env.locals s.heap (ledJ r D a1 a2 P1 P2 ws n t w1 w2 #[] #[] [])) (hd1 : w1.data = .cell b1) (hd2 : w2.data = .cell b2) (hn0 : 0 ≤ n) (hn1 : n ≤ 1) (hm : m₀ rope = some (.ref r)) (hx : rope ≠ x)
    (turn : ∀ (i : Nat) (k : Int) (t : Tok) (n : Int) (t' : Tok) (w1 : Obj) b1 (w2 : Obj) b2 ps1 ps2 cs (u : Str → Option Value) h tk own, 0 ≤ n → n ≤ 1 + 4 * (i : Int) → i < 3 → w1.data = .cell b1 → w2.data = .cell b2 → Codes cs ps1 q1 → Codes cs ps2 q2 →
      OwnOff cs [r, D, a1, a2, P1, P2] → OwnOff own [r, D, a1, a2, P1, P2] → TbOff own cs →
      Fr h₀ env.locals h (fun y => if y = x then some (.int k t) else if y = rope then some (.ref r) else u y) → News h₀ env.locals h (ledJ r D a1 a2 P1 P2 ws n t' w1 w2 ps1 ps2 (cs ++ own)) →
      wpAny (model prog w) A (execs body env) (TbPost h₀ env.locals (LawJ rope r D a1 a2 P1 P2 q1 q2 ws (i + 1)) own { s with heap := h, toks := tk } Q) E { s with heap := h, toks := tk })
    (done : ∀ (n : Int) (t : Tok) (w1 : Obj) (w2 : Obj) ps1 ps2 cs (u : Str → Option Value) h tk, Codes cs ps1 q1 → Codes cs ps2 q2 → OwnOff cs [r, D, a1, a2, P1, P2] →
      Fr h₀ env.locals h u → News h₀ env.locals h (ledJ r D a1 a2 P1 P2 ws n t w1 w2 ps1 ps2 cs) → Q .next { s with heap := h, toks := tk }) :
    wpAny (model prog w) A (pyIter (.ref rg)) (fun it s₂ => LoopAtV prog w A h₀ env x body Q E it s₂) E s := by
  refine tbr_invG (n := (b₀ - 0).toNat) (LawJ rope r D a1 a2 P1 P2 q1 q2 ws) hh hr (small_one (by omega) (by omega) (by omega) (by omega)) (rangeSize_nat 0 b₀) F N
    ⟨n, t, w1, b1, w2, b2, #[], #[], [], rfl, hd1, hd2, hn0, by omega, .zero, .zero, fun p hp => (nomatch hp), hm⟩ ?_ ?_
  · rintro i k tt m₁ nx h tk own hk hoff ⟨n, t, w1, b1, w2, b2, ps1, ps2, cs, rfl, h1, h2, h3, h4, h5, h6, h7, h8⟩ F' N'
    have e : (fun y => if y = x then some (Value.int k tt) else m₁ y) = fun y => if y = x then some (.int k tt) else if y = rope then some (.ref r) else m₁ y := by
      funext y
      by_cases a : y = x
      · simp [a]
      · by_cases b : y = rope
        · subst b; simp [a, h8]
        · simp [a, b]
    rw [e] at F'
    have hi : i < 3 := by
      have := List.getElem?_eq_some_iff.mp hk
      obtain ⟨hl, _⟩ := this
      rw [rangeKs_length] at hl
      omega
    refine turn i k tt n t w1 b1 w2 b2 ps1 ps2 cs m₁ h tk own h3 h4 hi h1 h2 h5 h6 h7 ?_ ?_ F' N'
    · intro p hp b hb
      have k := hoff p hp
      simp only [List.mem_cons, List.not_mem_nil, or_false] at hb
      rcases hb with rfl | rfl | rfl | rfl | rfl | rfl
      · exact k _ (.head _)
      · exact k _ (.tail _ (.head _))
      · exact k _ (.tail _ (.tail _ (.head _)))
      · exact k _ (.tail _ (.tail _ (.tail _ (.head _))))
      · exact k _ (.tail _ (.tail _ (.tail _ (.tail _ (.head _)))))
      · exact k _ (.tail _ (.tail _ (.tail _ (.tail _ (.tail _ (.head _))))))
    · intro p hp q hq
      exact hoff p hp q (.tail _ (.tail _ (.tail _ (.tail _ (.tail _ (.tail _ hq))))))
  · rintro m₁ nx h tk ⟨n, t, w1, b1, w2, b2, ps1, ps2, cs, rfl, h1, h2, h3, h4, h5, h6, h7, h8⟩ F' N'
    exact done n t w1 w2 ps1 ps2 cs m₁ h tk h5 h6 h7 F' N'
theorem law_loopL {L : Addr} {rg r D a1 a2 P1 P2 : Addr} {b₀ : Int} {t₀ u₀ v₀ t : Tok} {m₀ : Str → Option Value} {ws : List Value} {n : Int} {w1 w2 : Obj} {b1 b2 : Option Value} (rope q1 q2 : Str)
    (eL : env.locals = L) (hh : A.handled = none) (hr : IsRange s.heap rg 0 b₀ 1 t₀ u₀ v₀) (hb0 : 0 ≤ b₀) (hb1 : b₀ ≤ 3) (F : Fr h₀ L s.heap m₀)
    (N : News h₀ L s.heap (ledJ r D a1 a2 P1 P2 ws n t w1 w2 #[] #[] [])) (hd1 : w1.data = .cell b1) (hd2 : w2.data = .cell b2) (hn0 : 0 ≤ n) (hn1 : n ≤ 1) (hm : m₀ rope = some (.ref r)) (hx : rope ≠ x)
    (turn : ∀ (i : Nat) (k : Int) (t : Tok) (n : Int) (t' : Tok) (w1 : Obj) b1 (w2 : Obj) b2 ps1 ps2 cs (u : Str → Option Value) h tk own, 0 ≤ n → n ≤ 1 + 4 * (i : Int) → i < 3 → w1.data = .cell b1 → w2.data = .cell b2 → Codes cs ps1 q1 → Codes cs ps2 q2 →
      OwnOff cs [r, D, a1, a2, P1, P2] → OwnOff own [r, D, a1, a2, P1, P2] → TbOff own cs →
      Fr h₀ L h (fun y => if y = x then some (.int k t) else if y = rope then some (.ref r) else u y) → News h₀ L h (ledJ r D a1 a2 P1 P2 ws n t' w1 w2 ps1 ps2 (cs ++ own)) →
      wpAny (model prog w) A (execs body env) (TbPost h₀ L (LawJ rope r D a1 a2 P1 P2 q1 q2 ws (i + 1)) own { s with heap := h, toks := tk } Q) E { s with heap := h, toks := tk })
    (done : ∀ (n : Int) (t : Tok) (w1 : Obj) (w2 : Obj) ps1 ps2 cs (u : Str → Option Value) h tk, Codes cs ps1 q1 → Codes cs ps2 q2 → OwnOff cs [r, D, a1, a2, P1, P2] →
      Fr h₀ L h u → News h₀ L h (ledJ r D a1 a2 P1 P2 ws n t w1 w2 ps1 ps2 cs) → Q .next { s with heap := h, toks := tk }) :
    wpAny (model prog w) A (pyIter (.ref rg)) (fun it s₂ => LoopAtV prog w A h₀ env x body Q E it s₂) E s := by
  subst eL
  exact law_loop rope q1 q2 hh hr hb0 hb1 F N hd1 hd2 hn0 hn1 hm hx turn done
/-- the end of a turn -/
theorem law_turnEnd {i : Nat} {r D a1 a2 P1 P2 : Addr} {L : Addr} {ws : List Value} {n : Int} {t : Tok} {w1 w2 : Obj} {b1 b2 : Option Value} {rope q1 q2 : Str} {ps1 ps2 : Array Value} {k1 k2 own news : List (Addr × Obj)} {m : Str → Option Value} {s₁ : Shared} {h : Heap} {tk : Nat}
    (F : Fr h₀ L h m) (N : News h₀ L h news) (hN : ∀ p ∈ ledJ r D a1 a2 P1 P2 ws n t w1 w2 ps1 ps2 (k1 ++ k2), p ∈ news) (hO : ∀ p ∈ own, p ∈ news) (hd1 : w1.data = .cell b1) (hd2 : w2.data = .cell b2) (hn0 : 0 ≤ n) (hn1 : n ≤ 1 + 4 * ((i + 1 : Nat) : Int))
    (h1 : Codes k1 ps1 q1) (h2 : Codes k2 ps2 q2) (o1 : OwnOff k1 [r, D, a1, a2, P1, P2]) (o2 : OwnOff k2 [r, D, a1, a2, P1, P2]) (oo : OwnOff own [r, D, a1, a2, P1, P2]) (t1 : TbOff own k1) (t2 : TbOff own k2) (hm : m rope = some (.ref r)) :
    TbEnd h₀ L (LawJ rope r D a1 a2 P1 P2 q1 q2 ws (i + 1)) own s₁ { s₁ with heap := h, toks := tk } := by
  refine ⟨h, tk, m, news, _, rfl, F, N, hN, hO, ?_, n, t, w1, b1, w2, b2, ps1, ps2, k1 ++ k2, rfl, hd1, hd2, hn0, hn1, h1.mono fun p hp => List.mem_append_left _ hp, h2.mono fun p hp => List.mem_append_right _ hp, ?_, hm⟩
  · intro p hp q hq
    have k := oo p hp
    rcases List.mem_cons.mp hq with rfl | hq
    · exact k _ (by simp)
    rcases List.mem_cons.mp hq with rfl | hq
    · exact k _ (by simp)
    rcases List.mem_cons.mp hq with rfl | hq
    · exact k _ (by simp)
    rcases List.mem_cons.mp hq with rfl | hq
    · exact k _ (by simp)
    rcases List.mem_cons.mp hq with rfl | hq
    · exact k _ (by simp)
    rcases List.mem_cons.mp hq with rfl | hq
    · exact k _ (by simp)
    exact (List.mem_append.mp hq).elim (t1 p hp q) (t2 p hp q)
  · intro p hp
    exact (List.mem_append.mp hp).elim (o1 p) (o2 p)
end

end
section
local macro_rules | `(tactic| walk_at "mine memr") => `(tactic| first | with_reducible exact List.Mem.head _ | (with_reducible refine List.Mem.tail _ ?_; walk_at "mine memr"))
local macro_rules | `(tactic| k_memK) => `(tactic| walk_at "mine memr")
local macro_rules | `(tactic| k_lt $h) => `(tactic| (replace $h := allLt_of $h))
local macro_rules | `(tactic| k_ne) => `(tactic| (refine neN ?_; (try dsimp only); first | assumption | exact (Ne.symm (by assumption)) | exact Nat.ne_of_lt (by assumption) | exact Nat.ne_of_gt (by assumption) | exact allLt_ne (by assumption) (by k_memK) | exact (allLt_ne (by assumption) (by k_memK)).symm | exact allNe_mem (by assumption) (by k_memK) | exact (allNe_mem (by assumption) (by k_memK)).symm | exact allLt_ne2 (by assumption) (by assumption) (by k_memK) | exact (allLt_ne2 (by assumption) (by assumption) (by k_memK)).symm | exact allLt_ne1 (by assumption) (by k_memK) | exact (allLt_ne1 (by assumption) (by k_memK)).symm | exact neAll_mem (by assumption) (by k_memK) | exact (neAll_mem (by assumption) (by k_memK)).symm | exact offHead (by assumption) (by k_memK) | exact (offHead (by assumption) (by k_memK)).symm))
local macro_rules | `(tactic| walk_at "mine in") => `(tactic| (intro p9 h9; (repeat' (first | exact h9 | exact List.mem_append_left _ h9 | exact List.mem_append_right _ h9 | refine List.Mem.tail _ ?_)); done))
local macro_rules | `(tactic| k_all) => `(tactic| first | exact List.forall_mem_nil _ | (with_reducible refine List.forall_mem_cons.mpr ⟨?a, ?b⟩; (case a => k_ne); (case b => k_all)) | exact OwnOff.ne (by assumption) (by k_memK) | exact ltTl (by assumption) (by walk_at "mine in") | exact neTl (by assumption) (by walk_at "mine in") | exact ltTl2 (by assumption) (by assumption) (by walk_at "mine in"))
local macro_rules | `(tactic| walk_at "mine led") => `(tactic| first | (refine List.forall_mem_cons.mpr ⟨by k_memK, ?_⟩; walk_at "mine led") | exact List.forall_mem_nil _ | (refine List.forall_mem_append.mpr ⟨?y1, ?y2⟩; (case y1 => walk_at "mine led"); (case y2 => walk_at "mine led")) | walk_at "mine in")
local macro_rules | `(tactic| walk_at "mine lts") => `(tactic| first | assumption | exact ltSuf (by assumption) (by walk_at "mine in") | (refine allLt_cons (by assumption) (by k_memK) ?_; walk_at "mine lts"))
local macro_rules | `(tactic| walk_at "mine nes") => `(tactic| first | assumption | exact allNe_nil | exact neSuf (by assumption) (by walk_at "mine in") | exact ltSufNe (by assumption) (by walk_at "mine in") | (refine allNe_one (by k_ne) ?_; walk_at "mine nes"))
local macro_rules | `(tactic| walk_at "mine map") => `(tactic| first | exact List.forall_mem_nil _ | (refine List.forall_mem_cons.mpr ⟨rfl, ?_⟩; walk_at "mine map"))

local macro_rules | `(tactic| walk_at "call ref") => `(tactic| (k_here; (with_reducible show wpAny _ _ (call (Value.ref 66) _) _ _ _); k_dflt (refine' call_exc (C := 66) (N₁ := 65) (fI := 63) ?F ?X ?N ?q ?f ?z ?_; (case F => k_asm); (case X => k_asm); (case N => k_asm); (case q => kernel_rfl); (case f => k_is); (case z => exact Nat.le_of_ble_eq_true rfl); k_whole); intro e' t' h' F' N' hn'; (replace hn' := gnNe_of hn'); (try k_sweep)))
local macro_rules | `(tactic| walk_at "setAttr ref") => `(tactic| (k_here; k_dflt (first | (refine' set_exc0 (C := 66) ?F ?X ?N ?U ?s ?p ?t ?_; (case N => k_asm); (case U => k_updF); (case F => k_asm); (case X => k_asm); (case s => k_is); (case p => kernel_rfl); (case t => k_is); k_whole; intro h' D' F' N' l1; (try dsimp only at N'); (try k_lt l1); (try k_sweep)) | (refine' set_excN (C := 66) ?F ?X ?N ?h1 ?h2 ?s ?p ?t ?l ?e ?U ?z ?_; (case N => k_asm); (case h1 => k_memK); (case h2 => k_memK); (case F => k_asm); (case X => k_asm); (case s => k_is); (case p => kernel_rfl); (case t => k_is); (case l => exact rfl); (case e => k_put); (case U => k_upd); (case z => exact Nat.le_of_ble_eq_true rfl); k_whole; intro h' F' N'; (try k_sweep)))))
local macro_rules | `(tactic| walk_at "getAttr ref") => `(tactic| (k_here; k_dflt (refine' get_excN (C := 66) ?F ?X ?N ?h1 ?h2 ?s ?p ?t ?hh ?ha ?hn ?l ?v ?_; (case N => k_asm); (case h1 => k_memK); (case h2 => k_memK); (case F => k_asm); (case X => k_asm); (case s => k_is); (case p => k_is); (case t => kernel_rfl); (case hh => k_is); (case ha => k_is); (case hn => k_is); (case l => k_get); (case v => first | assumption | k_handed); k_whole)))
local macro_rules | `(tactic| walk_at "exec Raise some none") => `(tactic| (k_here; k_dflt (refine' raise_open ?_)))
local macro_rules | `(tactic| walk_at "raiseTail ref") => `(tactic| (k_here; k_dflt (first | (refine' raise_exc0 (C := 66) ?hh ?F ?X ?N ?c ?hm ?_; (case hh => exact rfl); (case F => k_asm); (case X => k_asm); (case N => k_asm); (case c => kernel_rfl); (case hm => k_memK); k_whole) | (refine' raise_excH (C := 66) ?hh ?F ?X ?N ?c ?hm ?ne ?h0 ?U ?_; (case hh => exact rfl); (case F => k_asm); (case X => k_asm); (case N => k_asm); (case c => kernel_rfl); (case hm => k_memK); (case ne => k_ne); (case h0 => k_memK); (case U => k_upd); k_whole; intro h' F' N'; (try k_sweep)))))
local macro_rules | `(tactic| walk_at "mine wo") => `(tactic| (first | (refine' Wo.drop (Wo.nil ?wa); (case wa => k_all)) | (refine' Wo.keep ?wa ?wb; (case wa => k_ne); (case wb => walk_at "mine wo"))))
local macro_rules | `(tactic| walk_at "leaving ref") => `(tactic| (k_here; k_dflt (first | (refine' leave_next ?R ?K ?F ?f ?_; (case R => assumption); (case K => assumption); (case F => assumption); (case f => exact rfl); k_whole; intro h' T' R') | (refine' leave_firstW ?K ?F ?N ?hm ?hs ?f ?k ?_; (case F => k_asm); (case N => k_asm); (case K => assumption); (case hm => k_memK); (case hs => walk_at "mine wo"); (case f => exact rfl); (case k => exact rfl); k_whole; intro h' T' R'))))
local macro_rules | `(tactic| walk_at "noteFrame ref") => `(tactic| (k_here; k_dflt (refine' catch_as (C := 66) ?R ?F ?K ?XB ?TB ?D ?T0 ?kcn ?kcx ?_; (case R => assumption); (case F => assumption); (case K => assumption); (case XB => assumption); (case TB => assumption); (case D => assumption); (case T0 => first | assumption | exact KtsTurn.refl); (case kcn => k_is); (case kcx => kernel_rfl); k_whole); intro h' g' T' tk' T1' F' N' K' X' P' D'; (try k_lift K'); (try k_sweep)))
local macro_rules | `(tactic| walk_at "assign Tuple") => `(tactic| (k_here; (with_reducible show wpAny _ _ (assign (Expr.Tuple _ _ _) _ (Value.ref _)) _ _ _); k_dflt (refine' unpackH ?uF ?uN ?um ?uh ?ue ?un ?us ?_; (case uF => k_asm); (case uN => k_asm); (case um => k_memK); (case uh => exact rfl); (case ue => k_memK); (case un => exact rfl); (case us => exact rfl); k_whole); intro h' F' N'; (try k_sweep)))
local macro_rules | `(tactic| walk_at "exec While Compare cons nil") => `(tactic| (k_here; k_dflt (refine' handled_loop (fo := fnMade _ _ _ _ _ [(_, _)] _ _ _ _) ?lO ?lh rfl ?lE ?lF ?l1 ?l2 ?l3 ?l4 ?l5 ?lN ?lT0 ?lB ?lX ?lT ?lD ?lv ?lt0 ?le ?lturn; (case lO => assumption); (case lh => exact rfl); (case lF => k_asm); (case l1 => exact rfl); (case l2 => exact rfl); (case l3 => exact rfl); (case l4 => exact rfl); (case l5 => exact rfl); (case lN => exact News.less (by k_asm) (by walk_at "mine led")); (case lB => assumption); (case lX => assumption); (case lT => assumption); (case lD => assumption); (case lT0 => first | assumption | exact KtsTurn.refl); (case lv => assumption); (case lt0 => assumption); (case le => assumption); (case lE => first | passes_own | with_unfolding_all passes_own); k_whole); intro n' g' h' tk' u' v' tr' ttr' t' tt' cc' tcc' hc' thc' t1' t2' t3' t4' t5' t6' ttop' T' F' N' B' X' T1' D' hv' ht' he' hn'; dsimp only [ledH, mapH] at N' F'; (try k_sweep)))
local macro_rules | `(tactic| walk_at "WhlIf") => `(tactic| (refine whlIf_split ?_ ?_ <;> intro hc9))
local macro_rules | `(tactic| walk_at "WhlEnd") => `(tactic| (k_dflt (first | (refine' handled_next ?eF ?e1 ?e2 ?e3 ?e4 ?e5 ?eN ?eT0 ?eB ?eX ?eT ?eD ?ev ?et ?ee ?en; (case eF => k_asm); (case e1 => exact rfl); (case e2 => exact rfl); (case e3 => exact rfl); (case e4 => exact rfl); (case e5 => exact rfl); (case eN => exact News.less (by k_asm) (by walk_at "mine led")); (case eT0 => assumption); (case eB => assumption); (case eX => assumption); (case eT => assumption); (case eD => assumption); (case ev => first | assumption | k_handed); (case et => ((try simp only [getD_one] at *); omega)); (case ee => walk_at "mine dec"); (case en => ((try simp only [getD_one] at *); omega))) | (with_reducible show WhlEnd _ _ _ (Flow.ret _) _; dsimp only [WhlEnd]))))
local macro_rules | `(tactic| walk_at "mine dec") => `(tactic| ((refine Eq.trans (decide_eq_decide.mpr ?_) (by assumption)); (try simp only [getD_one] at *); omega))
local macro_rules | `(tactic| walk_at "call ref") => `(tactic| (k_here; (with_reducible show wpAny _ _ (call (Value.ref 97) _) _ _ _); k_dflt (refine wpAny_call ?_; refine' code_T ?k1 ?k2 ?k3 ?k4 ?k5 ?XB ?TB ?D ?T0 ?kA ?kF ?kK ?k6 ?k7 ?k8 ?k9 ?kB ?_ ?c2 ?c3 ?c4 ?c5; (case kA => exact rfl); (case kF => exact rfl); (case kK => exact rfl); (case k2 => k_asm); (case k1 => k_asm); (case XB => assumption); (case TB => assumption); (case D => first | assumption | exact ktsDicts_nil); (case T0 => first | assumption | exact KtsTurn.refl); (case k3 => k_asm); (case k4 => k_asm); (case k5 => k_asm); (case k6 => k_is); (case k7 => k_is); (case k8 => k_room); (case k9 => exact BindsTo.of_eq rfl); (case kB => exact locs rfl); (case c2 => exact rfl); (case c3 => exact rfl); (case c4 => exact rfl); (case c5 => decide); k_whole; intro g' L' h' FG' F' N' B' X' T' D'; (try dsimp only); (try k_lift B'); (try k_fold))))
local macro_rules | `(tactic| walk_at "call ref") => `(tactic| (k_here; (with_reducible show wpAny _ _ (call (Value.ref 90) _) _ _ _); k_dflt (refine wpAny_call ?_; refine' code_T ?k1 ?k2 ?k3 ?k4 ?k5 ?XB ?TB ?D ?T0 ?kA ?kF ?kK ?k6 ?k7 ?k8 ?k9 ?kB ?_ ?c2 ?c3 ?c4 ?c5; (case kA => exact rfl); (case kF => exact rfl); (case kK => exact rfl); (case k2 => k_asm); (case k1 => k_asm); (case XB => assumption); (case TB => assumption); (case D => first | assumption | exact ktsDicts_nil); (case T0 => first | assumption | exact KtsTurn.refl); (case k3 => k_asm); (case k4 => k_asm); (case k5 => k_asm); (case k6 => k_is); (case k7 => k_is); (case k8 => k_room); (case k9 => exact BindsTo.of_eq rfl); (case kB => exact locs rfl); (case c2 => exact rfl); (case c3 => exact rfl); (case c4 => exact rfl); (case c5 => decide); k_whole; intro g' L' h' FG' F' N' B' X' T' D'; (try dsimp only); (try k_lift B'); (try k_fold))))

local macro_rules | `(tactic| walk_at "mine sub") => `(tactic| (first | assumption | exact (fun _ h9 => h9) | (refine tailIn ?_; walk_at "mine sub")))
local macro_rules | `(tactic| walk_at "mine adr2") => `(tactic| (first | assumption | (refine adrTail ?_; walk_at "mine adr2")))
local macro_rules | `(tactic| walk_at "call ref") => `(tactic| (k_here; (with_reducible show wpAny _ _ (call (Value.ref 125) _) _ _ _); k_dflt (refine' holder_ok ?oB ?oF ?oX ?oT ?oN ?_; (case oB => assumption); (case oF => k_asm); (case oX => assumption); (case oT => assumption); (case oN => k_asm); k_whole); intro x' D' lS' lU' lF' t1' t2' t3' t4' t5' t6' tc' th' tt' t7' h' tk' F' N' l1' l2' l3' l4'; (try dsimp only at N'); (try k_sweep)))
local macro_rules | `(tactic| walk_at "eval Lambda") => `(tactic| (k_here; kn_here; k_dflt (refine' kla_eval ?d0 ?_; (case d0 => exact rfl)); k_dflt (refine' lam_any ?nF ?nN ?nT ?nC ?ncd ?nU ?nc ?nk ?nx ?nt ?ni ?no ?na ?ncl ?_; (case nc => assumption); (case nF => k_asm); (case nN => k_asm); (case nT => k_asm); (case ncd => exact rfl); (case nC => kn_code); (case nU => k_updF); (case nk => walk_at "mine sub"); (case nx => exact ExOk.nil); (case nt => assumption); (case ni => walk_at "mine sub"); (case no => assumption); (case na => walk_at "mine adr2"); (case ncl => exact rfl); k_whole); intro f' c' oc' vs' t' ct' h' tk' ps' F' N' d1' d2' hC' hne' hT' hO' l1 l2; (try dsimp only at N'); (try k_lt l1); (try k_lt2 l2); (try k_sweep)))
local macro_rules | `(tactic| walk_at "call ref") => `(tactic| (k_here; (with_reducible show wpAny _ _ (call (Value.ref 97) [_, _, Value.none]) _ _ _); k_dflt (refine' gw2n ?oB ?oF ?oX ?oXB ?oT ?oTB ?oN ?o1 ?o2 ?o3 ?o4 ?o5 ?ocv ?ocq ?ov ?oh ?oC ?_; (case oB => assumption); (case oF => k_asm); (case oX => assumption); (case oXB => assumption); (case oT => assumption); (case oTB => assumption); (case oN => k_asm); (case o1 => k_memK); (case o2 => k_memK); (case o3 => k_memK); (case ov => assumption); (case o4 => k_memK); (case o5 => k_memK); (case ocv => assumption); (case ocq => assumption); (case oh => assumption); (case oC => assumption); k_whole); intro e' D' lt' te' T' t1' t2' t3' h' tk' F' N'; (try k_sweep)))
local macro_rules | `(tactic| walk_at "call ref") => `(tactic| (k_here; (with_reducible show wpAny _ _ (call (Value.ref 83) [Value.ref _]) _ _ _); k_dflt (refine' status_e ?oB ?oF ?oX ?oT ?oN ?o1 ?o2 ?_; (case oB => assumption); (case oF => k_asm); (case oX => assumption); (case oT => assumption); (case oN => k_asm); (case o1 => k_memK); (case o2 => k_memK); k_whole); intro tn' h' tk' F' N'; (try simp only [if_true, if_false, Bool.false_eq_true]); (try k_sweep)))
local macro_rules | `(tactic| walk_at "compareOp NotEq") => `(tactic| (k_dflt (refine same_use (by assumption) ?_)))

set_option maxRecDepth 100000 in
set_option maxHeartbeats 4000000 in
theorem tail12 {w : World} {base h₀ : Heap} {L fa : Addr} {m mg mb : Str → Option Value} {s : Shared} {p : Program} {loose : List Str} {mean : ExcName → Option Value}
    {news rest ks ow : List (Addr × Obj)} {e1 D1 lt1 te1 : Addr} {v v' tb1 cx1 : Value} {o2 : Obj} {t11 t12 t13 td : Tok} {b : Bool} {d : Int} {ps : Array Value} {adr : List Addr} {Q : Flow → Shared → Prop} {E : Value → Shared → Prop}
    (B : Below callerA base [] h₀) (F : Fr h₀ L s.heap m) (X : (hd.heap_39 w.params).In h₀) (XB : (hd.heap_39 w.params).In base) (T : Top p loose mean mg mb h₀) (TB : Top p loose mean mg mb base) (hm : ∀ p ∈ [(Str.ofString "due", v'), (Str.ofString "depth", Value.int d td)], m p.1 = some p.2)
    (N : News h₀ L s.heap news) (Wd : Wo 141 news rest) (mP : ((141 : Nat), tabObj ps) ∈ news) (m2 : ((L + 1 : Nat), o2) ∈ rest) (h2 : o2.data = .cell (some (.ref e1))) (m4 : (e1, excO 66 D1 te1 tb1 cx1) ∈ rest) (m5 : (D1, dictOf (exD w.params t11 t12 t13 v lt1 b) 3) ∈ rest)
    (hh : handedIn v = true) (hs : SameV PySem.Challenge.rw_pq0676_01.row.prog w v v') (hC : Codes ks ps (Str.ofString "law.<locals>.<lambda>")) (hk : ∀ p ∈ ks, p ∈ rest) (ht : TbOff ow ks) (hi : ∀ p ∈ ow, p ∈ rest) (ho : OwnOff ks adr) (ha : ∀ b ∈ adr, ∃ o, (b, o) ∈ ((141 : Nat), tabObj ps) :: rest) (C : CodeHd base 143 141)
    (k : ∀ c2 oc2 ps' h' tk, Codes ((c2, oc2) :: ks) ps' (Str.ofString "law.<locals>.<lambda>") → TbOff ow ((c2, oc2) :: ks) → OwnOff ((c2, oc2) :: ks) adr → Fr h₀ L h' m → News h₀ L h' ((c2, oc2) :: (141, tabObj ps') :: rest) → Q .next { s with heap := h', toks := tk }) :
    Hdn (wpAny (model PySem.Challenge.rw_pq0676_01.row.prog w) (callerA.deeper (envOfC (Str.ofString "law") lawScope L fa (.ref 143))) (execs (turnFrom 12) (envOfC (Str.ofString "law") lawScope L fa (.ref 143))) Q E s) := by
  refine ⟨?_⟩
  have hMk := kstMark
  have O : OwnOff rest [141] := fun q hq b hb => by rw [List.mem_singleton.mp hb]; exact (Wd.sub q hq).2
  have ha₁ : ∀ z ∈ adr, ∃ o, (z, o) ∈ ((141 : Nat), tabObj ps) :: ((L + 1 : Nat), o2) :: (e1, excO 66 D1 te1 tb1 cx1) :: (D1, dictOf (exD w.params t11 t12 t13 v lt1 b) 3) :: rest := fun z hz => by
    obtain ⟨o, ho⟩ := ha z hz
    rcases List.mem_cons.mp ho with e | e
    · exact ⟨o, e ▸ .head _⟩
    · exact ⟨o, .tail _ (.tail _ (.tail _ (.tail _ e)))⟩
  have n2 := (Wd.sub _ m2).2
  have n4 := (Wd.sub _ m4).2
  have n5 := (Wd.sub _ m5).2
  have N₁ := News.less N (memIn mP (memIn (Wd.sub _ m2).1 (memIn (Wd.sub _ m4).1 (memIn (Wd.sub _ m5).1 fun q hq => (Wd.sub q hq).1))))
  have F₁ := F
  rw [mapL_of hm] at F₁
  dsimp only at n2 n4 n5
  clear N Wd mP m2 m4 m5 F
  revert X XB
  k_fill
  intro X XB
  dsimp only [turnFrom, lawScope, turnBody, lawFn, PySem.Challenge.pw_pq0676_01, List.reverse, List.reverseAux, List.drop] at ⊢
  w_strict (w_top off; k_steps)
  exact k _ _ _ _ _ (by assumption) (by assumption) (by assumption) (by rw [mapL_of hm]; assumption) (News.less (by assumption) (by walk_at "mine led"))

end
section
local macro_rules | `(tactic| walk_at "mine memr") => `(tactic| first | with_reducible exact List.Mem.head _ | (with_reducible refine List.Mem.tail _ ?_; walk_at "mine memr"))
local macro_rules | `(tactic| k_memK) => `(tactic| walk_at "mine memr")
local macro_rules | `(tactic| k_lt $h) => `(tactic| (replace $h := allLt_of $h))
local macro_rules | `(tactic| k_ne) => `(tactic| (refine neN ?_; (try dsimp only); first | assumption | exact (Ne.symm (by assumption)) | exact Nat.ne_of_lt (by assumption) | exact Nat.ne_of_gt (by assumption) | exact allLt_ne (by assumption) (by k_memK) | exact (allLt_ne (by assumption) (by k_memK)).symm | exact allNe_mem (by assumption) (by k_memK) | exact (allNe_mem (by assumption) (by k_memK)).symm | exact allLt_ne2 (by assumption) (by assumption) (by k_memK) | exact (allLt_ne2 (by assumption) (by assumption) (by k_memK)).symm | exact allLt_ne1 (by assumption) (by k_memK) | exact (allLt_ne1 (by assumption) (by k_memK)).symm | exact neAll_mem (by assumption) (by k_memK) | exact (neAll_mem (by assumption) (by k_memK)).symm | exact offHead (by assumption) (by k_memK) | exact (offHead (by assumption) (by k_memK)).symm))
local macro_rules | `(tactic| walk_at "mine in") => `(tactic| (intro p9 h9; (repeat' (first | exact h9 | exact List.mem_append_left _ h9 | exact List.mem_append_right _ h9 | refine List.Mem.tail _ ?_)); done))
local macro_rules | `(tactic| k_all) => `(tactic| first | exact List.forall_mem_nil _ | (with_reducible refine List.forall_mem_cons.mpr ⟨?a, ?b⟩; (case a => k_ne); (case b => k_all)) | exact OwnOff.ne (by assumption) (by k_memK) | exact ltTl (by assumption) (by walk_at "mine in") | exact neTl (by assumption) (by walk_at "mine in") | exact ltTl2 (by assumption) (by assumption) (by walk_at "mine in"))
local macro_rules | `(tactic| walk_at "mine led") => `(tactic| first | (refine List.forall_mem_cons.mpr ⟨by k_memK, ?_⟩; walk_at "mine led") | exact List.forall_mem_nil _ | (refine List.forall_mem_append.mpr ⟨?y1, ?y2⟩; (case y1 => walk_at "mine led"); (case y2 => walk_at "mine led")) | walk_at "mine in")
local macro_rules | `(tactic| walk_at "mine lts") => `(tactic| first | assumption | exact ltSuf (by assumption) (by walk_at "mine in") | (refine allLt_cons (by assumption) (by k_memK) ?_; walk_at "mine lts"))
local macro_rules | `(tactic| walk_at "mine nes") => `(tactic| first | assumption | exact allNe_nil | exact neSuf (by assumption) (by walk_at "mine in") | exact ltSufNe (by assumption) (by walk_at "mine in") | (refine allNe_one (by k_ne) ?_; walk_at "mine nes"))
local macro_rules | `(tactic| walk_at "mine map") => `(tactic| first | exact List.forall_mem_nil _ | (refine List.forall_mem_cons.mpr ⟨rfl, ?_⟩; walk_at "mine map"))

local macro_rules | `(tactic| walk_at "callWith ref") => `(tactic| (k_here; k_dflt (refine' callWith_K ?cwa ?cwb ?_; (case cwa => k_asm); (case cwb => k_is); k_whole)))
local macro_rules | `(tactic| walk_at "call ref") => `(tactic| (k_here; (with_reducible show wpAny _ _ (call (Value.ref 118) _) _ _ _); k_dflt (refine' next_ok ?xB ?xF ?xX ?xT ?xN ?xU ?xD ?xr ?xI ?xl ?x0 ?x1 ?x2 ?x3 ?_; (case xI => assumption); (case xB => k_asm); (case xF => k_asm); (case xX => k_asm); (case xT => k_asm); (case xN => k_asm); (case xU => k_updF); (case xD => k_memK); (case xr => k_ne); (case xl => assumption); (case x0 => omega); (case x1 => omega); (case x2 => omega); (case x3 => omega); k_whole); intro k' t1' t2' tk' h' lo' hi' F' N'; (try dsimp only at N'); (try k_sweep)))
local macro_rules | `(tactic| walk_at "subscriptTail") => `(tactic| (k_here; (with_reducible show wpAny _ _ (subscriptTail _ _ (Value.ref _) (Value.int _ _)) _ _ _); k_dflt (refine' sub_four ?k1 ?k2 ?k3 ?k4 ?k6 ?k7; (case k1 => k_asm); (case k2 => k_memK); (case k3 => assumption); (case k4 => assumption); (case k7 => with_unfolding_all rfl); k_whole); intro v' hS' hH'))
local macro_rules | `(tactic| walk_at "execs cons") => `(tactic| ((with_reducible show wpAny _ _ (execs [_, _, _, _, _, _, _, _, _, _, _] (envOfC _ _ _ _ _)) _ _ _); refine Hdn.out ?_))
section
variable {w : World} {base h₀ : Heap} {L fa : Addr} {m mg mb : Str → Option Value} {s : Shared} {p : Program} {loose : List Str} {mean : ExcName → Option Value} {Q : Flow → Shared → Prop} {E : Value → Shared → Prop}
set_option maxRecDepth 100000 in
set_option maxHeartbeats 4000000 in
theorem segA {r Ds : Addr} {ws : List Value} {ns : List Int} {w1 : Obj} {b1 : Option Value} {n : Int} {tn : Tok} {rest : List (Addr × Obj)} (B : Below callerA base [] h₀) (F : Fr h₀ L s.heap m) (X : (hd.heap_39 w.params).In h₀) (T : Top p loose mean mg mb h₀) (hI : IntsAre ws ns) (hl : ns.length ≤ 63) (hn0 : 0 ≤ n) (hn1 : n ≤ 50)
    (hm : ∀ p ∈ [((Str.ofString "rope"), Value.ref r)], m p.1 = some p.2) (hw1 : w1.data = .cell b1) (z1 : GnNe r ((Ds, instObj 0 0) :: ((L + 1 + 1 : Nat), instObj 0 0) :: [])) (z2 : GnNe Ds (((L + 1 + 1 : Nat), instObj 0 0) :: [])) (O : OwnOff rest [r, Ds, (L + 1 + 1 : Nat)])
    (N : News h₀ L s.heap ((r, W.listOf #[.ref Ds, .int n tn] 0) :: (Ds, W.listOf ws.toArray 0) :: ((L + 1 + 1 : Nat), w1) :: rest))
    (kk : ∀ (v : Value) (o1 : Obj) (k d mo n' : Int) (tk td tmo tn' : Tok) h' tk' m', Fr h₀ L h' m' → News h₀ L h' ((r, W.listOf #[.ref Ds, .int n' tn'] 0) :: (Ds, W.listOf ws.toArray 0) :: ((L + 1 + 1 : Nat), o1) :: rest) →
      (∀ p ∈ [((Str.ofString "rope"), Value.ref r), ((Str.ofString "kind"), Value.int k tk), ((Str.ofString "depth"), Value.int d td), ((Str.ofString "most"), Value.int mo tmo)], m' p.1 = some p.2) → SameV PySem.Challenge.rw_pq0676_01.row.prog w v v → handedIn v = true → o1.data = .cell (some v) → 0 ≤ k → k < 6 → 0 ≤ d → d < 4 → 4 ≤ mo → mo < 7 → n' = n + 4 → Hdn (wpAny (model PySem.Challenge.rw_pq0676_01.row.prog w) (callerA.deeper (envOfC (Str.ofString "law") lawScope L fa (.ref 143))) (execs (turnFrom 2) (envOfC (Str.ofString "law") lawScope L fa (.ref 143))) Q E { s with heap := h', toks := tk' })) :
    Hdn (wpAny (model PySem.Challenge.rw_pq0676_01.row.prog w) (callerA.deeper (envOfC (Str.ofString "law") lawScope L fa (.ref 143))) (execs (turnFrom 0) (envOfC (Str.ofString "law") lawScope L fa (.ref 143))) Q E s) := by
  refine ⟨?_⟩
  have hMk := kstMark
  rw [mapL_of hm] at F
  clear hm
  revert X
  k_fill
  intro X
  dsimp only [turnFrom, lawScope, turnBody, lawFn, PySem.Challenge.pw_pq0676_01, List.reverse, List.reverseAux, List.drop] at kk ⊢
  w_strict (w_top off; k_steps)
  refine (kk _ _ _ _ _ _ _ _ _ _ _ _ _ (by k_asm) (News.less (by k_asm) (by walk_at "mine led")) (by walk_at "mine map") (by k_asm) (by k_asm) (by k_asm) (by k_asm) (by k_asm) (by k_asm) (by k_asm) (by omega) (by omega) (by omega))
end


end
section
local macro_rules | `(tactic| walk_at "mine memr") => `(tactic| first | with_reducible exact List.Mem.head _ | (with_reducible refine List.Mem.tail _ ?_; walk_at "mine memr"))
local macro_rules | `(tactic| k_memK) => `(tactic| walk_at "mine memr")
local macro_rules | `(tactic| k_lt $h) => `(tactic| (replace $h := allLt_of $h))
local macro_rules | `(tactic| k_ne) => `(tactic| (refine neN ?_; (try dsimp only); first | assumption | exact (Ne.symm (by assumption)) | exact Nat.ne_of_lt (by assumption) | exact Nat.ne_of_gt (by assumption) | exact allLt_ne (by assumption) (by k_memK) | exact (allLt_ne (by assumption) (by k_memK)).symm | exact allNe_mem (by assumption) (by k_memK) | exact (allNe_mem (by assumption) (by k_memK)).symm | exact allLt_ne2 (by assumption) (by assumption) (by k_memK) | exact (allLt_ne2 (by assumption) (by assumption) (by k_memK)).symm | exact allLt_ne1 (by assumption) (by k_memK) | exact (allLt_ne1 (by assumption) (by k_memK)).symm | exact neAll_mem (by assumption) (by k_memK) | exact (neAll_mem (by assumption) (by k_memK)).symm | exact offHead (by assumption) (by k_memK) | exact (offHead (by assumption) (by k_memK)).symm))
local macro_rules | `(tactic| walk_at "mine in") => `(tactic| (intro p9 h9; (repeat' (first | exact h9 | exact List.mem_append_left _ h9 | exact List.mem_append_right _ h9 | refine List.Mem.tail _ ?_)); done))
local macro_rules | `(tactic| k_all) => `(tactic| first | exact List.forall_mem_nil _ | (with_reducible refine List.forall_mem_cons.mpr ⟨?a, ?b⟩; (case a => k_ne); (case b => k_all)) | exact OwnOff.ne (by assumption) (by k_memK) | exact ltTl (by assumption) (by walk_at "mine in") | exact neTl (by assumption) (by walk_at "mine in") | exact ltTl2 (by assumption) (by assumption) (by walk_at "mine in"))
local macro_rules | `(tactic| walk_at "mine led") => `(tactic| first | (refine List.forall_mem_cons.mpr ⟨by k_memK, ?_⟩; walk_at "mine led") | exact List.forall_mem_nil _ | (refine List.forall_mem_append.mpr ⟨?y1, ?y2⟩; (case y1 => walk_at "mine led"); (case y2 => walk_at "mine led")) | walk_at "mine in")
local macro_rules | `(tactic| walk_at "mine lts") => `(tactic| first | assumption | exact ltSuf (by assumption) (by walk_at "mine in") | (refine allLt_cons (by assumption) (by k_memK) ?_; walk_at "mine lts"))
local macro_rules | `(tactic| walk_at "mine nes") => `(tactic| first | assumption | exact allNe_nil | exact neSuf (by assumption) (by walk_at "mine in") | exact ltSufNe (by assumption) (by walk_at "mine in") | (refine allNe_one (by k_ne) ?_; walk_at "mine nes"))
local macro_rules | `(tactic| walk_at "mine map") => `(tactic| first | exact List.forall_mem_nil _ | (refine List.forall_mem_cons.mpr ⟨rfl, ?_⟩; walk_at "mine map"))

local macro_rules | `(tactic| walk_at "callWith ref") => `(tactic| (k_here; k_dflt (refine' callWith_K ?cwa ?cwb ?_; (case cwa => k_asm); (case cwb => k_is); k_whole)))
local macro_rules | `(tactic| walk_at "execs cons") => `(tactic| ((with_reducible show wpAny _ _ (execs [_, _, _, _, _, _, _, _, _, _] (envOfC _ _ _ _ _)) _ _ _); refine Hdn.out ?_))
section
variable {w : World} {base h₀ : Heap} {L fa : Addr} {m mg mb : Str → Option Value} {s : Shared} {p : Program} {loose : List Str} {mean : ExcName → Option Value} {Q : Flow → Shared → Prop} {E : Value → Shared → Prop}
set_option maxRecDepth 100000 in
set_option maxHeartbeats 4000000 in
theorem segB {r : Addr} {k d mo : Int} {tk td tmo : Tok} {news : List (Addr × Obj)} (B : Below callerA base [] h₀) (F : Fr h₀ L s.heap m) (X : (hd.heap_39 w.params).In h₀) (T : Top p loose mean mg mb h₀)
    (hm : ∀ p ∈ [((Str.ofString "rope"), Value.ref r), ((Str.ofString "kind"), Value.int k tk), ((Str.ofString "depth"), Value.int d td), ((Str.ofString "most"), Value.int mo tmo)], m p.1 = some p.2) (hk0 : 0 ≤ k) (hk6 : k < 6) (hd0 : 0 ≤ d) (hd4 : d < 4)
    (N : News h₀ L s.heap news)
    (kk : ∀ (t : Int) (tt : Tok) h' tk' m', Fr h₀ L h' m' → News h₀ L h' news → (∀ p ∈ [((Str.ofString "rope"), Value.ref r), ((Str.ofString "kind"), Value.int k tk), ((Str.ofString "depth"), Value.int d td), ((Str.ofString "most"), Value.int mo tmo), ((Str.ofString "times"), Value.int t tt)], m' p.1 = some p.2) → 0 ≤ t → Hdn (wpAny (model PySem.Challenge.rw_pq0676_01.row.prog w) (callerA.deeper (envOfC (Str.ofString "law") lawScope L fa (.ref 143))) (execs (turnFrom 3) (envOfC (Str.ofString "law") lawScope L fa (.ref 143))) Q E { s with heap := h', toks := tk' })) :
    Hdn (wpAny (model PySem.Challenge.rw_pq0676_01.row.prog w) (callerA.deeper (envOfC (Str.ofString "law") lawScope L fa (.ref 143))) (execs (turnFrom 2) (envOfC (Str.ofString "law") lawScope L fa (.ref 143))) Q E s) := by
  refine ⟨?_⟩
  have hMk := kstMark
  rw [mapL_of hm] at F
  clear hm
  have h6 : k = 0 ∨ k = 1 ∨ k = 2 ∨ k = 3 ∨ k = 4 ∨ k = 5 := by omega
  clear hk0 hk6
  revert X
  k_fill
  intro X
  dsimp only [turnFrom, lawScope, turnBody, lawFn, PySem.Challenge.pw_pq0676_01, List.reverse, List.reverseAux, List.drop] at kk ⊢
  rcases h6 with rfl | rfl | rfl | rfl | rfl | rfl
  all_goals (w_strict (w_top off; k_steps))
  all_goals (first | (exfalso; omega) | refine (kk _ _ _ _ _ (by k_asm) (News.less (by k_asm) (by walk_at "mine in")) (by walk_at "mine map") (by first | omega | exact t4_lo _)))
end


end
section
local macro_rules | `(tactic| walk_at "mine pad 0") => `(tactic| fail)
local macro_rules | `(tactic| walk_at "mine memr") => `(tactic| first | with_reducible exact List.Mem.head _ | (with_reducible refine List.Mem.tail _ ?_; walk_at "mine memr"))
local macro_rules | `(tactic| k_memK) => `(tactic| walk_at "mine memr")
local macro_rules | `(tactic| k_lt $h) => `(tactic| (replace $h := allLt_of $h))
local macro_rules | `(tactic| k_ne) => `(tactic| (refine neN ?_; (try dsimp only); first | assumption | exact (Ne.symm (by assumption)) | exact Nat.ne_of_lt (by assumption) | exact Nat.ne_of_gt (by assumption) | exact allLt_ne (by assumption) (by k_memK) | exact (allLt_ne (by assumption) (by k_memK)).symm | exact allNe_mem (by assumption) (by k_memK) | exact (allNe_mem (by assumption) (by k_memK)).symm | exact allLt_ne2 (by assumption) (by assumption) (by k_memK) | exact (allLt_ne2 (by assumption) (by assumption) (by k_memK)).symm | exact allLt_ne1 (by assumption) (by k_memK) | exact (allLt_ne1 (by assumption) (by k_memK)).symm | exact neAll_mem (by assumption) (by k_memK) | exact (neAll_mem (by assumption) (by k_memK)).symm | exact offHead (by assumption) (by k_memK) | exact (offHead (by assumption) (by k_memK)).symm))
local macro_rules | `(tactic| walk_at "mine in") => `(tactic| (intro p9 h9; (repeat' (first | exact h9 | exact List.mem_append_left _ h9 | exact List.mem_append_right _ h9 | refine List.Mem.tail _ ?_)); done))
local macro_rules | `(tactic| k_all) => `(tactic| first | exact List.forall_mem_nil _ | (with_reducible refine List.forall_mem_cons.mpr ⟨?a, ?b⟩; (case a => k_ne); (case b => k_all)) | exact OwnOff.ne (by assumption) (by k_memK) | exact ltTl (by assumption) (by walk_at "mine in") | exact neTl (by assumption) (by walk_at "mine in") | exact ltTl2 (by assumption) (by assumption) (by walk_at "mine in"))
local macro_rules | `(tactic| walk_at "mine led") => `(tactic| first | (refine List.forall_mem_cons.mpr ⟨by k_memK, ?_⟩; walk_at "mine led") | exact List.forall_mem_nil _ | (refine List.forall_mem_append.mpr ⟨?y1, ?y2⟩; (case y1 => walk_at "mine led"); (case y2 => walk_at "mine led")) | walk_at "mine in")
local macro_rules | `(tactic| walk_at "mine lts") => `(tactic| first | assumption | exact ltSuf (by assumption) (by walk_at "mine in") | (refine allLt_cons (by assumption) (by k_memK) ?_; walk_at "mine lts"))
local macro_rules | `(tactic| walk_at "mine nes") => `(tactic| first | assumption | exact allNe_nil | exact neSuf (by assumption) (by walk_at "mine in") | exact ltSufNe (by assumption) (by walk_at "mine in") | (refine allNe_one (by k_ne) ?_; walk_at "mine nes"))
local macro_rules | `(tactic| walk_at "mine map") => `(tactic| first | exact List.forall_mem_nil _ | (refine List.forall_mem_cons.mpr ⟨rfl, ?_⟩; walk_at "mine map"))

local macro_rules | `(tactic| walk_at "callWith ref") => `(tactic| (k_here; k_dflt (refine' callWith_K ?cwa ?cwb ?_; (case cwa => k_asm); (case cwb => k_is); k_whole)))
local macro_rules | `(tactic| walk_at "execs cons") => `(tactic| ((with_reducible show wpAny _ _ (execs [_, _, _, _, _, _, _, _, _] (envOfC _ _ _ _ _)) _ _ _); refine Hdn.out ?_))
section
variable {w : World} {base h₀ : Heap} {L fa : Addr} {m mg mb : Str → Option Value} {s : Shared} {p : Program} {loose : List Str} {mean : ExcName → Option Value} {Q : Flow → Shared → Prop} {E : Value → Shared → Prop}
set_option maxRecDepth 100000 in
set_option maxHeartbeats 4000000 in
theorem seg3 {r : Addr} {k d mo t : Int} {tk td tmo tt : Tok} {news : List (Addr × Obj)} (B : Below callerA base [] h₀) (F : Fr h₀ L s.heap m) (X : (hd.heap_39 w.params).In h₀) (T : Top p loose mean mg mb h₀)
    (hm : ∀ p ∈ [((Str.ofString "rope"), Value.ref r), ((Str.ofString "kind"), Value.int k tk), ((Str.ofString "depth"), Value.int d td), ((Str.ofString "most"), Value.int mo tmo), ((Str.ofString "times"), Value.int t tt)], m p.1 = some p.2) (hk2 : k < 2)
    (N : News h₀ L s.heap news)
    (kk : ∀ h' tk' m', Fr h₀ L h' m' → News h₀ L h' news → (∀ p ∈ [((Str.ofString "rope"), Value.ref r), ((Str.ofString "kind"), Value.int k tk), ((Str.ofString "depth"), Value.int d td), ((Str.ofString "most"), Value.int mo tmo), ((Str.ofString "times"), Value.int t tt), ((Str.ofString "handling"), Value.none)], m' p.1 = some p.2) → Hdn (wpAny (model PySem.Challenge.rw_pq0676_01.row.prog w) (callerA.deeper (envOfC (Str.ofString "law") lawScope L fa (.ref 143))) (execs (turnFrom 4) (envOfC (Str.ofString "law") lawScope L fa (.ref 143))) Q E { s with heap := h', toks := tk' })) :
    Hdn (wpAny (model PySem.Challenge.rw_pq0676_01.row.prog w) (callerA.deeper (envOfC (Str.ofString "law") lawScope L fa (.ref 143))) (execs (turnFrom 3) (envOfC (Str.ofString "law") lawScope L fa (.ref 143))) Q E s) := by
  refine ⟨?_⟩
  have hMk := kstMark
  rw [mapL_of hm] at F
  clear hm
  revert X
  k_fill
  intro X
  dsimp only [turnFrom, lawScope, turnBody, lawFn, PySem.Challenge.pw_pq0676_01, List.reverse, List.reverseAux, List.drop] at kk ⊢
  w_strict (w_top off; k_steps)
  refine (kk _ _ _ (by k_asm) (News.less (by k_asm) (by walk_at "mine in")) (by walk_at "mine map"))
end


end
section
local macro_rules | `(tactic| walk_at "mine pad 0") => `(tactic| fail)
local macro_rules | `(tactic| walk_at "mine pad 1") => `(tactic| fail)
local macro_rules | `(tactic| walk_at "mine memr") => `(tactic| first | with_reducible exact List.Mem.head _ | (with_reducible refine List.Mem.tail _ ?_; walk_at "mine memr"))
local macro_rules | `(tactic| k_memK) => `(tactic| walk_at "mine memr")
local macro_rules | `(tactic| k_lt $h) => `(tactic| (replace $h := allLt_of $h))
local macro_rules | `(tactic| k_ne) => `(tactic| (refine neN ?_; (try dsimp only); first | assumption | exact (Ne.symm (by assumption)) | exact Nat.ne_of_lt (by assumption) | exact Nat.ne_of_gt (by assumption) | exact allLt_ne (by assumption) (by k_memK) | exact (allLt_ne (by assumption) (by k_memK)).symm | exact allNe_mem (by assumption) (by k_memK) | exact (allNe_mem (by assumption) (by k_memK)).symm | exact allLt_ne2 (by assumption) (by assumption) (by k_memK) | exact (allLt_ne2 (by assumption) (by assumption) (by k_memK)).symm | exact allLt_ne1 (by assumption) (by k_memK) | exact (allLt_ne1 (by assumption) (by k_memK)).symm | exact neAll_mem (by assumption) (by k_memK) | exact (neAll_mem (by assumption) (by k_memK)).symm | exact offHead (by assumption) (by k_memK) | exact (offHead (by assumption) (by k_memK)).symm))
local macro_rules | `(tactic| walk_at "mine in") => `(tactic| (intro p9 h9; (repeat' (first | exact h9 | exact List.mem_append_left _ h9 | exact List.mem_append_right _ h9 | refine List.Mem.tail _ ?_)); done))
local macro_rules | `(tactic| k_all) => `(tactic| first | exact List.forall_mem_nil _ | (with_reducible refine List.forall_mem_cons.mpr ⟨?a, ?b⟩; (case a => k_ne); (case b => k_all)) | exact OwnOff.ne (by assumption) (by k_memK) | exact ltTl (by assumption) (by walk_at "mine in") | exact neTl (by assumption) (by walk_at "mine in") | exact ltTl2 (by assumption) (by assumption) (by walk_at "mine in"))
local macro_rules | `(tactic| walk_at "mine led") => `(tactic| first | (refine List.forall_mem_cons.mpr ⟨by k_memK, ?_⟩; walk_at "mine led") | exact List.forall_mem_nil _ | (refine List.forall_mem_append.mpr ⟨?y1, ?y2⟩; (case y1 => walk_at "mine led"); (case y2 => walk_at "mine led")) | walk_at "mine in")
local macro_rules | `(tactic| walk_at "mine lts") => `(tactic| first | assumption | exact ltSuf (by assumption) (by walk_at "mine in") | (refine allLt_cons (by assumption) (by k_memK) ?_; walk_at "mine lts"))
local macro_rules | `(tactic| walk_at "mine nes") => `(tactic| first | assumption | exact allNe_nil | exact neSuf (by assumption) (by walk_at "mine in") | exact ltSufNe (by assumption) (by walk_at "mine in") | (refine allNe_one (by k_ne) ?_; walk_at "mine nes"))
local macro_rules | `(tactic| walk_at "mine map") => `(tactic| first | exact List.forall_mem_nil _ | (refine List.forall_mem_cons.mpr ⟨rfl, ?_⟩; walk_at "mine map"))


/-- as ans_n: the list of times lies at the ledger's head -/
theorem ans_c {w : World} {base h₀ : Heap} {L a : Addr} {m mg mb : Str → Option Value} {cn : Str} {nn : List (Str × NameKind)} {mm : List (Str × Const)} {cd : Value} {cl : List (Str × Addr)} {s : Shared} {p : Program} {loose : List Str} {mean : ExcName → Option Value}
    {rest ks ow : List (Addr × Obj)} {lt : Addr} {o : Obj} {ps : Array Value} {adr : List Addr} {Q : Value → Shared → Prop} {E : Value → Shared → Prop}
    (B : Below callerA base [] h₀) (F : Fr h₀ L s.heap m) (X : (hd.heap_39 w.params).In h₀) (XB : (hd.heap_39 w.params).In base) (T : Top p loose mean mg mb h₀)
    (N : News h₀ L s.heap ((lt, o) :: (134, tabObj ps) :: rest)) (l : AllLt lt ((134, tabObj ps) :: rest)) (O : ∀ p ∈ rest, p.1 ≠ 134) (hC : Codes ks ps (Str.ofString "_law_answers.<locals>.answer")) (hk : ∀ p ∈ ks, p ∈ rest) (ht : TbOff ow ks) (hi : ∀ p ∈ ow, p ∈ rest) (ho : OwnOff ks adr) (ha : ∀ b ∈ adr, ∃ o, (b, o) ∈ ((134 : Nat), tabObj ps) :: rest)
    (C : CodeHd base 138 134)
    (h : ∀ (fA cA cT : Addr) (ocA oT : Obj) (doc pm ctv : Value) (vs : Array Value) (t : Tok) (ps' : Array Value) h' tk, Fr h₀ L h' m →
      News h₀ L h' ((fA, fnMade (Str.ofString "answer") (Str.ofString "_law_answers.<locals>.answer") ansArgs ansBody ansScope [(Str.ofString "times", cT)] doc pm cA ctv) :: (cA, ocA) :: (cT, oT) :: (134, tabObj ps') :: (lt, o) :: rest) →
      ocA.data = .fields vs → vs[1]? = some (.str (Str.ofString "_law_answers.<locals>.answer") t) → oT.data = .cell (some (.ref lt)) → Codes ((cA, ocA) :: ks) ps' (Str.ofString "_law_answers.<locals>.answer") → TbOff ow ((cA, ocA) :: ks) → OwnOff ((cA, ocA) :: ks) (lt :: adr) →
      AllLt cT ((134, ocA) :: (lt, o) :: rest) → AllLt fA ((cT, ocA) :: (134, ocA) :: (lt, o) :: rest) → @LT.lt Nat _ cA fA → Q (.ref fA) { s with heap := h', toks := tk }) :
    wpAny (model PySem.Challenge.rw_pq0676_01.row.prog w) (callerA.deeper (envA cn nn mm L a cd cl)) (call (.ref 139) [.ref lt]) Q E s := by
  have l2 : AllLt lt rest := l.2
  refine ans_n (ks := ks) (ow := ow) (ex := []) (adr := lt :: adr) (rest := (lt, o) :: rest) B F X XB T N (Wo.keep (Nat.ne_of_gt l.1) (Wo.drop (Wo.nil O))) (.tail _ (.head _)) hC (tailIn hk) ExOk.nil ht (tailIn hi) ?_ ?_ C
    fun fA cA cT ocA oT doc pm ctv vs t ps' h' tk F' N' d1 d2 d3 c1 _ c3 c4 l1 l2 l3 => h fA cA cT ocA oT doc pm ctv vs t ps' h' tk F' N' d1 d2 d3 c1 c3 c4 l1 l2 l3
  · intro q hq b hb
    rcases List.mem_cons.mp hb with rfl | hb
    · exact allLt_ne l2 (hk q hq)
    · exact ho q hq b hb
  · intro b hb
    rcases List.mem_cons.mp hb with rfl | hb
    · exact ⟨o, .tail _ (.head _)⟩
    · obtain ⟨o', h'⟩ := ha b hb
      rcases List.mem_cons.mp h' with e | e
      · exact ⟨o', e ▸ .head _⟩
      · exact ⟨o', .tail _ (.tail _ e)⟩
local macro_rules | `(tactic| walk_at "callWith ref") => `(tactic| (k_here; k_dflt (refine' callWith_K ?cwa ?cwb ?_; (case cwa => k_asm); (case cwb => k_is); k_whole)))
local macro_rules | `(tactic| walk_at "call ref") => `(tactic| (k_here; (with_reducible show wpAny _ _ (call (Value.ref 139) _) _ _ _); k_dflt (refine' ans_c ?oB ?oF ?oX ?oXB ?oT ?oN ?ol ?oO ?oc ?ok ?ot ?oi ?oo ?oa ?oD ?_; (case oB => assumption); (case oF => k_asm); (case oX => assumption); (case oXB => assumption); (case oT => assumption); (case oN => k_asm); (case ol => assumption); (case oO => assumption); (case oc => assumption); (case ok => assumption); (case ot => assumption); (case oi => assumption); (case oo => assumption); (case oa => assumption); (case oD => assumption); k_whole); intro f' c' cT' oc' oT' dc' pm' ct' vs' t' ps' h' tk' F' N' d1' d2' d3' hC' hT' hO' l1 l2 l3; (try dsimp only at N'); (try k_sweep)))
local macro_rules | `(tactic| walk_at "execs cons") => `(tactic| ((with_reducible show wpAny _ _ (execs [_, _, _, _, _, _, _, _, _] (envOfC _ _ _ _ _)) _ _ _); refine Hdn.out ?_))
section
variable {w : World} {base h₀ : Heap} {L fa : Addr} {m mg mb : Str → Option Value} {s : Shared} {p : Program} {loose : List Str} {mean : ExcName → Option Value} {Q : Flow → Shared → Prop} {E : Value → Shared → Prop}
set_option maxRecDepth 100000 in
set_option maxHeartbeats 4000000 in
theorem segC {r : Addr} {k d mo t : Int} {tk td tmo tt : Tok} {rest ks ow : List (Addr × Obj)} {ps : Array Value} {adr : List Addr} (B : Below callerA base [] h₀) (F : Fr h₀ L s.heap m) (X : (hd.heap_39 w.params).In h₀) (T : Top p loose mean mg mb h₀) (XB : (hd.heap_39 w.params).In base) (TB : Top p loose mean mg mb base)
    (hm : ∀ p ∈ [((Str.ofString "rope"), Value.ref r), ((Str.ofString "kind"), Value.int k tk), ((Str.ofString "depth"), Value.int d td), ((Str.ofString "most"), Value.int mo tmo), ((Str.ofString "times"), Value.int t tt)], m p.1 = some p.2) (hk2 : 2 ≤ k)
    (N : News h₀ L s.heap (((134 : Nat), tabObj ps) :: rest)) (O : ∀ p ∈ rest, p.1 ≠ 134) (hC : Codes ks ps (Str.ofString "_law_answers.<locals>.answer")) (hks : ∀ p ∈ ks, p ∈ rest) (ht : TbOff ow ks) (hi : ∀ p ∈ ow, p ∈ rest) (ho : OwnOff ks adr) (ha : ∀ b ∈ adr, ∃ o, (b, o) ∈ ((134 : Nat), tabObj ps) :: rest) (C : CodeHd base 138 134)
    (kk : ∀ (lt fA cA cT tup : Addr) (ocA oT : Obj) (doc pm ctv : Value) (vs : Array Value) (tq tt' tm : Tok) (mo' : Int) (ps' : Array Value) h' tk' m', Fr h₀ L h' m' →
      News h₀ L h' ((tup, ({ cls := .type "tuple", data := .seq #[.ref fA, .int mo' tm] } : Obj)) :: (fA, fnMade (Str.ofString "answer") (Str.ofString "_law_answers.<locals>.answer") ansArgs ansBody ansScope [(Str.ofString "times", cT)] doc pm cA ctv) :: (cA, ocA) :: (cT, oT) :: ((134 : Nat), tabObj ps') :: (lt, W.listOf #[.int t tt'] 0) :: rest) → (∀ p ∈ [((Str.ofString "rope"), Value.ref r), ((Str.ofString "kind"), Value.int k tk), ((Str.ofString "depth"), Value.int d td), ((Str.ofString "most"), Value.int mo tmo), ((Str.ofString "times"), Value.int t tt), ((Str.ofString "handling"), Value.ref tup)], m' p.1 = some p.2) →
      ((k = 2 ∧ mo' = 0) ∨ (2 < k ∧ mo' = mo)) → ocA.data = .fields vs → vs[1]? = some (.str (Str.ofString "_law_answers.<locals>.answer") tq) → oT.data = .cell (some (.ref lt)) → Codes ((cA, ocA) :: ks) ps' (Str.ofString "_law_answers.<locals>.answer") → TbOff ow ((cA, ocA) :: ks) → OwnOff ((cA, ocA) :: ks) (lt :: adr) →
      AllLt lt (((134 : Nat), ocA) :: rest) → AllLt cT (((134 : Nat), ocA) :: (lt, ocA) :: rest) → AllLt fA ((cT, ocA) :: ((134 : Nat), ocA) :: (lt, ocA) :: rest) → AllLt tup ((fA, ocA) :: (cA, ocA) :: (cT, ocA) :: ((134 : Nat), ocA) :: (lt, ocA) :: rest) → Hdn (wpAny (model PySem.Challenge.rw_pq0676_01.row.prog w) (callerA.deeper (envOfC (Str.ofString "law") lawScope L fa (.ref 143))) (execs (turnFrom 4) (envOfC (Str.ofString "law") lawScope L fa (.ref 143))) Q E { s with heap := h', toks := tk' })) :
    Hdn (wpAny (model PySem.Challenge.rw_pq0676_01.row.prog w) (callerA.deeper (envOfC (Str.ofString "law") lawScope L fa (.ref 143))) (execs (turnFrom 3) (envOfC (Str.ofString "law") lawScope L fa (.ref 143))) Q E s) := by
  refine ⟨?_⟩
  have hMk := kstMark
  rw [mapL_of hm] at F
  clear hm
  have h6 : k = 2 ∨ 2 < k := by omega
  revert X XB
  k_fill
  intro X XB
  dsimp only [turnFrom, lawScope, turnBody, lawFn, PySem.Challenge.pw_pq0676_01, List.reverse, List.reverseAux, List.drop] at kk ⊢
  rcases h6 with h6 | h6
  all_goals (w_strict (w_top off; k_steps))
  all_goals (first | (exfalso; omega) | refine (kk _ _ _ _ _ _ _ _ _ _ _ _ _ _ _ _ _ _ _ (by k_asm) (News.less (by k_asm) (by walk_at "mine led")) (by walk_at "mine map") (by omega) (by k_asm) (by k_asm) (by k_asm) (by k_asm) (by k_asm) (by k_asm) (by walk_at "mine lts") (by walk_at "mine lts") (by walk_at "mine lts") (by walk_at "mine lts")))
end


end
section
local macro_rules | `(tactic| walk_at "mine memr") => `(tactic| first | with_reducible exact List.Mem.head _ | (with_reducible refine List.Mem.tail _ ?_; walk_at "mine memr"))
local macro_rules | `(tactic| k_memK) => `(tactic| walk_at "mine memr")
local macro_rules | `(tactic| k_lt $h) => `(tactic| (replace $h := allLt_of $h))
local macro_rules | `(tactic| k_ne) => `(tactic| (refine neN ?_; (try dsimp only); first | assumption | exact (Ne.symm (by assumption)) | exact Nat.ne_of_lt (by assumption) | exact Nat.ne_of_gt (by assumption) | exact allLt_ne (by assumption) (by k_memK) | exact (allLt_ne (by assumption) (by k_memK)).symm | exact allNe_mem (by assumption) (by k_memK) | exact (allNe_mem (by assumption) (by k_memK)).symm | exact allLt_ne2 (by assumption) (by assumption) (by k_memK) | exact (allLt_ne2 (by assumption) (by assumption) (by k_memK)).symm | exact allLt_ne1 (by assumption) (by k_memK) | exact (allLt_ne1 (by assumption) (by k_memK)).symm | exact neAll_mem (by assumption) (by k_memK) | exact (neAll_mem (by assumption) (by k_memK)).symm | exact offHead (by assumption) (by k_memK) | exact (offHead (by assumption) (by k_memK)).symm))
local macro_rules | `(tactic| walk_at "mine in") => `(tactic| (intro p9 h9; (repeat' (first | exact h9 | exact List.mem_append_left _ h9 | exact List.mem_append_right _ h9 | refine List.Mem.tail _ ?_)); done))
local macro_rules | `(tactic| k_all) => `(tactic| first | exact List.forall_mem_nil _ | (with_reducible refine List.forall_mem_cons.mpr ⟨?a, ?b⟩; (case a => k_ne); (case b => k_all)) | exact OwnOff.ne (by assumption) (by k_memK) | exact ltTl (by assumption) (by walk_at "mine in") | exact neTl (by assumption) (by walk_at "mine in") | exact ltTl2 (by assumption) (by assumption) (by walk_at "mine in"))
local macro_rules | `(tactic| walk_at "mine led") => `(tactic| first | (refine List.forall_mem_cons.mpr ⟨by k_memK, ?_⟩; walk_at "mine led") | exact List.forall_mem_nil _ | (refine List.forall_mem_append.mpr ⟨?y1, ?y2⟩; (case y1 => walk_at "mine led"); (case y2 => walk_at "mine led")) | walk_at "mine in")
local macro_rules | `(tactic| walk_at "mine lts") => `(tactic| first | assumption | exact ltSuf (by assumption) (by walk_at "mine in") | (refine allLt_cons (by assumption) (by k_memK) ?_; walk_at "mine lts"))
local macro_rules | `(tactic| walk_at "mine nes") => `(tactic| first | assumption | exact allNe_nil | exact neSuf (by assumption) (by walk_at "mine in") | exact ltSufNe (by assumption) (by walk_at "mine in") | (refine allNe_one (by k_ne) ?_; walk_at "mine nes"))
local macro_rules | `(tactic| walk_at "mine map") => `(tactic| first | exact List.forall_mem_nil _ | (refine List.forall_mem_cons.mpr ⟨rfl, ?_⟩; walk_at "mine map"))

local macro_rules | `(tactic| walk_at "callWith ref") => `(tactic| (k_here; k_dflt (refine' callWith_K ?cwa ?cwb ?_; (case cwa => k_asm); (case cwb => k_is); k_whole)))
local macro_rules | `(tactic| walk_at "eval Lambda") => `(tactic| (k_here; kn_here; k_dflt (refine' kla_eval ?d0 ?_; (case d0 => exact rfl)); k_dflt (refine' lam_any ?nF ?nN ?nT ?nC ?ncd ?nU ?nc ?nk ?nx ?nt ?ni ?no ?na ?ncl ?_; (case nc => assumption); (case nF => k_asm); (case nN => k_asm); (case nT => k_asm); (case ncd => exact rfl); (case nC => kn_code); (case nU => exact UpdF.head (by assumption)); (case nk => exact tailIn (by assumption)); (case nx => exact ExOk.nil); (case nt => assumption); (case ni => exact tailIn (by assumption)); (case no => assumption); (case na => assumption); (case ncl => exact rfl); k_whole); intro f' c' oc' vs' t' ct' h' tk' ps' F' N' d1' d2' hC' hne' hT' hO' l1 l2; (try dsimp only at N'); (try k_lt l1); (try k_lt2 l2); clear hne'; (try k_sweep)))
local macro_rules | `(tactic| walk_at "call ref") => `(tactic| (k_here; (with_reducible show wpAny _ _ (call (Value.ref 125) _) _ _ _); k_dflt (refine' holder_ok ?oB ?oF ?oX ?oT ?oN ?_; (case oB => assumption); (case oF => k_asm); (case oX => assumption); (case oT => assumption); (case oN => k_asm); k_whole); intro x' D' lS' lU' lF' t1' t2' t3' t4' t5' t6' tc' th' tt' t7' h' tk' F' N' l1' l2' l3' l4'; (try dsimp only at N'); (try k_sweep)))
local macro_rules | `(tactic| walk_at "execs cons") => `(tactic| ((with_reducible show wpAny _ _ (execs [_, _, _, _, _, _, _] (envOfC _ _ _ _ _)) _ _ _); refine Hdn.out ?_))
section
variable {w : World} {base h₀ : Heap} {L fa : Addr} {m mg mb : Str → Option Value} {s : Shared} {p : Program} {loose : List Str} {mean : ExcName → Option Value} {Q : Flow → Shared → Prop} {E : Value → Shared → Prop}
set_option maxRecDepth 100000 in
set_option maxHeartbeats 4000000 in
theorem segD {r : Addr} {hv : Value} {k d mo t : Int} {tk td tmo tt : Tok} {rest ks ow : List (Addr × Obj)} {ps : Array Value} {adr : List Addr} (B : Below callerA base [] h₀) (F : Fr h₀ L s.heap m) (X : (hd.heap_39 w.params).In h₀) (T : Top p loose mean mg mb h₀)
    (hm : ∀ p ∈ [((Str.ofString "rope"), Value.ref r), ((Str.ofString "kind"), Value.int k tk), ((Str.ofString "depth"), Value.int d td), ((Str.ofString "most"), Value.int mo tmo), ((Str.ofString "times"), Value.int t tt), ((Str.ofString "handling"), hv)], m p.1 = some p.2) (hk1 : 1 ≤ k)
    (N : News h₀ L s.heap (((141 : Nat), tabObj ps) :: rest)) (O : ∀ p ∈ rest, p.1 ≠ 141) (hC : Codes ks ps (Str.ofString "law.<locals>.<lambda>")) (hks : ∀ p ∈ ks, p ∈ rest) (ht : TbOff ow ks) (hi : ∀ p ∈ ow, p ∈ rest) (ho : OwnOff ks adr) (ha : ∀ b ∈ adr, ∃ o, (b, o) ∈ ((141 : Nat), tabObj ps) :: rest) (C : CodeHd base 143 141)
    (kk : ∀ (x D lS lU lF f c' : Addr) (oc : Obj) (name qual : Str) (pm ctv : Value) (vs : Array Value) (t1 t2 t3 t4 t5 t6 tc th tp t7 tq : Tok) (ps' : Array Value) h' tk' m', Fr h₀ L h' m' →
      News h₀ L h' ((x, instObj 38 D) :: (D, dictOf (hoD w.params t1 t2 t3 t4 t5 t6 tc th tp lS lU lF d 0 0) 6) :: (lU, W.listOf #[] 0) :: (lF, W.listOf #[.int 7 t7] 0) :: (f, kla_obj name qual lam1.1 lam1.2.1 lam1.2.2 [("value", (L + 1 + 1 : Nat))] pm c' ctv) :: (c', oc) :: ((141 : Nat), tabObj ps') :: rest) → (∀ p ∈ [((Str.ofString "rope"), Value.ref r), ((Str.ofString "kind"), Value.int k tk), ((Str.ofString "depth"), Value.int d td), ((Str.ofString "most"), Value.int mo tmo), ((Str.ofString "times"), Value.int t tt), ((Str.ofString "handling"), hv), ((Str.ofString "holder"), Value.ref x), ((Str.ofString "work"), Value.ref f)], m' p.1 = some p.2) →
      oc.data = .fields vs → vs[1]? = some (.str qual tq) → Codes ((c', oc) :: ks) ps' (Str.ofString "law.<locals>.<lambda>") → TbOff ow ((c', oc) :: ks) → OwnOff ((c', oc) :: ks) adr →
      AllLt f (((141 : Nat), oc) :: rest) → @LT.lt Nat _ c' f → AllLt D ((f, oc) :: (c', oc) :: ((141 : Nat), oc) :: rest) → @LT.lt Nat _ D x → @LT.lt Nat _ D lU → @LT.lt Nat _ D lF → Hdn (wpAny (model PySem.Challenge.rw_pq0676_01.row.prog w) (callerA.deeper (envOfC (Str.ofString "law") lawScope L fa (.ref 143))) (execs (turnFrom 6) (envOfC (Str.ofString "law") lawScope L fa (.ref 143))) Q E { s with heap := h', toks := tk' })) :
    Hdn (wpAny (model PySem.Challenge.rw_pq0676_01.row.prog w) (callerA.deeper (envOfC (Str.ofString "law") lawScope L fa (.ref 143))) (execs (turnFrom 4) (envOfC (Str.ofString "law") lawScope L fa (.ref 143))) Q E s) := by
  refine ⟨?_⟩
  have hMk := kstMark
  have f0 : ¬ (decide (k = 0) = true) := by (simp only [decide_eq_true_eq]; omega)
  rw [mapL_of hm] at F
  clear hm
  revert X
  k_fill
  intro X
  dsimp only [turnFrom, lawScope, turnBody, lawFn, PySem.Challenge.pw_pq0676_01, List.reverse, List.reverseAux, List.drop] at kk ⊢
  w_strict (w_top off; k_steps)
  all_goals (first | (exfalso; omega) | refine (kk _ _ _ _ _ _ _ _ _ _ _ _ _ _ _ _ _ _ _ _ _ _ _ _ _ _ _ _ (by k_asm) (News.less (by k_asm) (by walk_at "mine led")) (by walk_at "mine map") (by k_asm) (by k_asm) (by k_asm) (by k_asm) (by k_asm) (by walk_at "mine lts") (by k_asm) (by walk_at "mine lts") (by k_asm) (allLt_mem (by k_asm) (by k_memK)) (allLt_mem (by k_asm) (by k_memK))))
end


end
section
local macro_rules | `(tactic| walk_at "mine pad 0") => `(tactic| fail)
local macro_rules | `(tactic| walk_at "mine pad 1") => `(tactic| fail)
local macro_rules | `(tactic| walk_at "mine memr") => `(tactic| first | with_reducible exact List.Mem.head _ | (with_reducible refine List.Mem.tail _ ?_; walk_at "mine memr"))
local macro_rules | `(tactic| k_memK) => `(tactic| walk_at "mine memr")
local macro_rules | `(tactic| k_lt $h) => `(tactic| (replace $h := allLt_of $h))
local macro_rules | `(tactic| k_ne) => `(tactic| (refine neN ?_; (try dsimp only); first | assumption | exact (Ne.symm (by assumption)) | exact Nat.ne_of_lt (by assumption) | exact Nat.ne_of_gt (by assumption) | exact allLt_ne (by assumption) (by k_memK) | exact (allLt_ne (by assumption) (by k_memK)).symm | exact allNe_mem (by assumption) (by k_memK) | exact (allNe_mem (by assumption) (by k_memK)).symm | exact allLt_ne2 (by assumption) (by assumption) (by k_memK) | exact (allLt_ne2 (by assumption) (by assumption) (by k_memK)).symm | exact allLt_ne1 (by assumption) (by k_memK) | exact (allLt_ne1 (by assumption) (by k_memK)).symm | exact neAll_mem (by assumption) (by k_memK) | exact (neAll_mem (by assumption) (by k_memK)).symm | exact offHead (by assumption) (by k_memK) | exact (offHead (by assumption) (by k_memK)).symm))
local macro_rules | `(tactic| walk_at "mine in") => `(tactic| (intro p9 h9; (repeat' (first | exact h9 | exact List.mem_append_left _ h9 | exact List.mem_append_right _ h9 | refine List.Mem.tail _ ?_)); done))
local macro_rules | `(tactic| k_all) => `(tactic| first | exact List.forall_mem_nil _ | (with_reducible refine List.forall_mem_cons.mpr ⟨?a, ?b⟩; (case a => k_ne); (case b => k_all)) | exact OwnOff.ne (by assumption) (by k_memK) | exact ltTl (by assumption) (by walk_at "mine in") | exact neTl (by assumption) (by walk_at "mine in") | exact ltTl2 (by assumption) (by assumption) (by walk_at "mine in"))
local macro_rules | `(tactic| walk_at "mine led") => `(tactic| first | (refine List.forall_mem_cons.mpr ⟨by k_memK, ?_⟩; walk_at "mine led") | exact List.forall_mem_nil _ | (refine List.forall_mem_append.mpr ⟨?y1, ?y2⟩; (case y1 => walk_at "mine led"); (case y2 => walk_at "mine led")) | walk_at "mine in")
local macro_rules | `(tactic| walk_at "mine lts") => `(tactic| first | assumption | exact ltSuf (by assumption) (by walk_at "mine in") | (refine allLt_cons (by assumption) (by k_memK) ?_; walk_at "mine lts"))
local macro_rules | `(tactic| walk_at "mine nes") => `(tactic| first | assumption | exact allNe_nil | exact neSuf (by assumption) (by walk_at "mine in") | exact ltSufNe (by assumption) (by walk_at "mine in") | (refine allNe_one (by k_ne) ?_; walk_at "mine nes"))
local macro_rules | `(tactic| walk_at "mine map") => `(tactic| first | exact List.forall_mem_nil _ | (refine List.forall_mem_cons.mpr ⟨rfl, ?_⟩; walk_at "mine map"))

local macro_rules | `(tactic| walk_at "callWith ref") => `(tactic| (k_here; k_dflt (refine' callWith_K ?cwa ?cwb ?_; (case cwa => k_asm); (case cwb => k_is); k_whole)))
local macro_rules | `(tactic| walk_at "eval Lambda") => `(tactic| (k_here; kn_here; k_dflt (refine' kla_eval ?d0 ?_; (case d0 => exact rfl)); k_dflt (refine' lam_any ?nF ?nN ?nT ?nC ?ncd ?nU ?nc ?nk ?nx ?nt ?ni ?no ?na ?ncl ?_; (case nc => assumption); (case nF => k_asm); (case nN => k_asm); (case nT => k_asm); (case ncd => exact rfl); (case nC => kn_code); (case nU => exact UpdF.head (by assumption)); (case nk => exact tailIn (by assumption)); (case nx => exact ExOk.nil); (case nt => assumption); (case ni => exact tailIn (by assumption)); (case no => assumption); (case na => assumption); (case ncl => exact rfl); k_whole); intro f' c' oc' vs' t' ct' h' tk' ps' F' N' d1' d2' hC' hne' hT' hO' l1 l2; (try dsimp only at N'); (try k_lt l1); (try k_lt2 l2); clear hne'; (try k_sweep)))
local macro_rules | `(tactic| walk_at "call ref") => `(tactic| (k_here; (with_reducible show wpAny _ _ (call (Value.ref 125) _) _ _ _); k_dflt (refine' holder_ok ?oB ?oF ?oX ?oT ?oN ?_; (case oB => assumption); (case oF => k_asm); (case oX => assumption); (case oT => assumption); (case oN => k_asm); k_whole); intro x' D' lS' lU' lF' t1' t2' t3' t4' t5' t6' tc' th' tt' t7' h' tk' F' N' l1' l2' l3' l4'; (try dsimp only at N'); (try k_sweep)))
local macro_rules | `(tactic| walk_at "execs cons") => `(tactic| ((with_reducible show wpAny _ _ (execs [_, _, _, _, _, _, _] (envOfC _ _ _ _ _)) _ _ _); refine Hdn.out ?_))
section
variable {w : World} {base h₀ : Heap} {L fa : Addr} {m mg mb : Str → Option Value} {s : Shared} {p : Program} {loose : List Str} {mean : ExcName → Option Value} {Q : Flow → Shared → Prop} {E : Value → Shared → Prop}
set_option maxRecDepth 100000 in
set_option maxHeartbeats 4000000 in
theorem segD0 {r : Addr} {hv : Value} {k d mo t : Int} {tk td tmo tt : Tok} {rest ks ow : List (Addr × Obj)} {ps : Array Value} {adr : List Addr} (B : Below callerA base [] h₀) (F : Fr h₀ L s.heap m) (X : (hd.heap_39 w.params).In h₀) (T : Top p loose mean mg mb h₀)
    (hm : ∀ p ∈ [((Str.ofString "rope"), Value.ref r), ((Str.ofString "kind"), Value.int k tk), ((Str.ofString "depth"), Value.int d td), ((Str.ofString "most"), Value.int mo tmo), ((Str.ofString "times"), Value.int t tt), ((Str.ofString "handling"), hv)], m p.1 = some p.2) (hk0 : k = 0)
    (N : News h₀ L s.heap (((141 : Nat), tabObj ps) :: rest)) (O : ∀ p ∈ rest, p.1 ≠ 141) (hC : Codes ks ps (Str.ofString "law.<locals>.<lambda>")) (hks : ∀ p ∈ ks, p ∈ rest) (ht : TbOff ow ks) (hi : ∀ p ∈ ow, p ∈ rest) (ho : OwnOff ks adr) (ha : ∀ b ∈ adr, ∃ o, (b, o) ∈ ((141 : Nat), tabObj ps) :: rest) (C : CodeHd base 143 141)
    (kk : ∀ (x D lS lU lF f c' : Addr) (oc : Obj) (name qual : Str) (pm ctv : Value) (vs : Array Value) (t1 t2 t3 t4 t5 t6 tc th tp t7 tq : Tok) (ps' : Array Value) h' tk' m', Fr h₀ L h' m' →
      News h₀ L h' ((x, instObj 38 D) :: (D, dictOf (hoD w.params t1 t2 t3 t4 t5 t6 tc th tp lS lU lF d 0 0) 6) :: (lU, W.listOf #[] 0) :: (lF, W.listOf #[.int 7 t7] 0) :: (f, kla_obj name qual lam0.1 lam0.2.1 lam0.2.2 [] pm c' ctv) :: (c', oc) :: ((141 : Nat), tabObj ps') :: rest) → (∀ p ∈ [((Str.ofString "rope"), Value.ref r), ((Str.ofString "kind"), Value.int k tk), ((Str.ofString "depth"), Value.int d td), ((Str.ofString "most"), Value.int mo tmo), ((Str.ofString "times"), Value.int t tt), ((Str.ofString "handling"), hv), ((Str.ofString "holder"), Value.ref x), ((Str.ofString "work"), Value.ref f)], m' p.1 = some p.2) →
      oc.data = .fields vs → vs[1]? = some (.str qual tq) → Codes ((c', oc) :: ks) ps' (Str.ofString "law.<locals>.<lambda>") → TbOff ow ((c', oc) :: ks) → OwnOff ((c', oc) :: ks) adr →
      AllLt f (((141 : Nat), oc) :: rest) → @LT.lt Nat _ c' f → AllLt D ((f, oc) :: (c', oc) :: ((141 : Nat), oc) :: rest) → @LT.lt Nat _ D x → @LT.lt Nat _ D lU → @LT.lt Nat _ D lF → Hdn (wpAny (model PySem.Challenge.rw_pq0676_01.row.prog w) (callerA.deeper (envOfC (Str.ofString "law") lawScope L fa (.ref 143))) (execs (turnFrom 6) (envOfC (Str.ofString "law") lawScope L fa (.ref 143))) Q E { s with heap := h', toks := tk' })) :
    Hdn (wpAny (model PySem.Challenge.rw_pq0676_01.row.prog w) (callerA.deeper (envOfC (Str.ofString "law") lawScope L fa (.ref 143))) (execs (turnFrom 4) (envOfC (Str.ofString "law") lawScope L fa (.ref 143))) Q E s) := by
  refine ⟨?_⟩
  have hMk := kstMark
  subst hk0
  rw [mapL_of hm] at F
  clear hm
  revert X
  k_fill
  intro X
  dsimp only [turnFrom, lawScope, turnBody, lawFn, PySem.Challenge.pw_pq0676_01, List.reverse, List.reverseAux, List.drop] at kk ⊢
  w_strict (w_top off; k_steps)
  all_goals (first | (exfalso; omega) | refine (kk _ _ _ _ _ _ _ _ _ _ _ _ _ _ _ _ _ _ _ _ _ _ _ _ _ _ _ _ (by k_asm) (News.less (by k_asm) (by walk_at "mine led")) (by walk_at "mine map") (by k_asm) (by k_asm) (by k_asm) (by k_asm) (by k_asm) (by walk_at "mine lts") (by k_asm) (by walk_at "mine lts") (by k_asm) (allLt_mem (by k_asm) (by k_memK)) (allLt_mem (by k_asm) (by k_memK))))
end


end
section
local macro_rules | `(tactic| walk_at "mine memr") => `(tactic| first | with_reducible exact List.Mem.head _ | (with_reducible refine List.Mem.tail _ ?_; walk_at "mine memr"))
local macro_rules | `(tactic| k_memK) => `(tactic| walk_at "mine memr")
local macro_rules | `(tactic| k_lt $h) => `(tactic| (replace $h := allLt_of $h))
local macro_rules | `(tactic| k_ne) => `(tactic| (refine neN ?_; (try dsimp only); first | assumption | exact (Ne.symm (by assumption)) | exact Nat.ne_of_lt (by assumption) | exact Nat.ne_of_gt (by assumption) | exact allLt_ne (by assumption) (by k_memK) | exact (allLt_ne (by assumption) (by k_memK)).symm | exact allNe_mem (by assumption) (by k_memK) | exact (allNe_mem (by assumption) (by k_memK)).symm | exact allLt_ne2 (by assumption) (by assumption) (by k_memK) | exact (allLt_ne2 (by assumption) (by assumption) (by k_memK)).symm | exact allLt_ne1 (by assumption) (by k_memK) | exact (allLt_ne1 (by assumption) (by k_memK)).symm | exact neAll_mem (by assumption) (by k_memK) | exact (neAll_mem (by assumption) (by k_memK)).symm | exact offHead (by assumption) (by k_memK) | exact (offHead (by assumption) (by k_memK)).symm))
local macro_rules | `(tactic| walk_at "mine in") => `(tactic| (intro p9 h9; (repeat' (first | exact h9 | exact List.mem_append_left _ h9 | exact List.mem_append_right _ h9 | refine List.Mem.tail _ ?_)); done))
local macro_rules | `(tactic| k_all) => `(tactic| first | exact List.forall_mem_nil _ | (with_reducible refine List.forall_mem_cons.mpr ⟨?a, ?b⟩; (case a => k_ne); (case b => k_all)) | exact OwnOff.ne (by assumption) (by k_memK) | exact ltTl (by assumption) (by walk_at "mine in") | exact neTl (by assumption) (by walk_at "mine in") | exact ltTl2 (by assumption) (by assumption) (by walk_at "mine in"))
local macro_rules | `(tactic| walk_at "mine led") => `(tactic| first | (refine List.forall_mem_cons.mpr ⟨by k_memK, ?_⟩; walk_at "mine led") | exact List.forall_mem_nil _ | (refine List.forall_mem_append.mpr ⟨?y1, ?y2⟩; (case y1 => walk_at "mine led"); (case y2 => walk_at "mine led")) | walk_at "mine in")
local macro_rules | `(tactic| walk_at "mine lts") => `(tactic| first | assumption | exact ltSuf (by assumption) (by walk_at "mine in") | (refine allLt_cons (by assumption) (by k_memK) ?_; walk_at "mine lts"))
local macro_rules | `(tactic| walk_at "mine nes") => `(tactic| first | assumption | exact allNe_nil | exact neSuf (by assumption) (by walk_at "mine in") | exact ltSufNe (by assumption) (by walk_at "mine in") | (refine allNe_one (by k_ne) ?_; walk_at "mine nes"))
local macro_rules | `(tactic| walk_at "mine map") => `(tactic| first | exact List.forall_mem_nil _ | (refine List.forall_mem_cons.mpr ⟨rfl, ?_⟩; walk_at "mine map"))

local macro_rules | `(tactic| walk_at "callWith ref") => `(tactic| (k_here; k_dflt (refine' callWith_K ?cwa ?cwb ?_; (case cwa => k_asm); (case cwb => k_is); k_whole)))
local macro_rules | `(tactic| walk_at "call ref") => `(tactic| (k_here; (with_reducible show wpAny _ _ (call (Value.ref 97) [_, _, Value.none]) _ _ _); k_dflt (refine' gw1n ?oB ?oF ?oX ?oXB ?oT ?oTB ?oN ?o1 ?o2 ?o3 ?ocv ?ocq ?ov ?oh ?oC ?_; (case oB => assumption); (case oF => k_asm); (case oX => assumption); (case oXB => assumption); (case oT => assumption); (case oTB => assumption); (case oN => k_asm); (case o1 => assumption); (case o2 => assumption); (case o3 => assumption); (case ocv => assumption); (case ocq => assumption); (case ov => assumption); (case oh => assumption); (case oC => assumption); k_whole); intro e' D' lt' te' T' t1' t2' t3' h' tk' F' N' l1' l2' l3'; (try k_sweep)))
local macro_rules | `(tactic| walk_at "execs cons") => `(tactic| ((with_reducible show wpAny _ _ (execs [_, _, _, _, _] (envOfC _ _ _ _ _)) _ _ _); refine Hdn.out ?_))
section
variable {w : World} {base h₀ : Heap} {L fa : Addr} {m mg mb : Str → Option Value} {s : Shared} {p : Program} {loose : List Str} {mean : ExcName → Option Value} {Q : Flow → Shared → Prop} {E : Value → Shared → Prop}
set_option maxRecDepth 100000 in
set_option maxHeartbeats 4000000 in
theorem segF1 {r x f c' : Addr} {k d mo t : Int} {tk td tmo tt tq : Tok} {news : List (Addr × Obj)} {w2 o1 oc : Obj} {b2 : Option Value} {v pm ctv : Value} {vs : Array Value} {name qual : Str} (B : Below callerA base [] h₀) (F : Fr h₀ L s.heap m) (X : (hd.heap_39 w.params).In h₀) (T : Top p loose mean mg mb h₀) (XB : (hd.heap_39 w.params).In base) (TB : Top p loose mean mg mb base)
    (hm : ∀ p ∈ [((Str.ofString "rope"), Value.ref r), ((Str.ofString "kind"), Value.int k tk), ((Str.ofString "depth"), Value.int d td), ((Str.ofString "most"), Value.int mo tmo), ((Str.ofString "times"), Value.int t tt), ((Str.ofString "handling"), Value.none), ((Str.ofString "holder"), Value.ref x), ((Str.ofString "work"), Value.ref f)], m p.1 = some p.2) (hk1 : k = 1) (hw2 : w2.data = .cell b2)
    (N : News h₀ L s.heap (((L + 1 : Nat), w2) :: news)) (O : GnNe (L + 1 : Nat) news) (m1 : (f, kla_obj name qual lam1.1 lam1.2.1 lam1.2.2 [("value", (L + 1 + 1 : Nat))] pm c' ctv) ∈ news) (m2 : (c', oc) ∈ news) (m3 : ((L + 1 + 1 : Nat), o1) ∈ news)
    (hcv : oc.data = .fields vs) (hcq : vs[1]? = some (.str qual tq)) (hv : o1.data = .cell (some v)) (hh : handedIn v = true) (C : CodeHd base 143 141)
    (kk : ∀ (e D1 lt te T' : Addr) (t1 t2 t3 : Tok) (b : Bool) (o2 : Obj) h' tk' m', b = false → Fr h₀ L h' m' →
      News h₀ L h' ((e, excO 66 D1 te (.ref T') .none) :: (D1, dictOf (exD w.params t1 t2 t3 v lt b) 3) :: ((L + 1 : Nat), o2) :: news) → (∀ p ∈ [((Str.ofString "rope"), Value.ref r), ((Str.ofString "kind"), Value.int k tk), ((Str.ofString "depth"), Value.int d td), ((Str.ofString "holder"), Value.ref x), ((Str.ofString "is_ended"), Value.bool b)], m' p.1 = some p.2) → o2.data = .cell (some (.ref e)) → GnNe e (((L + 1 : Nat), w2) :: news) → AllLt D1 ((e, instObj 0 0) :: ((L + 1 : Nat), w2) :: news) → Hdn (wpAny (model PySem.Challenge.rw_pq0676_01.row.prog w) (callerA.deeper (envOfC (Str.ofString "law") lawScope L fa (.ref 143))) (execs (turnFrom 8) (envOfC (Str.ofString "law") lawScope L fa (.ref 143))) Q E { s with heap := h', toks := tk' })) :
    Hdn (wpAny (model PySem.Challenge.rw_pq0676_01.row.prog w) (callerA.deeper (envOfC (Str.ofString "law") lawScope L fa (.ref 143))) (execs (turnFrom 6) (envOfC (Str.ofString "law") lawScope L fa (.ref 143))) Q E s) := by
  refine ⟨?_⟩
  have hMk := kstMark
  have m1' := List.mem_cons_of_mem ((L + 1 : Nat), w2) m1
  have m2' := List.mem_cons_of_mem ((L + 1 : Nat), w2) m2
  have m3' := List.mem_cons_of_mem ((L + 1 : Nat), w2) m3
  rw [mapL_of hm] at F
  clear hm m1 m2 m3
  subst hk1
  revert X XB
  k_fill
  intro X XB
  dsimp only [turnFrom, lawScope, turnBody, lawFn, PySem.Challenge.pw_pq0676_01, List.reverse, List.reverseAux, List.drop] at kk ⊢
  w_strict (w_top off; k_steps)
  refine (kk _ _ _ _ _ _ _ _ _ _ _ _ _ rfl (by k_asm) (News.less (by k_asm) (by walk_at "mine led")) (by walk_at "mine map") (by k_asm) (by k_asm) (by k_asm))
end


end
section
local macro_rules | `(tactic| walk_at "mine pad 0") => `(tactic| fail)
local macro_rules | `(tactic| walk_at "mine pad 1") => `(tactic| fail)
local macro_rules | `(tactic| walk_at "mine memr") => `(tactic| first | with_reducible exact List.Mem.head _ | (with_reducible refine List.Mem.tail _ ?_; walk_at "mine memr"))
local macro_rules | `(tactic| k_memK) => `(tactic| walk_at "mine memr")
local macro_rules | `(tactic| k_lt $h) => `(tactic| (replace $h := allLt_of $h))
local macro_rules | `(tactic| k_ne) => `(tactic| (refine neN ?_; (try dsimp only); first | assumption | exact (Ne.symm (by assumption)) | exact Nat.ne_of_lt (by assumption) | exact Nat.ne_of_gt (by assumption) | exact allLt_ne (by assumption) (by k_memK) | exact (allLt_ne (by assumption) (by k_memK)).symm | exact allNe_mem (by assumption) (by k_memK) | exact (allNe_mem (by assumption) (by k_memK)).symm | exact allLt_ne2 (by assumption) (by assumption) (by k_memK) | exact (allLt_ne2 (by assumption) (by assumption) (by k_memK)).symm | exact allLt_ne1 (by assumption) (by k_memK) | exact (allLt_ne1 (by assumption) (by k_memK)).symm | exact neAll_mem (by assumption) (by k_memK) | exact (neAll_mem (by assumption) (by k_memK)).symm | exact offHead (by assumption) (by k_memK) | exact (offHead (by assumption) (by k_memK)).symm))
local macro_rules | `(tactic| walk_at "mine in") => `(tactic| (intro p9 h9; (repeat' (first | exact h9 | exact List.mem_append_left _ h9 | exact List.mem_append_right _ h9 | refine List.Mem.tail _ ?_)); done))
local macro_rules | `(tactic| k_all) => `(tactic| first | exact List.forall_mem_nil _ | (with_reducible refine List.forall_mem_cons.mpr ⟨?a, ?b⟩; (case a => k_ne); (case b => k_all)) | exact OwnOff.ne (by assumption) (by k_memK) | exact ltTl (by assumption) (by walk_at "mine in") | exact neTl (by assumption) (by walk_at "mine in") | exact ltTl2 (by assumption) (by assumption) (by walk_at "mine in"))
local macro_rules | `(tactic| walk_at "mine led") => `(tactic| first | (refine List.forall_mem_cons.mpr ⟨by k_memK, ?_⟩; walk_at "mine led") | exact List.forall_mem_nil _ | (refine List.forall_mem_append.mpr ⟨?y1, ?y2⟩; (case y1 => walk_at "mine led"); (case y2 => walk_at "mine led")) | walk_at "mine in")
local macro_rules | `(tactic| walk_at "mine lts") => `(tactic| first | assumption | exact ltSuf (by assumption) (by walk_at "mine in") | (refine allLt_cons (by assumption) (by k_memK) ?_; walk_at "mine lts"))
local macro_rules | `(tactic| walk_at "mine nes") => `(tactic| first | assumption | exact allNe_nil | exact neSuf (by assumption) (by walk_at "mine in") | exact ltSufNe (by assumption) (by walk_at "mine in") | (refine allNe_one (by k_ne) ?_; walk_at "mine nes"))
local macro_rules | `(tactic| walk_at "mine map") => `(tactic| first | exact List.forall_mem_nil _ | (refine List.forall_mem_cons.mpr ⟨rfl, ?_⟩; walk_at "mine map"))

local macro_rules | `(tactic| walk_at "callWith ref") => `(tactic| (k_here; k_dflt (refine' callWith_K ?cwa ?cwb ?_; (case cwa => k_asm); (case cwb => k_is); k_whole)))
local macro_rules | `(tactic| walk_at "call ref") => `(tactic| (k_here; (with_reducible show wpAny _ _ (call (Value.ref 97) [_, _, Value.ref _]) _ _ _); k_dflt (refine' gwHm ?oB ?oF ?oX ?oXB ?oT ?oTB ?oN ?o1 ?o2 ?o3 ?oh3 ?o4 ?o5 ?o6 ?o7 ?o8 ?o9 ?o10 ?ov1 ?oq1 ?ovA ?oqA ?ov ?oh ?ot ?oC1 ?oC ?oW1 ?oW2 ?ow1 ?ow2 ?_ ?_; (case oB => assumption); (case oF => k_asm); (case oX => assumption); (case oXB => assumption); (case oT => assumption); (case oTB => assumption); (case oN => k_asm); (case o1 => assumption); (case o2 => assumption); (case o3 => assumption); (case oh3 => assumption); (case o4 => assumption); (case o5 => assumption); (case o6 => assumption); (case o7 => assumption); (case o8 => assumption); (case o9 => assumption); (case o10 => assumption); (case ov1 => assumption); (case oq1 => assumption); (case ovA => assumption); (case oqA => assumption); (case ov => assumption); (case oh => assumption); (case ot => assumption); (case oC1 => assumption); (case oC => assumption); (case oW1 => assumption); (case oW2 => assumption); (case ow1 => assumption); (case ow2 => assumption); k_whole) <;> (intro hE' e2' D2' lt2' te2' u1' u2' u3' tv' h' tk' cc' tcc' hc' thc' t1' t2' t3' t4' t5' t6' ttop' F' N' q1' q2'; (try (exfalso; omega)); (try k_sweep))))
local macro_rules | `(tactic| walk_at "execs cons") => `(tactic| ((with_reducible show wpAny _ _ (execs [_, _, _, _, _] (envOfC _ _ _ _ _)) _ _ _); refine Hdn.out ?_))
section
variable {w : World} {base h₀ : Heap} {L fa : Addr} {m mg mb : Str → Option Value} {s : Shared} {p : Program} {loose : List Str} {mean : ExcName → Option Value} {Q : Flow → Shared → Prop} {E : Value → Shared → Prop}
set_option maxRecDepth 100000 in
set_option maxHeartbeats 4000000 in
theorem segF2 {r x D f c1 tup fA cA cT lt lS lU lF : Addr} {k d mo t mo' : Int} {tk td tmo tt tq1 tqA t1 t2 t3 t4 t5 t6 tcc thc ttop tt' tm : Tok} {news : List (Addr × Obj)} {w2 o1 oc1 ocA oT : Obj} {b2 : Option Value} {v pm1 ctv1 docA pmA ctvA : Value} {vs1 vsA : Array Value} {n1 q1 nA qA : Str} (B : Below callerA base [] h₀) (F : Fr h₀ L s.heap m) (X : (hd.heap_39 w.params).In h₀) (T : Top p loose mean mg mb h₀) (XB : (hd.heap_39 w.params).In base) (TB : Top p loose mean mg mb base)
    (hm : ∀ p ∈ [((Str.ofString "rope"), Value.ref r), ((Str.ofString "kind"), Value.int k tk), ((Str.ofString "depth"), Value.int d td), ((Str.ofString "most"), Value.int mo tmo), ((Str.ofString "times"), Value.int t tt), ((Str.ofString "handling"), Value.ref tup), ((Str.ofString "holder"), Value.ref x), ((Str.ofString "work"), Value.ref f)], m p.1 = some p.2) (hk : (k = 2 ∧ mo' = 0) ∨ (2 < k ∧ mo' = mo)) (hk6 : k < 6) (hd0 : 0 ≤ d) (ht0 : 0 ≤ t) (hw2 : w2.data = .cell b2)
    (N : News h₀ L s.heap (((L + 1 : Nat), w2) :: (D, dictOf (hoD w.params t1 t2 t3 t4 t5 t6 tcc thc ttop lS lU lF d 0 0) 6) :: (lt, W.listOf #[.int t tt'] 0) :: news))
    (O : GnNe (L + 1 : Nat) ((D, instObj 0 0) :: (lt, instObj 0 0) :: news)) (OD : ∀ p ∈ news, p.1 ≠ D) (Ol : ∀ p ∈ news, p.1 ≠ lt) (hDl : @Ne Nat lt D)
    (m1 : (tup, ({ cls := .type "tuple", data := .seq #[.ref fA, .int mo' tm] } : Obj)) ∈ news) (m2 : (fA, fnMade nA qA ansArgs ansBody ansScope [("times", cT)] docA pmA cA ctvA) ∈ news) (m3 : (cT, oT) ∈ news) (hT : oT.data = .cell (some (.ref lt)))
    (m5 : (x, instObj 38 D) ∈ news) (m7 : (f, kla_obj n1 q1 lam1.1 lam1.2.1 lam1.2.2 [("value", (L + 1 + 1 : Nat))] pm1 c1 ctv1) ∈ news) (m8 : (c1, oc1) ∈ news) (m9 : ((L + 1 + 1 : Nat), o1) ∈ news) (m10 : (cA, ocA) ∈ news)
    (hcv1 : oc1.data = .fields vs1) (hcq1 : vs1[1]? = some (.str q1 tq1)) (hcvA : ocA.data = .fields vsA) (hcqA : vsA[1]? = some (.str qA tqA)) (hv1 : o1.data = .cell (some v)) (hh : handedIn v = true) (C1 : CodeHd base 143 141) (C : CodeHd base 138 134)
    (kk : ∀ (b b' : Bool) (e D1 lt2 te : Addr) (u1 u2 u3 tv : Tok) (o2 : Obj) (cc' hc' : Int) (tcc' thc' t1 t2 t3 t4 t5 t6 ttop : Tok) h' tk' m', Fr h₀ L h' m' →
      News h₀ L h' ((e, excO 66 D1 te .none .none) :: (D1, dictOf (exD w.params u1 u2 u3 (.bytes (resB b').toArray tv) lt2 b') 3) :: (D, dictOf (hoD w.params t1 t2 t3 t4 t5 t6 tcc' thc' ttop lS lU lF cc' hc' 0) 6) :: ((L + 1 : Nat), o2) :: news) → (∀ p ∈ [((Str.ofString "rope"), Value.ref r), ((Str.ofString "kind"), Value.int k tk), ((Str.ofString "depth"), Value.int d td), ((Str.ofString "holder"), Value.ref x), ((Str.ofString "is_ended"), Value.bool b)], m' p.1 = some p.2) → b = b' →
      o2.data = .cell (some (.ref e)) → GnNe e ((D, instObj 0 0) :: ((L + 1 : Nat), w2) :: news) → AllLt D1 ((D, instObj 0 0) :: ((L + 1 : Nat), w2) :: news) → Hdn (wpAny (model PySem.Challenge.rw_pq0676_01.row.prog w) (callerA.deeper (envOfC (Str.ofString "law") lawScope L fa (.ref 143))) (execs (turnFrom 8) (envOfC (Str.ofString "law") lawScope L fa (.ref 143))) Q E { s with heap := h', toks := tk' })) :
    Hdn (wpAny (model PySem.Challenge.rw_pq0676_01.row.prog w) (callerA.deeper (envOfC (Str.ofString "law") lawScope L fa (.ref 143))) (execs (turnFrom 6) (envOfC (Str.ofString "law") lawScope L fa (.ref 143))) Q E s) := by
  refine ⟨?_⟩
  have hMk := kstMark
  have in3 : ∀ {q : Addr × Obj}, q ∈ news → q ∈ ((L + 1 : Nat), w2) :: (D, dictOf (hoD w.params t1 t2 t3 t4 t5 t6 tcc thc ttop lS lU lF d 0 0) 6) :: (lt, W.listOf #[.int t tt'] 0) :: news := fun h => .tail _ (.tail _ (.tail _ h))
  have w1 : ∀ p ∈ (x, oc1) :: (fA, oc1) :: (cA, ocA) :: (cT, oc1) :: (tup, oc1) :: (f, oc1) :: (c1, oc1) :: ((L + 1 + 1 : Nat), oc1) :: [], p.1 ≠ D ∧ p.1 ≠ lt := by
    have z : ∀ {b : Addr} {o : Obj}, (b, o) ∈ news → b ≠ D ∧ b ≠ lt := fun h => ⟨OD _ h, Ol _ h⟩
    exact List.forall_mem_cons.mpr ⟨z m5, List.forall_mem_cons.mpr ⟨z m2, List.forall_mem_cons.mpr ⟨z m10, List.forall_mem_cons.mpr ⟨z m3, List.forall_mem_cons.mpr ⟨z m1, List.forall_mem_cons.mpr ⟨z m7, List.forall_mem_cons.mpr ⟨z m8, List.forall_mem_cons.mpr ⟨z m9, List.forall_mem_nil _⟩⟩⟩⟩⟩⟩⟩⟩
  have W1 : Wo D (((L + 1 : Nat), w2) :: (D, dictOf (hoD w.params t1 t2 t3 t4 t5 t6 tcc thc ttop lS lU lF d 0 0) 6) :: (lt, W.listOf #[.int t tt'] 0) :: news) (((L + 1 : Nat), w2) :: (lt, W.listOf #[.int t tt'] 0) :: news) :=
    .keep (Ne.symm O.1) (.drop (.keep hDl (.nil OD)))
  have W2 : Wo lt (((L + 1 : Nat), w2) :: (lt, W.listOf #[.int t tt'] 0) :: news) (((L + 1 : Nat), w2) :: news) := .keep (Ne.symm O.2.1) (.drop (.nil Ol))
  replace m1 := in3 m1
  replace m2 := in3 m2
  replace m3 := in3 m3
  replace m5 := in3 m5
  replace m7 := in3 m7
  replace m8 := in3 m8
  replace m9 := in3 m9
  replace m10 := in3 m10
  have m4 : (lt, W.listOf #[.int t tt'] 0) ∈ ((L + 1 : Nat), w2) :: (D, dictOf (hoD w.params t1 t2 t3 t4 t5 t6 tcc thc ttop lS lU lF d 0 0) 6) :: (lt, W.listOf #[.int t tt'] 0) :: news := .tail _ (.tail _ (.head _))
  have m6 : (D, dictOf (hoD w.params t1 t2 t3 t4 t5 t6 tcc thc ttop lS lU lF d 0 0) 6) ∈ ((L + 1 : Nat), w2) :: (D, dictOf (hoD w.params t1 t2 t3 t4 t5 t6 tcc thc ttop lS lU lF d 0 0) 6) :: (lt, W.listOf #[.int t tt'] 0) :: news := .tail _ (.head _)
  have O1 := O.1
  have O3 := O.2.2
  rw [mapL_of hm] at F
  clear hm OD Ol in3 O
  revert X XB
  k_fill
  intro X XB
  dsimp only [turnFrom, lawScope, turnBody, lawFn, PySem.Challenge.pw_pq0676_01, List.reverse, List.reverseAux, List.drop] at kk ⊢
  rcases hk with ⟨rfl, rfl⟩ | ⟨hk, rfl⟩
  all_goals (w_strict (w_top off; k_steps))
  all_goals (first | (exfalso; omega) | refine (kk _ _ _ _ _ _ _ _ _ _ _ _ _ _ _ _ _ _ _ _ _ _ _ _ _ (by k_asm) (News.less (by k_asm) (by walk_at "mine led")) (by walk_at "mine map") (by first | rfl | exact decide_eq_true (by omega) | exact decide_eq_false (by omega)) (by k_asm) (by k_asm) (by k_asm)))
end


end
section
local macro_rules | `(tactic| walk_at "mine memr") => `(tactic| first | with_reducible exact List.Mem.head _ | (with_reducible refine List.Mem.tail _ ?_; walk_at "mine memr"))
local macro_rules | `(tactic| k_memK) => `(tactic| walk_at "mine memr")
local macro_rules | `(tactic| k_lt $h) => `(tactic| (replace $h := allLt_of $h))
local macro_rules | `(tactic| k_ne) => `(tactic| (refine neN ?_; (try dsimp only); first | assumption | exact (Ne.symm (by assumption)) | exact Nat.ne_of_lt (by assumption) | exact Nat.ne_of_gt (by assumption) | exact allLt_ne (by assumption) (by k_memK) | exact (allLt_ne (by assumption) (by k_memK)).symm | exact allNe_mem (by assumption) (by k_memK) | exact (allNe_mem (by assumption) (by k_memK)).symm | exact allLt_ne2 (by assumption) (by assumption) (by k_memK) | exact (allLt_ne2 (by assumption) (by assumption) (by k_memK)).symm | exact allLt_ne1 (by assumption) (by k_memK) | exact (allLt_ne1 (by assumption) (by k_memK)).symm | exact neAll_mem (by assumption) (by k_memK) | exact (neAll_mem (by assumption) (by k_memK)).symm | exact offHead (by assumption) (by k_memK) | exact (offHead (by assumption) (by k_memK)).symm))
local macro_rules | `(tactic| walk_at "mine in") => `(tactic| (intro p9 h9; (repeat' (first | exact h9 | exact List.mem_append_left _ h9 | exact List.mem_append_right _ h9 | refine List.Mem.tail _ ?_)); done))
local macro_rules | `(tactic| k_all) => `(tactic| first | exact List.forall_mem_nil _ | (with_reducible refine List.forall_mem_cons.mpr ⟨?a, ?b⟩; (case a => k_ne); (case b => k_all)) | exact OwnOff.ne (by assumption) (by k_memK) | exact ltTl (by assumption) (by walk_at "mine in") | exact neTl (by assumption) (by walk_at "mine in") | exact ltTl2 (by assumption) (by assumption) (by walk_at "mine in"))
local macro_rules | `(tactic| walk_at "mine led") => `(tactic| first | (refine List.forall_mem_cons.mpr ⟨by k_memK, ?_⟩; walk_at "mine led") | exact List.forall_mem_nil _ | (refine List.forall_mem_append.mpr ⟨?y1, ?y2⟩; (case y1 => walk_at "mine led"); (case y2 => walk_at "mine led")) | walk_at "mine in")
local macro_rules | `(tactic| walk_at "mine lts") => `(tactic| first | assumption | exact ltSuf (by assumption) (by walk_at "mine in") | (refine allLt_cons (by assumption) (by k_memK) ?_; walk_at "mine lts"))
local macro_rules | `(tactic| walk_at "mine nes") => `(tactic| first | assumption | exact allNe_nil | exact neSuf (by assumption) (by walk_at "mine in") | exact ltSufNe (by assumption) (by walk_at "mine in") | (refine allNe_one (by k_ne) ?_; walk_at "mine nes"))
local macro_rules | `(tactic| walk_at "mine map") => `(tactic| first | exact List.forall_mem_nil _ | (refine List.forall_mem_cons.mpr ⟨rfl, ?_⟩; walk_at "mine map"))

local macro_rules | `(tactic| walk_at "callWith ref") => `(tactic| (k_here; k_dflt (refine' callWith_K ?cwa ?cwb ?_; (case cwa => k_asm); (case cwb => k_is); k_whole)))
local macro_rules | `(tactic| walk_at "call ref") => `(tactic| (k_here; (with_reducible show wpAny _ _ (call (Value.ref 97) [_, _, Value.none]) _ _ _); k_dflt (refine' gw0 ?oB ?oF ?oX ?oXB ?oT ?oTB ?oN ?o1 ?o2 ?ocv ?ocq ?oC ?_; (case oB => assumption); (case oF => k_asm); (case oX => assumption); (case oXB => assumption); (case oT => assumption); (case oTB => assumption); (case oN => k_asm); (case o1 => assumption); (case o2 => assumption); (case ocv => assumption); (case ocq => assumption); (case oC => assumption); k_whole); intro h' tk' F' N'; (try k_sweep)))
section
variable {w : World} {base h₀ : Heap} {L fa : Addr} {m mg mb : Str → Option Value} {s : Shared} {p : Program} {loose : List Str} {mean : ExcName → Option Value} {Q : Flow → Shared → Prop} {E : Value → Shared → Prop}
set_option maxRecDepth 100000 in
set_option maxHeartbeats 4000000 in
theorem segF0 {r x f c' : Addr} {k d mo t : Int} {tk td tmo tt tq : Tok} {news : List (Addr × Obj)} {w2 oc : Obj} {b2 : Option Value} {pm ctv : Value} {vs : Array Value} {name qual : Str} (B : Below callerA base [] h₀) (F : Fr h₀ L s.heap m) (X : (hd.heap_39 w.params).In h₀) (T : Top p loose mean mg mb h₀) (XB : (hd.heap_39 w.params).In base) (TB : Top p loose mean mg mb base)
    (hm : ∀ p ∈ [((Str.ofString "rope"), Value.ref r), ((Str.ofString "kind"), Value.int k tk), ((Str.ofString "depth"), Value.int d td), ((Str.ofString "most"), Value.int mo tmo), ((Str.ofString "times"), Value.int t tt), ((Str.ofString "handling"), Value.none), ((Str.ofString "holder"), Value.ref x), ((Str.ofString "work"), Value.ref f)], m p.1 = some p.2) (hk0 : k = 0) (hw2 : w2.data = .cell b2)
    (N : News h₀ L s.heap (((L + 1 : Nat), w2) :: news)) (O : GnNe (L + 1 : Nat) news) (m1 : (f, kla_obj name qual lam0.1 lam0.2.1 lam0.2.2 [] pm c' ctv) ∈ news) (m2 : (c', oc) ∈ news)
    (hcv : oc.data = .fields vs) (hcq : vs[1]? = some (.str qual tq)) (C : CodeHd base 143 141)
    (kk : ∀ (o2 : Obj) (b : Option Value) h' tk' m', o2.data = .cell b → m' (Str.ofString "rope") = some (.ref r) → Fr h₀ L h' m' → News h₀ L h' (((L + 1 : Nat), o2) :: news) → Q .cont { s with heap := h', toks := tk' }) :
    Hdn (wpAny (model PySem.Challenge.rw_pq0676_01.row.prog w) (callerA.deeper (envOfC (Str.ofString "law") lawScope L fa (.ref 143))) (execs (turnFrom 6) (envOfC (Str.ofString "law") lawScope L fa (.ref 143))) Q E s) := by
  refine ⟨?_⟩
  have hMk := kstMark
  have m1' := List.mem_cons_of_mem ((L + 1 : Nat), w2) m1
  have m2' := List.mem_cons_of_mem ((L + 1 : Nat), w2) m2
  rw [mapL_of hm] at F
  clear hm m1 m2
  subst hk0
  revert X XB
  k_fill
  intro X XB
  dsimp only [turnFrom, lawScope, turnBody, lawFn, PySem.Challenge.pw_pq0676_01, List.reverse, List.reverseAux, List.drop] at ⊢
  w_strict (w_top off; k_steps)
  refine kk _ _ _ _ _ (by k_asm) rfl (by k_asm) (News.less (by k_asm) (by walk_at "mine led"))
end


end
section
local macro_rules | `(tactic| walk_at "mine pad 0") => `(tactic| fail)
local macro_rules | `(tactic| walk_at "mine memr") => `(tactic| first | with_reducible exact List.Mem.head _ | (with_reducible refine List.Mem.tail _ ?_; walk_at "mine memr"))
local macro_rules | `(tactic| k_memK) => `(tactic| walk_at "mine memr")
local macro_rules | `(tactic| k_lt $h) => `(tactic| (replace $h := allLt_of $h))
local macro_rules | `(tactic| k_ne) => `(tactic| (refine neN ?_; (try dsimp only); first | assumption | exact (Ne.symm (by assumption)) | exact Nat.ne_of_lt (by assumption) | exact Nat.ne_of_gt (by assumption) | exact allLt_ne (by assumption) (by k_memK) | exact (allLt_ne (by assumption) (by k_memK)).symm | exact allNe_mem (by assumption) (by k_memK) | exact (allNe_mem (by assumption) (by k_memK)).symm | exact allLt_ne2 (by assumption) (by assumption) (by k_memK) | exact (allLt_ne2 (by assumption) (by assumption) (by k_memK)).symm | exact allLt_ne1 (by assumption) (by k_memK) | exact (allLt_ne1 (by assumption) (by k_memK)).symm | exact neAll_mem (by assumption) (by k_memK) | exact (neAll_mem (by assumption) (by k_memK)).symm | exact offHead (by assumption) (by k_memK) | exact (offHead (by assumption) (by k_memK)).symm))
local macro_rules | `(tactic| walk_at "mine in") => `(tactic| (intro p9 h9; (repeat' (first | exact h9 | exact List.mem_append_left _ h9 | exact List.mem_append_right _ h9 | refine List.Mem.tail _ ?_)); done))
local macro_rules | `(tactic| k_all) => `(tactic| first | exact List.forall_mem_nil _ | (with_reducible refine List.forall_mem_cons.mpr ⟨?a, ?b⟩; (case a => k_ne); (case b => k_all)) | exact OwnOff.ne (by assumption) (by k_memK) | exact ltTl (by assumption) (by walk_at "mine in") | exact neTl (by assumption) (by walk_at "mine in") | exact ltTl2 (by assumption) (by assumption) (by walk_at "mine in"))
local macro_rules | `(tactic| walk_at "mine led") => `(tactic| first | (refine List.forall_mem_cons.mpr ⟨by k_memK, ?_⟩; walk_at "mine led") | exact List.forall_mem_nil _ | (refine List.forall_mem_append.mpr ⟨?y1, ?y2⟩; (case y1 => walk_at "mine led"); (case y2 => walk_at "mine led")) | walk_at "mine in")
local macro_rules | `(tactic| walk_at "mine lts") => `(tactic| first | assumption | exact ltSuf (by assumption) (by walk_at "mine in") | (refine allLt_cons (by assumption) (by k_memK) ?_; walk_at "mine lts"))
local macro_rules | `(tactic| walk_at "mine nes") => `(tactic| first | assumption | exact allNe_nil | exact neSuf (by assumption) (by walk_at "mine in") | exact ltSufNe (by assumption) (by walk_at "mine in") | (refine allNe_one (by k_ne) ?_; walk_at "mine nes"))
local macro_rules | `(tactic| walk_at "mine map") => `(tactic| first | exact List.forall_mem_nil _ | (refine List.forall_mem_cons.mpr ⟨rfl, ?_⟩; walk_at "mine map"))

local macro_rules | `(tactic| walk_at "callWith ref") => `(tactic| (k_here; k_dflt (refine' callWith_K ?cwa ?cwb ?_; (case cwa => k_asm); (case cwb => k_is); k_whole)))
local macro_rules | `(tactic| walk_at "call ref") => `(tactic| (k_here; (with_reducible show wpAny _ _ (call (Value.ref 83) [Value.ref _]) _ _ _); k_dflt (refine' status_e ?oB ?oF ?oX ?oT ?oN ?o1 ?o2 ?_; (case oB => assumption); (case oF => k_asm); (case oX => assumption); (case oT => assumption); (case oN => k_asm); (case o1 => k_memK); (case o2 => k_memK); k_whole); intro tn' h' tk' F' N'; (try simp only [if_true, if_false, Bool.false_eq_true]); (try k_sweep)))
local macro_rules | `(tactic| walk_at "execs cons") => `(tactic| ((with_reducible show wpAny _ _ (execs [_, _, _] (envOfC _ _ _ _ _)) _ _ _); refine Hdn.out ?_))
section
variable {w : World} {base h₀ : Heap} {L fa : Addr} {m mg mb : Str → Option Value} {s : Shared} {p : Program} {loose : List Str} {mean : ExcName → Option Value} {Q : Flow → Shared → Prop} {E : Value → Shared → Prop}
set_option maxRecDepth 100000 in
set_option maxHeartbeats 4000000 in
theorem seg8 {e1 D1 lt1 te1 : Addr} {k : Int} {tk t11 t12 t13 : Tok} {news : List (Addr × Obj)} {o2 : Obj} {v tb1 cx1 : Value} {b : Bool} (B : Below callerA base [] h₀) (F : Fr h₀ L s.heap m) (X : (hd.heap_39 w.params).In h₀) (T : Top p loose mean mg mb h₀)
    (hm : ∀ p ∈ [((Str.ofString "kind"), Value.int k tk), ((Str.ofString "is_ended"), Value.bool b)], m p.1 = some p.2) (hk1 : 1 ≤ k)
    (N : News h₀ L s.heap news) (m2 : ((L + 1 : Nat), o2) ∈ news) (h2 : o2.data = .cell (some (.ref e1))) (m4 : (e1, excO 66 D1 te1 tb1 cx1) ∈ news) (m5 : (D1, dictOf (exD w.params t11 t12 t13 v lt1 b) 3) ∈ news)
    (kk : ∀ h' tk', Fr h₀ L h' m → News h₀ L h' news → Hdn (wpAny (model PySem.Challenge.rw_pq0676_01.row.prog w) (callerA.deeper (envOfC (Str.ofString "law") lawScope L fa (.ref 143))) (execs (turnFrom 10) (envOfC (Str.ofString "law") lawScope L fa (.ref 143))) Q E { s with heap := h', toks := tk' })) :
    Hdn (wpAny (model PySem.Challenge.rw_pq0676_01.row.prog w) (callerA.deeper (envOfC (Str.ofString "law") lawScope L fa (.ref 143))) (execs (turnFrom 8) (envOfC (Str.ofString "law") lawScope L fa (.ref 143))) Q E s) := by
  refine ⟨?_⟩
  have hMk := kstMark
  have f0 : ¬ (decide (k = 0) = true) := by (simp only [decide_eq_true_eq]; omega)
  have N₁ := News.less N (memIn m2 (memIn m4 (memIn m5 selfIn)))
  have F₁ := F
  rw [mapL_of hm] at F₁
  clear N m2 m4 m5 F
  revert X
  k_fill
  intro X
  dsimp only [turnFrom, lawScope, turnBody, lawFn, PySem.Challenge.pw_pq0676_01, List.reverse, List.reverseAux, List.drop] at kk ⊢
  cases b
  all_goals (w_strict (w_top off; k_steps))
  all_goals (first | (exfalso; omega) | refine (kk _ _ (by rw [mapL_of hm]; assumption) (News.less (by k_asm) (tailIn (tailIn (tailIn selfIn))))))
end


end
section
local macro_rules | `(tactic| walk_at "mine pad 0") => `(tactic| fail)
local macro_rules | `(tactic| walk_at "mine memr") => `(tactic| first | with_reducible exact List.Mem.head _ | (with_reducible refine List.Mem.tail _ ?_; walk_at "mine memr"))
local macro_rules | `(tactic| k_memK) => `(tactic| walk_at "mine memr")
local macro_rules | `(tactic| k_lt $h) => `(tactic| (replace $h := allLt_of $h))
local macro_rules | `(tactic| k_ne) => `(tactic| (refine neN ?_; (try dsimp only); first | assumption | exact (Ne.symm (by assumption)) | exact Nat.ne_of_lt (by assumption) | exact Nat.ne_of_gt (by assumption) | exact allLt_ne (by assumption) (by k_memK) | exact (allLt_ne (by assumption) (by k_memK)).symm | exact allNe_mem (by assumption) (by k_memK) | exact (allNe_mem (by assumption) (by k_memK)).symm | exact allLt_ne2 (by assumption) (by assumption) (by k_memK) | exact (allLt_ne2 (by assumption) (by assumption) (by k_memK)).symm | exact allLt_ne1 (by assumption) (by k_memK) | exact (allLt_ne1 (by assumption) (by k_memK)).symm | exact neAll_mem (by assumption) (by k_memK) | exact (neAll_mem (by assumption) (by k_memK)).symm | exact offHead (by assumption) (by k_memK) | exact (offHead (by assumption) (by k_memK)).symm))
local macro_rules | `(tactic| walk_at "mine in") => `(tactic| (intro p9 h9; (repeat' (first | exact h9 | exact List.mem_append_left _ h9 | exact List.mem_append_right _ h9 | refine List.Mem.tail _ ?_)); done))
local macro_rules | `(tactic| k_all) => `(tactic| first | exact List.forall_mem_nil _ | (with_reducible refine List.forall_mem_cons.mpr ⟨?a, ?b⟩; (case a => k_ne); (case b => k_all)) | exact OwnOff.ne (by assumption) (by k_memK) | exact ltTl (by assumption) (by walk_at "mine in") | exact neTl (by assumption) (by walk_at "mine in") | exact ltTl2 (by assumption) (by assumption) (by walk_at "mine in"))
local macro_rules | `(tactic| walk_at "mine led") => `(tactic| first | (refine List.forall_mem_cons.mpr ⟨by k_memK, ?_⟩; walk_at "mine led") | exact List.forall_mem_nil _ | (refine List.forall_mem_append.mpr ⟨?y1, ?y2⟩; (case y1 => walk_at "mine led"); (case y2 => walk_at "mine led")) | walk_at "mine in")
local macro_rules | `(tactic| walk_at "mine lts") => `(tactic| first | assumption | exact ltSuf (by assumption) (by walk_at "mine in") | (refine allLt_cons (by assumption) (by k_memK) ?_; walk_at "mine lts"))
local macro_rules | `(tactic| walk_at "mine nes") => `(tactic| first | assumption | exact allNe_nil | exact neSuf (by assumption) (by walk_at "mine in") | exact ltSufNe (by assumption) (by walk_at "mine in") | (refine allNe_one (by k_ne) ?_; walk_at "mine nes"))
local macro_rules | `(tactic| walk_at "mine map") => `(tactic| first | exact List.forall_mem_nil _ | (refine List.forall_mem_cons.mpr ⟨rfl, ?_⟩; walk_at "mine map"))

local macro_rules | `(tactic| walk_at "callWith ref") => `(tactic| (k_here; k_dflt (refine' callWith_K ?cwa ?cwb ?_; (case cwa => k_asm); (case cwb => k_is); k_whole)))
local macro_rules | `(tactic| walk_at "execs cons") => `(tactic| ((with_reducible show wpAny _ _ (execs [_] (envOfC _ _ _ _ _)) _ _ _); refine Hdn.out ?_))
section
variable {w : World} {base h₀ : Heap} {L fa : Addr} {m mg mb : Str → Option Value} {s : Shared} {p : Program} {loose : List Str} {mean : ExcName → Option Value} {Q : Flow → Shared → Prop} {E : Value → Shared → Prop}
set_option maxRecDepth 100000 in
set_option maxHeartbeats 4000000 in
theorem seg11 {r : Addr} {k d : Int} {tk td : Tok} {news : List (Addr × Obj)} {o1 : Obj} {v v0 : Value} {b : Bool} (B : Below callerA base [] h₀) (F : Fr h₀ L s.heap m) (X : (hd.heap_39 w.params).In h₀) (T : Top p loose mean mg mb h₀)
    (hm : ∀ p ∈ [((Str.ofString "rope"), Value.ref r), ((Str.ofString "kind"), Value.int k tk), ((Str.ofString "depth"), Value.int d td), ((Str.ofString "is_ended"), Value.bool b)], m p.1 = some p.2)
    (N : News h₀ L s.heap news) (m1 : ((L + 1 + 1 : Nat), o1) ∈ news) (h1 : o1.data = .cell (some v0)) (hh : handedIn v0 = true) (hS : SameV PySem.Challenge.rw_pq0676_01.row.prog w v0 v0)
    (hv : (b = true ∧ ∃ tv, v = .bytes (resB true).toArray tv) ∨ (b = false ∧ k = 1 ∧ v = v0) ∨ (b = false ∧ 2 ≤ k ∧ ∃ tv, v = .bytes (resB false).toArray tv))
    (kk : ∀ v' h' tk' m', Fr h₀ L h' m' → News h₀ L h' news → (∀ p ∈ [((Str.ofString "due"), v'), ((Str.ofString "depth"), Value.int d td), ((Str.ofString "rope"), Value.ref r)], m' p.1 = some p.2) → SameV PySem.Challenge.rw_pq0676_01.row.prog w v v' → Hdn (wpAny (model PySem.Challenge.rw_pq0676_01.row.prog w) (callerA.deeper (envOfC (Str.ofString "law") lawScope L fa (.ref 143))) (execs (turnFrom 12) (envOfC (Str.ofString "law") lawScope L fa (.ref 143))) Q E { s with heap := h', toks := tk' })) :
    Hdn (wpAny (model PySem.Challenge.rw_pq0676_01.row.prog w) (callerA.deeper (envOfC (Str.ofString "law") lawScope L fa (.ref 143))) (execs (turnFrom 11) (envOfC (Str.ofString "law") lawScope L fa (.ref 143))) Q E s) := by
  refine ⟨?_⟩
  have hMk := kstMark
  have N₁ := News.less N (memIn m1 selfIn)
  have F₁ := F
  rw [mapL_of hm] at F₁
  clear N m1 F hm
  revert X
  k_fill
  intro X
  dsimp only [turnFrom, lawScope, turnBody, lawFn, PySem.Challenge.pw_pq0676_01, List.reverse, List.reverseAux, List.drop] at kk ⊢
  rcases hv with ⟨rfl, tv, rfl⟩ | ⟨rfl, rfl, rfl⟩ | ⟨rfl, hk, tv, rfl⟩
  all_goals (w_strict (w_top off; k_steps))
  all_goals (first | (exfalso; omega) | refine (kk _ _ _ _ (by k_asm) (News.less (by k_asm) (tailIn selfIn)) (by walk_at "mine map") (by first | assumption | exact same_bytes _ _ _)))
end


end
section
local macro_rules | `(tactic| walk_at "mine memr") => `(tactic| first | with_reducible exact List.Mem.head _ | (with_reducible refine List.Mem.tail _ ?_; walk_at "mine memr"))
local macro_rules | `(tactic| k_memK) => `(tactic| walk_at "mine memr")
local macro_rules | `(tactic| k_lt $h) => `(tactic| (replace $h := allLt_of $h))
local macro_rules | `(tactic| k_ne) => `(tactic| (refine neN ?_; (try dsimp only); first | assumption | exact (Ne.symm (by assumption)) | exact Nat.ne_of_lt (by assumption) | exact Nat.ne_of_gt (by assumption) | exact allLt_ne (by assumption) (by k_memK) | exact (allLt_ne (by assumption) (by k_memK)).symm | exact allNe_mem (by assumption) (by k_memK) | exact (allNe_mem (by assumption) (by k_memK)).symm | exact allLt_ne2 (by assumption) (by assumption) (by k_memK) | exact (allLt_ne2 (by assumption) (by assumption) (by k_memK)).symm | exact allLt_ne1 (by assumption) (by k_memK) | exact (allLt_ne1 (by assumption) (by k_memK)).symm | exact neAll_mem (by assumption) (by k_memK) | exact (neAll_mem (by assumption) (by k_memK)).symm | exact offHead (by assumption) (by k_memK) | exact (offHead (by assumption) (by k_memK)).symm))
local macro_rules | `(tactic| walk_at "mine in") => `(tactic| (intro p9 h9; (repeat' (first | exact h9 | exact List.mem_append_left _ h9 | exact List.mem_append_right _ h9 | refine List.Mem.tail _ ?_)); done))
local macro_rules | `(tactic| k_all) => `(tactic| first | exact List.forall_mem_nil _ | (with_reducible refine List.forall_mem_cons.mpr ⟨?a, ?b⟩; (case a => k_ne); (case b => k_all)) | exact OwnOff.ne (by assumption) (by k_memK) | exact ltTl (by assumption) (by walk_at "mine in") | exact neTl (by assumption) (by walk_at "mine in") | exact ltTl2 (by assumption) (by assumption) (by walk_at "mine in"))
local macro_rules | `(tactic| walk_at "mine led") => `(tactic| first | (refine List.forall_mem_cons.mpr ⟨by k_memK, ?_⟩; walk_at "mine led") | exact List.forall_mem_nil _ | (refine List.forall_mem_append.mpr ⟨?y1, ?y2⟩; (case y1 => walk_at "mine led"); (case y2 => walk_at "mine led")) | walk_at "mine in")
local macro_rules | `(tactic| walk_at "mine lts") => `(tactic| first | assumption | exact ltSuf (by assumption) (by walk_at "mine in") | (refine allLt_cons (by assumption) (by k_memK) ?_; walk_at "mine lts"))
local macro_rules | `(tactic| walk_at "mine nes") => `(tactic| first | assumption | exact allNe_nil | exact neSuf (by assumption) (by walk_at "mine in") | exact ltSufNe (by assumption) (by walk_at "mine in") | (refine allNe_one (by k_ne) ?_; walk_at "mine nes"))
local macro_rules | `(tactic| walk_at "mine map") => `(tactic| first | exact List.forall_mem_nil _ | (refine List.forall_mem_cons.mpr ⟨rfl, ?_⟩; walk_at "mine map"))


/-- what the two code tables and the entries of other turns keep -/
structure TurnInv (six : List Addr) (ks1 ks2 own : List (Addr × Obj)) (ps1 ps2 : Array Value) : Prop where
  c1 : Codes ks1 ps1 (Str.ofString "_law_answers.<locals>.answer")
  c2 : Codes ks2 ps2 (Str.ofString "law.<locals>.<lambda>")
  o1 : OwnOff ks1 six
  o2 : OwnOff ks2 six
  oo : OwnOff own six
  t1 : TbOff own ks1
  t2 : TbOff own ks2
section
variable {w : World} {base h₀ : Heap} {L fa : Addr} {m mg mb : Str → Option Value} {p : Program} {loose : List Str} {mean : ExcName → Option Value} {Q : Flow → Shared → Prop} {E : Value → Shared → Prop}
set_option maxRecDepth 100000 in
theorem turn8 {i : Nat} {r Ds x D lS lU lF e1 D1 lt1 te1 : Addr} {ws : List Value} {k d n cc hc : Int} {tk td tn t1 t2 t3 t4 t5 t6 tcc thc ttop t7 t11 t12 t13 : Tok} {b : Bool} {ks1 ks2 own : List (Addr × Obj)} {ps1 ps2 : Array Value} {o1 o2 : Obj} {v v0 tb1 cx1 : Value} {s₁ : Shared} {h : Heap} {tk0 : Nat}
    (B : Below callerA base [] h₀) (F : Fr h₀ L h m) (X : (hd.heap_39 w.params).In h₀) (XB : (hd.heap_39 w.params).In base) (T : Top p loose mean mg mb h₀) (TB : Top p loose mean mg mb base) (C1 : CodeHd base 143 141)
    (hm : ∀ p ∈ [((Str.ofString "rope"), Value.ref r), ((Str.ofString "kind"), Value.int k tk), ((Str.ofString "depth"), Value.int d td), ((Str.ofString "holder"), Value.ref x), ((Str.ofString "is_ended"), Value.bool b)], m p.1 = some p.2) (hk1 : 1 ≤ k)
    (N : News h₀ L h ((D, dictOf (hoD w.params t1 t2 t3 t4 t5 t6 tcc thc ttop lS lU lF cc hc 0) 6) :: ((141 : Nat), tabObj ps2) :: (x, instObj 38 D) :: (lU, W.listOf #[] 0) :: (lF, W.listOf #[.int 7 t7] 0) :: ((L + 1 : Nat), o2) :: ((L + 1 + 1 : Nat), o1) :: (e1, excO 66 D1 te1 tb1 cx1) :: (D1, dictOf (exD w.params t11 t12 t13 v lt1 b) 3) :: (r, W.listOf #[.ref Ds, .int n tn] 0) :: (Ds, W.listOf ws.toArray 0) :: ((134 : Nat), tabObj ps1) :: (ks1 ++ (ks2 ++ own))))
    (dD : ∀ p ∈ (x, instObj 38 D) :: (lU, W.listOf #[] 0) :: (lF, W.listOf #[.int 7 t7] 0) :: ((L + 1 : Nat), o2) :: ((L + 1 + 1 : Nat), o1) :: (e1, excO 66 D1 te1 tb1 cx1) :: (D1, dictOf (exD w.params t11 t12 t13 v lt1 b) 3) :: (r, W.listOf #[.ref Ds, .int n tn] 0) :: (Ds, W.listOf ws.toArray 0) :: ((134 : Nat), tabObj ps1) :: (ks1 ++ (ks2 ++ own)), p.1 ≠ D) (d1 : ∀ p ∈ (x, instObj 38 D) :: (lU, W.listOf #[] 0) :: (lF, W.listOf #[.int 7 t7] 0) :: ((L + 1 : Nat), o2) :: ((L + 1 + 1 : Nat), o1) :: (e1, excO 66 D1 te1 tb1 cx1) :: (D1, dictOf (exD w.params t11 t12 t13 v lt1 b) 3) :: (r, W.listOf #[.ref Ds, .int n tn] 0) :: (Ds, W.listOf ws.toArray 0) :: ((134 : Nat), tabObj ps1) :: (ks1 ++ (ks2 ++ own)), p.1 ≠ 141) (hD : @Ne Nat D 141)
    (h1 : o1.data = .cell (some v0)) (h2 : o2.data = .cell (some (.ref e1))) (hh : handedIn v0 = true) (hS : SameV PySem.Challenge.rw_pq0676_01.row.prog w v0 v0)
    (hv : (b = true ∧ ∃ tv, v = .bytes (resB true).toArray tv) ∨ (b = false ∧ k = 1 ∧ v = v0) ∨ (b = false ∧ 2 ≤ k ∧ ∃ tv, v = .bytes (resB false).toArray tv))
    (I : TurnInv [r, Ds, (L + 1 + 1 : Nat), (L + 1 : Nat), (134 : Nat), (141 : Nat)] ks1 ks2 own ps1 ps2) (hn0 : 0 ≤ n) (hn1 : n ≤ 1 + 4 * ((i + 1 : Nat) : Int)) :
    Hdn (wpAny (model PySem.Challenge.rw_pq0676_01.row.prog w) (callerA.deeper (envOfC (Str.ofString "law") lawScope L fa (.ref 143))) (execs (turnFrom 8) (envOfC (Str.ofString "law") lawScope L fa (.ref 143))) (TbPost h₀ L (LawJ (Str.ofString "rope") r Ds (L + 1 + 1 : Nat) (L + 1 : Nat) (134 : Nat) (141 : Nat) (Str.ofString "_law_answers.<locals>.answer") (Str.ofString "law.<locals>.<lambda>") ws (i + 1)) own s₁ Q) E { s₁ with heap := h, toks := tk0 }) := by
  have e1' : m (Str.ofString "rope") = some (.ref r) := hm _ (.head _)
  have e2' : m (Str.ofString "kind") = some (.int k tk) := hm _ (.tail _ (.head _))
  have e3' : m (Str.ofString "depth") = some (.int d td) := hm _ (.tail _ (.tail _ (.head _)))
  have e4' : m (Str.ofString "holder") = some (.ref x) := hm _ (.tail _ (.tail _ (.tail _ (.head _))))
  have e5' : m (Str.ofString "is_ended") = some (.bool b) := hm _ (.tail _ (.tail _ (.tail _ (.tail _ (.head _)))))
  have hhv : handedIn v = true := by
    rcases hv with ⟨_, tv, rfl⟩ | ⟨_, _, rfl⟩ | ⟨_, _, tv, rfl⟩
    · rfl
    · exact hh
    · rfl
  refine seg8 (s := { s₁ with heap := h, toks := tk0 }) (b := b) B F X T (List.forall_mem_cons.mpr ⟨e2', List.forall_mem_cons.mpr ⟨e5', List.forall_mem_nil _⟩⟩) hk1 N (.tail _ (.tail _ (.tail _ (.tail _ (.tail _ (.head _)))))) h2 (.tail _ (.tail _ (.tail _ (.tail _ (.tail _ (.tail _ (.tail _ (.head _)))))))) (.tail _ (.tail _ (.tail _ (.tail _ (.tail _ (.tail _ (.tail _ (.tail _ (.head _))))))))) fun h' tk' F' N' => ?_
  clear N F
  refine tail10 (s := { s₁ with heap := h', toks := tk' }) (rest := ((141 : Nat), tabObj ps2) :: (x, instObj 38 D) :: (lU, W.listOf #[] 0) :: (lF, W.listOf #[.int 7 t7] 0) :: ((L + 1 : Nat), o2) :: ((L + 1 + 1 : Nat), o1) :: (e1, excO 66 D1 te1 tb1 cx1) :: (D1, dictOf (exD w.params t11 t12 t13 v lt1 b) 3) :: (r, W.listOf #[.ref Ds, .int n tn] 0) :: (Ds, W.listOf ws.toArray 0) :: ((134 : Nat), tabObj ps1) :: (ks1 ++ (ks2 ++ own))) B F' X T (List.forall_mem_cons.mpr ⟨e4', List.forall_mem_cons.mpr ⟨e3', List.forall_mem_nil _⟩⟩) N' (.tail _ (.tail _ (.head _))) (.drop (.nil (List.forall_mem_cons.mpr ⟨Ne.symm hD, dD⟩))) (.head _) (.tail _ (.head _)) (.tail _ (.tail _ (.head _))) (.tail _ (.tail _ (.tail _ (.head _)))) C1 fun tcc thc ttop h' tk' F' N' => ?_
  refine seg11 (s := { s₁ with heap := h', toks := tk' }) (b := b) (v := v) B F' X T (List.forall_mem_cons.mpr ⟨e1', List.forall_mem_cons.mpr ⟨e2', List.forall_mem_cons.mpr ⟨e3', List.forall_mem_cons.mpr ⟨e5', List.forall_mem_nil _⟩⟩⟩⟩) N' (.tail _ (.tail _ (.tail _ (.tail _ (.tail _ (.tail _ (.head _))))))) h1 hh hS hv fun v' h' tk' m' F' N' hm' hs => ?_
  have f1 : m' (Str.ofString "due") = some v' := hm' _ (.head _)
  have f2 : m' (Str.ofString "depth") = some (.int d td) := hm' _ (.tail _ (.head _))
  have f3 : m' (Str.ofString "rope") = some (.ref r) := hm' _ (.tail _ (.tail _ (.head _)))
  have S1 : ∀ p ∈ ks1 ++ (ks2 ++ own), p ∈ (D, dictOf (hoD w.params t1 t2 t3 t4 t5 t6 tcc thc ttop lS lU lF d 0 0) 6) :: (x, instObj 38 D) :: (lU, W.listOf #[] 0) :: (lF, W.listOf #[.int 7 t7] 0) :: ((L + 1 : Nat), o2) :: ((L + 1 + 1 : Nat), o1) :: (e1, excO 66 D1 te1 tb1 cx1) :: (D1, dictOf (exD w.params t11 t12 t13 v lt1 b) 3) :: (r, W.listOf #[.ref Ds, .int n tn] 0) :: (Ds, W.listOf ws.toArray 0) :: ((134 : Nat), tabObj ps1) :: (ks1 ++ (ks2 ++ own)) := fun p hp => (.tail _ (.tail _ (.tail _ (.tail _ (.tail _ (.tail _ (.tail _ (.tail _ (.tail _ (.tail _ (.tail _ (hp))))))))))))
  refine tail12 (s := { s₁ with heap := h', toks := tk' }) (rest := (D, dictOf (hoD w.params t1 t2 t3 t4 t5 t6 tcc thc ttop lS lU lF d 0 0) 6) :: (x, instObj 38 D) :: (lU, W.listOf #[] 0) :: (lF, W.listOf #[.int 7 t7] 0) :: ((L + 1 : Nat), o2) :: ((L + 1 + 1 : Nat), o1) :: (e1, excO 66 D1 te1 tb1 cx1) :: (D1, dictOf (exD w.params t11 t12 t13 v lt1 b) 3) :: (r, W.listOf #[.ref Ds, .int n tn] 0) :: (Ds, W.listOf ws.toArray 0) :: ((134 : Nat), tabObj ps1) :: (ks1 ++ (ks2 ++ own))) (ks := ks2) (ow := own) (adr := [r, Ds, (L + 1 + 1 : Nat), (L + 1 : Nat), (134 : Nat), (141 : Nat)]) (e1 := e1) (v := v) (v' := v') B F' X XB T TB (List.forall_mem_cons.mpr ⟨f1, List.forall_mem_cons.mpr ⟨f2, List.forall_mem_nil _⟩⟩) N'
    (.keep hD (.drop (.nil d1))) (.tail _ (.head _)) (.tail _ (.tail _ (.tail _ (.tail _ (.head _))))) h2 (.tail _ (.tail _ (.tail _ (.tail _ (.tail _ (.tail _ (.head _))))))) (.tail _ (.tail _ (.tail _ (.tail _ (.tail _ (.tail _ (.tail _ (.head _)))))))) hhv hs I.c2 (fun p hp => S1 p (List.mem_append_right _ (List.mem_append_left _ hp))) I.t2 (fun p hp => S1 p (List.mem_append_right _ (List.mem_append_right _ hp))) I.o2
    (List.forall_mem_cons.mpr ⟨⟨_, (.tail _ (.tail _ (.tail _ (.tail _ (.tail _ (.tail _ (.tail _ (.tail _ (.tail _ (.head _))))))))))⟩, List.forall_mem_cons.mpr ⟨⟨_, (.tail _ (.tail _ (.tail _ (.tail _ (.tail _ (.tail _ (.tail _ (.tail _ (.tail _ (.tail _ (.head _)))))))))))⟩, List.forall_mem_cons.mpr ⟨⟨_, (.tail _ (.tail _ (.tail _ (.tail _ (.tail _ (.tail _ (.head _)))))))⟩, List.forall_mem_cons.mpr ⟨⟨_, (.tail _ (.tail _ (.tail _ (.tail _ (.tail _ (.head _))))))⟩, List.forall_mem_cons.mpr ⟨⟨_, (.tail _ (.tail _ (.tail _ (.tail _ (.tail _ (.tail _ (.tail _ (.tail _ (.tail _ (.tail _ (.tail _ (.head _))))))))))))⟩, List.forall_mem_cons.mpr ⟨⟨_, (.head _)⟩, List.forall_mem_nil _⟩⟩⟩⟩⟩⟩) C1 fun c2 oc2 ps' h' tk' hC' hT' hO' F' N' => ?_
  have S2 : ∀ p ∈ ks1 ++ (ks2 ++ own), p ∈ (c2, oc2) :: ((141 : Nat), tabObj ps') :: (D, dictOf (hoD w.params t1 t2 t3 t4 t5 t6 tcc thc ttop lS lU lF d 0 0) 6) :: (x, instObj 38 D) :: (lU, W.listOf #[] 0) :: (lF, W.listOf #[.int 7 t7] 0) :: ((L + 1 : Nat), o2) :: ((L + 1 + 1 : Nat), o1) :: (e1, excO 66 D1 te1 tb1 cx1) :: (D1, dictOf (exD w.params t11 t12 t13 v lt1 b) 3) :: (r, W.listOf #[.ref Ds, .int n tn] 0) :: (Ds, W.listOf ws.toArray 0) :: ((134 : Nat), tabObj ps1) :: (ks1 ++ (ks2 ++ own)) := fun p hp => .tail _ (.tail _ (S1 p hp))
  have hN : ∀ p ∈ ledJ r Ds (L + 1 + 1 : Nat) (L + 1 : Nat) (134 : Nat) (141 : Nat) ws n tn o1 o2 ps1 ps' (ks1 ++ ((c2, oc2) :: ks2)), p ∈ (c2, oc2) :: ((141 : Nat), tabObj ps') :: (D, dictOf (hoD w.params t1 t2 t3 t4 t5 t6 tcc thc ttop lS lU lF d 0 0) 6) :: (x, instObj 38 D) :: (lU, W.listOf #[] 0) :: (lF, W.listOf #[.int 7 t7] 0) :: ((L + 1 : Nat), o2) :: ((L + 1 + 1 : Nat), o1) :: (e1, excO 66 D1 te1 tb1 cx1) :: (D1, dictOf (exD w.params t11 t12 t13 v lt1 b) 3) :: (r, W.listOf #[.ref Ds, .int n tn] 0) :: (Ds, W.listOf ws.toArray 0) :: ((134 : Nat), tabObj ps1) :: (ks1 ++ (ks2 ++ own)) := by
    refine List.forall_mem_cons.mpr ⟨(.tail _ (.tail _ (.tail _ (.tail _ (.tail _ (.tail _ (.tail _ (.tail _ (.tail _ (.tail _ (.head _))))))))))), List.forall_mem_cons.mpr ⟨(.tail _ (.tail _ (.tail _ (.tail _ (.tail _ (.tail _ (.tail _ (.tail _ (.tail _ (.tail _ (.tail _ (.head _)))))))))))), List.forall_mem_cons.mpr ⟨(.tail _ (.tail _ (.tail _ (.tail _ (.tail _ (.tail _ (.tail _ (.head _)))))))), List.forall_mem_cons.mpr ⟨(.tail _ (.tail _ (.tail _ (.tail _ (.tail _ (.tail _ (.head _))))))), List.forall_mem_cons.mpr ⟨(.tail _ (.tail _ (.tail _ (.tail _ (.tail _ (.tail _ (.tail _ (.tail _ (.tail _ (.tail _ (.tail _ (.tail _ (.head _))))))))))))), List.forall_mem_cons.mpr ⟨(.tail _ (.head _)), fun p hp => ?_⟩⟩⟩⟩⟩⟩
    rcases List.mem_append.mp hp with hp | hp
    · exact S2 p (List.mem_append_left _ hp)
    · rcases List.mem_cons.mp hp with rfl | hp
      · exact .head _
      · exact S2 p (List.mem_append_right _ (List.mem_append_left _ hp))
  show TbEnd h₀ L (LawJ (Str.ofString "rope") r Ds (L + 1 + 1 : Nat) (L + 1 : Nat) (134 : Nat) (141 : Nat) (Str.ofString "_law_answers.<locals>.answer") (Str.ofString "law.<locals>.<lambda>") ws (i + 1)) own s₁ { s₁ with heap := h', toks := tk' }
  exact law_turnEnd F' N' hN (fun p hp => S2 p (List.mem_append_right _ (List.mem_append_right _ hp))) h1 h2 hn0 hn1 I.c1 hC' I.o1 hO' I.oo I.t1 hT' f3
end


end
section
local macro_rules | `(tactic| walk_at "mine pad 0") => `(tactic| fail)
local macro_rules | `(tactic| walk_at "mine memr") => `(tactic| first | with_reducible exact List.Mem.head _ | (with_reducible refine List.Mem.tail _ ?_; walk_at "mine memr"))
local macro_rules | `(tactic| k_memK) => `(tactic| walk_at "mine memr")
local macro_rules | `(tactic| k_lt $h) => `(tactic| (replace $h := allLt_of $h))
local macro_rules | `(tactic| k_ne) => `(tactic| (refine neN ?_; (try dsimp only); first | assumption | exact (Ne.symm (by assumption)) | exact Nat.ne_of_lt (by assumption) | exact Nat.ne_of_gt (by assumption) | exact allLt_ne (by assumption) (by k_memK) | exact (allLt_ne (by assumption) (by k_memK)).symm | exact allNe_mem (by assumption) (by k_memK) | exact (allNe_mem (by assumption) (by k_memK)).symm | exact allLt_ne2 (by assumption) (by assumption) (by k_memK) | exact (allLt_ne2 (by assumption) (by assumption) (by k_memK)).symm | exact allLt_ne1 (by assumption) (by k_memK) | exact (allLt_ne1 (by assumption) (by k_memK)).symm | exact neAll_mem (by assumption) (by k_memK) | exact (neAll_mem (by assumption) (by k_memK)).symm | exact offHead (by assumption) (by k_memK) | exact (offHead (by assumption) (by k_memK)).symm))
local macro_rules | `(tactic| walk_at "mine in") => `(tactic| (intro p9 h9; (repeat' (first | exact h9 | exact List.mem_append_left _ h9 | exact List.mem_append_right _ h9 | refine List.Mem.tail _ ?_)); done))
local macro_rules | `(tactic| k_all) => `(tactic| first | exact List.forall_mem_nil _ | (with_reducible refine List.forall_mem_cons.mpr ⟨?a, ?b⟩; (case a => k_ne); (case b => k_all)) | exact OwnOff.ne (by assumption) (by k_memK) | exact ltTl (by assumption) (by walk_at "mine in") | exact neTl (by assumption) (by walk_at "mine in") | exact ltTl2 (by assumption) (by assumption) (by walk_at "mine in"))
local macro_rules | `(tactic| walk_at "mine led") => `(tactic| first | (refine List.forall_mem_cons.mpr ⟨by k_memK, ?_⟩; walk_at "mine led") | exact List.forall_mem_nil _ | (refine List.forall_mem_append.mpr ⟨?y1, ?y2⟩; (case y1 => walk_at "mine led"); (case y2 => walk_at "mine led")) | walk_at "mine in")
local macro_rules | `(tactic| walk_at "mine lts") => `(tactic| first | assumption | exact ltSuf (by assumption) (by walk_at "mine in") | (refine allLt_cons (by assumption) (by k_memK) ?_; walk_at "mine lts"))
local macro_rules | `(tactic| walk_at "mine nes") => `(tactic| first | assumption | exact allNe_nil | exact neSuf (by assumption) (by walk_at "mine in") | exact ltSufNe (by assumption) (by walk_at "mine in") | (refine allNe_one (by k_ne) ?_; walk_at "mine nes"))
local macro_rules | `(tactic| walk_at "mine map") => `(tactic| first | exact List.forall_mem_nil _ | (refine List.forall_mem_cons.mpr ⟨rfl, ?_⟩; walk_at "mine map"))


theorem inL {a b : List (Addr × Obj)} {p : Addr × Obj} (h : p ∈ a) : p ∈ a ++ b := List.mem_append_left _ h
theorem inR {a b : List (Addr × Obj)} {p : Addr × Obj} (h : p ∈ b) : p ∈ a ++ b := List.mem_append_right _ h
theorem six3 {a b c d e f x : Addr} (h : x ∈ [a, b, c]) : x ∈ [a, b, c, d, e, f] := by
  rcases List.mem_cons.mp h with rfl | h
  · exact .head _
  rcases List.mem_cons.mp h with rfl | h
  · exact .tail _ (.head _)
  rcases List.mem_cons.mp h with rfl | h
  · exact .tail _ (.tail _ (.head _))
  cases h
theorem turnFrom0 : turnFrom 0 = turnBody := by
  unfold turnFrom
  exact List.drop_zero
section
variable {w : World} {base h₀ : Heap} {L fa : Addr} {m mg mb : Str → Option Value} {p : Program} {loose : List Str} {mean : ExcName → Option Value} {Q : Flow → Shared → Prop} {E : Value → Shared → Prop}
theorem turn0 {r Ds : Addr} {ws : List Value} {k d mo t n : Int} {tk td tmo tt tn : Tok} {o1 w2 : Obj} {b2 : Option Value} {v : Value} {ps1 ps2 : Array Value} {cs own : List (Addr × Obj)} {s₁ : Shared} {h : Heap} {tk0 i : Nat}
    (B : Below callerA base [] h₀) (F : Fr h₀ L h m) (X : (hd.heap_39 w.params).In h₀) (XB : (hd.heap_39 w.params).In base) (T : Top p loose mean mg mb h₀) (TB : Top p loose mean mg mb base) (C1 : CodeHd base 143 141) (C2 : CodeHd base 138 134)
    (z1 : GnNe r ((Ds, instObj 0 0) :: ((L + 1 + 1 : Nat), instObj 0 0) :: ((L + 1 : Nat), instObj 0 0) :: ((134 : Nat), instObj 0 0) :: ((141 : Nat), instObj 0 0) :: []))
    (z2 : GnNe Ds (((L + 1 + 1 : Nat), instObj 0 0) :: ((L + 1 : Nat), instObj 0 0) :: ((134 : Nat), instObj 0 0) :: ((141 : Nat), instObj 0 0) :: []))
    (z3 : GnNe (L + 1 + 1 : Nat) (((L + 1 : Nat), instObj 0 0) :: ((134 : Nat), instObj 0 0) :: ((141 : Nat), instObj 0 0) :: []))
    (z4 : GnNe (L + 1 : Nat) (((134 : Nat), instObj 0 0) :: ((141 : Nat), instObj 0 0) :: [])) (z5 : GnNe (134 : Nat) (((141 : Nat), instObj 0 0) :: []))
    (hm : ∀ p ∈ [((Str.ofString "rope"), Value.ref r), ((Str.ofString "kind"), Value.int k tk), ((Str.ofString "depth"), Value.int d td), ((Str.ofString "most"), Value.int mo tmo), ((Str.ofString "times"), Value.int t tt)], m p.1 = some p.2) (hn0 : 0 ≤ n) (hn1 : n ≤ 1 + 4 * ((i + 1 : Nat) : Int)) (hd1 : o1.data = .cell (some v)) (hw2 : w2.data = .cell b2) (hh : handedIn v = true) (hS : SameV PySem.Challenge.rw_pq0676_01.row.prog w v v)
    (hC1 : Codes cs ps1 (Str.ofString "_law_answers.<locals>.answer")) (hC2 : Codes cs ps2 (Str.ofString "law.<locals>.<lambda>")) (hO : OwnOff cs [r, Ds, (L + 1 + 1 : Nat), (L + 1 : Nat), (134 : Nat), (141 : Nat)]) (hO2 : OwnOff own [r, Ds, (L + 1 + 1 : Nat), (L + 1 : Nat), (134 : Nat), (141 : Nat)]) (hT : TbOff own cs)
    (N : News h₀ L h ((r, W.listOf #[.ref Ds, .int n tn] 0) :: (Ds, W.listOf ws.toArray 0) :: ((L + 1 + 1 : Nat), o1) :: ((L + 1 : Nat), w2) :: ((134 : Nat), tabObj ps1) :: ((141 : Nat), tabObj ps2) :: (cs ++ own))) (hk : k = 0) : Hdn (wpAny (model PySem.Challenge.rw_pq0676_01.row.prog w) (callerA.deeper (envOfC (Str.ofString "law") lawScope L fa (.ref 143))) (execs (turnFrom 3) (envOfC (Str.ofString "law") lawScope L fa (.ref 143))) (TbPost h₀ L (LawJ (Str.ofString "rope") r Ds (L + 1 + 1 : Nat) (L + 1 : Nat) (134 : Nat) (141 : Nat) (Str.ofString "_law_answers.<locals>.answer") (Str.ofString "law.<locals>.<lambda>") ws (i + 1)) own s₁ Q) E { s₁ with heap := h, toks := tk0 }) := by
  refine seg3 (s := { s₁ with heap := h, toks := tk0 }) (m := m) (news := ((141 : Nat), tabObj ps2) :: (r, W.listOf #[.ref Ds, .int n tn] 0) :: (Ds, W.listOf ws.toArray 0) :: ((L + 1 + 1 : Nat), o1) :: ((L + 1 : Nat), w2) :: ((134 : Nat), tabObj ps1) :: (cs ++ own)) B F X T hm (by omega) (News.less N (List.forall_mem_cons.mpr ⟨(.tail _ (.tail _ (.tail _ (.tail _ (.tail _ (.head _)))))), List.forall_mem_cons.mpr ⟨(.head _), List.forall_mem_cons.mpr ⟨(.tail _ (.head _)), List.forall_mem_cons.mpr ⟨(.tail _ (.tail _ (.head _))), List.forall_mem_cons.mpr ⟨(.tail _ (.tail _ (.tail _ (.head _)))), List.forall_mem_cons.mpr ⟨(.tail _ (.tail _ (.tail _ (.tail _ (.head _))))), (fun p hp => (.tail _ (.tail _ (.tail _ (.tail _ (.tail _ (.tail _ (hp))))))))⟩⟩⟩⟩⟩⟩)) fun h' tk' m' F' N' hm' => ?_
  clear F N hm
  refine segD0 (s := { s₁ with heap := h', toks := tk' }) (m := m') (rest := (r, W.listOf #[.ref Ds, .int n tn] 0) :: (Ds, W.listOf ws.toArray 0) :: ((L + 1 + 1 : Nat), o1) :: ((L + 1 : Nat), w2) :: ((134 : Nat), tabObj ps1) :: (cs ++ own)) (ks := cs) (ow := own) (adr := [r, Ds, (L + 1 + 1 : Nat), (L + 1 : Nat), (134 : Nat), (141 : Nat)]) B F' X T hm' (by omega) N' (List.forall_mem_cons.mpr ⟨(Ne.symm z1.2.2.2.2.1), List.forall_mem_cons.mpr ⟨(Ne.symm z2.2.2.2.1), List.forall_mem_cons.mpr ⟨(Ne.symm z3.2.2.1), List.forall_mem_cons.mpr ⟨(Ne.symm z4.2.1), List.forall_mem_cons.mpr ⟨(Ne.symm z5.1), (fun p hp => (List.mem_append.mp hp).elim (fun hp => (hO p hp _ (.tail _ (.tail _ (.tail _ (.tail _ (.tail _ (.head _)))))))) (fun hp => (hO2 p hp _ (.tail _ (.tail _ (.tail _ (.tail _ (.tail _ (.head _)))))))))⟩⟩⟩⟩⟩) hC2 (fun p hp => (.tail _ (.tail _ (.tail _ (.tail _ (.tail _ (inL hp))))))) hT (fun p hp => (.tail _ (.tail _ (.tail _ (.tail _ (.tail _ (inR hp))))))) hO (List.forall_mem_cons.mpr ⟨⟨_, (.tail _ (.head _))⟩, List.forall_mem_cons.mpr ⟨⟨_, (.tail _ (.tail _ (.head _)))⟩, List.forall_mem_cons.mpr ⟨⟨_, (.tail _ (.tail _ (.tail _ (.head _))))⟩, List.forall_mem_cons.mpr ⟨⟨_, (.tail _ (.tail _ (.tail _ (.tail _ (.head _)))))⟩, List.forall_mem_cons.mpr ⟨⟨_, (.tail _ (.tail _ (.tail _ (.tail _ (.tail _ (.head _))))))⟩, List.forall_mem_cons.mpr ⟨⟨_, (.head _)⟩, List.forall_mem_nil _⟩⟩⟩⟩⟩⟩) C1 fun x D lS lU lF f c' oc name qual pm ctv vs t1 t2 t3 t4 t5 t6 tc th tp t7 tq ps' h' tk' m' F' N' hm' hcv hcq hC' hT' hO' lf lc lD lx lu lv => ?_
  refine segF0 (s := { s₁ with heap := h', toks := tk' }) (m := m') (w2 := w2) (oc := oc) (f := f) (c' := c') B F' X T XB TB hm' hk hw2 (News.less N' (List.forall_mem_cons.mpr ⟨(.tail _ (.tail _ (.tail _ (.tail _ (.tail _ (.tail _ (.tail _ (.tail _ (.tail _ (.tail _ (.head _))))))))))), List.forall_mem_cons.mpr ⟨(.head _), List.forall_mem_cons.mpr ⟨(.tail _ (.head _)), List.forall_mem_cons.mpr ⟨(.tail _ (.tail _ (.head _))), List.forall_mem_cons.mpr ⟨(.tail _ (.tail _ (.tail _ (.head _)))), List.forall_mem_cons.mpr ⟨(.tail _ (.tail _ (.tail _ (.tail _ (.head _))))), List.forall_mem_cons.mpr ⟨(.tail _ (.tail _ (.tail _ (.tail _ (.tail _ (.head _)))))), List.forall_mem_cons.mpr ⟨(.tail _ (.tail _ (.tail _ (.tail _ (.tail _ (.tail _ (.head _))))))), List.forall_mem_cons.mpr ⟨(.tail _ (.tail _ (.tail _ (.tail _ (.tail _ (.tail _ (.tail _ (.head _)))))))), List.forall_mem_cons.mpr ⟨(.tail _ (.tail _ (.tail _ (.tail _ (.tail _ (.tail _ (.tail _ (.tail _ (.head _))))))))), List.forall_mem_cons.mpr ⟨(.tail _ (.tail _ (.tail _ (.tail _ (.tail _ (.tail _ (.tail _ (.tail _ (.tail _ (.head _)))))))))), List.forall_mem_cons.mpr ⟨(.tail _ (.tail _ (.tail _ (.tail _ (.tail _ (.tail _ (.tail _ (.tail _ (.tail _ (.tail _ (.tail _ (.head _)))))))))))), (fun p hp => (.tail _ (.tail _ (.tail _ (.tail _ (.tail _ (.tail _ (.tail _ (.tail _ (.tail _ (.tail _ (.tail _ (.tail _ (hp))))))))))))))⟩⟩⟩⟩⟩⟩⟩⟩⟩⟩⟩⟩)) (gnNe_of (List.forall_mem_cons.mpr ⟨(Nat.ne_of_gt (Nat.lt_trans (allLt_mem lD (.tail _ (.tail _ (.tail _ (.tail _ (.tail _ (.tail _ (.head _)))))))) lx)), List.forall_mem_cons.mpr ⟨(Nat.ne_of_gt (allLt_mem lD (.tail _ (.tail _ (.tail _ (.tail _ (.tail _ (.tail _ (.head _))))))))), List.forall_mem_cons.mpr ⟨(Nat.ne_of_gt (Nat.lt_trans (allLt_mem lD (.tail _ (.tail _ (.tail _ (.tail _ (.tail _ (.tail _ (.head _)))))))) lu)), List.forall_mem_cons.mpr ⟨(Nat.ne_of_gt (Nat.lt_trans (allLt_mem lD (.tail _ (.tail _ (.tail _ (.tail _ (.tail _ (.tail _ (.head _)))))))) lv)), List.forall_mem_cons.mpr ⟨(Nat.ne_of_gt (allLt_mem lf (.tail _ (.tail _ (.tail _ (.tail _ (.head _))))))), List.forall_mem_cons.mpr ⟨(hO' _ (.head _) _ (.tail _ (.tail _ (.tail _ (.head _))))), List.forall_mem_cons.mpr ⟨z4.2.1, List.forall_mem_cons.mpr ⟨(Ne.symm z1.2.2.1), List.forall_mem_cons.mpr ⟨(Ne.symm z2.2.1), List.forall_mem_cons.mpr ⟨(Ne.symm z3.1), List.forall_mem_cons.mpr ⟨z4.1, (fun p hp => (List.mem_append.mp hp).elim (fun hp => (hO p hp _ (.tail _ (.tail _ (.tail _ (.head _)))))) (fun hp => (hO2 p hp _ (.tail _ (.tail _ (.tail _ (.head _)))))))⟩⟩⟩⟩⟩⟩⟩⟩⟩⟩⟩)) (.tail _ (.tail _ (.tail _ (.tail _ (.head _))))) (.tail _ (.tail _ (.tail _ (.tail _ (.tail _ (.head _)))))) hcv hcq C1 fun o2 b h' tk' m' hb hr F' N' => ?_
  show TbEnd h₀ L (LawJ (Str.ofString "rope") r Ds (L + 1 + 1 : Nat) (L + 1 : Nat) (134 : Nat) (141 : Nat) (Str.ofString "_law_answers.<locals>.answer") (Str.ofString "law.<locals>.<lambda>") ws (i + 1)) own s₁ { s₁ with heap := h', toks := tk' }
  exact law_turnEnd (k1 := cs) (k2 := ((c', oc) :: cs)) F' N' (List.forall_mem_cons.mpr ⟨(.tail _ (.tail _ (.tail _ (.tail _ (.tail _ (.tail _ (.tail _ (.tail _ (.head _))))))))), List.forall_mem_cons.mpr ⟨(.tail _ (.tail _ (.tail _ (.tail _ (.tail _ (.tail _ (.tail _ (.tail _ (.tail _ (.head _)))))))))), List.forall_mem_cons.mpr ⟨(.tail _ (.tail _ (.tail _ (.tail _ (.tail _ (.tail _ (.tail _ (.tail _ (.tail _ (.tail _ (.head _))))))))))), List.forall_mem_cons.mpr ⟨(.head _), List.forall_mem_cons.mpr ⟨(.tail _ (.tail _ (.tail _ (.tail _ (.tail _ (.tail _ (.tail _ (.tail _ (.tail _ (.tail _ (.tail _ (.head _)))))))))))), List.forall_mem_cons.mpr ⟨(.tail _ (.tail _ (.tail _ (.tail _ (.tail _ (.tail _ (.tail _ (.head _)))))))), (fun p hp => (List.mem_append.mp hp).elim (fun hp => (.tail _ (.tail _ (.tail _ (.tail _ (.tail _ (.tail _ (.tail _ (.tail _ (.tail _ (.tail _ (.tail _ (.tail _ (inL hp)))))))))))))) (fun hp => (List.mem_cons.mp hp).elim (fun e => e ▸ (.tail _ (.tail _ (.tail _ (.tail _ (.tail _ (.tail _ (.head _)))))))) (fun hp => (.tail _ (.tail _ (.tail _ (.tail _ (.tail _ (.tail _ (.tail _ (.tail _ (.tail _ (.tail _ (.tail _ (.tail _ (inL hp))))))))))))))))⟩⟩⟩⟩⟩⟩) (fun p hp => (.tail _ (.tail _ (.tail _ (.tail _ (.tail _ (.tail _ (.tail _ (.tail _ (.tail _ (.tail _ (.tail _ (.tail _ (inR hp)))))))))))))) hd1 hb hn0 hn1 hC1 hC' hO hO' hO2 hT hT' hr
theorem turn1 {r Ds : Addr} {ws : List Value} {k d mo t n : Int} {tk td tmo tt tn : Tok} {o1 w2 : Obj} {b2 : Option Value} {v : Value} {ps1 ps2 : Array Value} {cs own : List (Addr × Obj)} {s₁ : Shared} {h : Heap} {tk0 i : Nat}
    (B : Below callerA base [] h₀) (F : Fr h₀ L h m) (X : (hd.heap_39 w.params).In h₀) (XB : (hd.heap_39 w.params).In base) (T : Top p loose mean mg mb h₀) (TB : Top p loose mean mg mb base) (C1 : CodeHd base 143 141) (C2 : CodeHd base 138 134)
    (z1 : GnNe r ((Ds, instObj 0 0) :: ((L + 1 + 1 : Nat), instObj 0 0) :: ((L + 1 : Nat), instObj 0 0) :: ((134 : Nat), instObj 0 0) :: ((141 : Nat), instObj 0 0) :: []))
    (z2 : GnNe Ds (((L + 1 + 1 : Nat), instObj 0 0) :: ((L + 1 : Nat), instObj 0 0) :: ((134 : Nat), instObj 0 0) :: ((141 : Nat), instObj 0 0) :: []))
    (z3 : GnNe (L + 1 + 1 : Nat) (((L + 1 : Nat), instObj 0 0) :: ((134 : Nat), instObj 0 0) :: ((141 : Nat), instObj 0 0) :: []))
    (z4 : GnNe (L + 1 : Nat) (((134 : Nat), instObj 0 0) :: ((141 : Nat), instObj 0 0) :: [])) (z5 : GnNe (134 : Nat) (((141 : Nat), instObj 0 0) :: []))
    (hm : ∀ p ∈ [((Str.ofString "rope"), Value.ref r), ((Str.ofString "kind"), Value.int k tk), ((Str.ofString "depth"), Value.int d td), ((Str.ofString "most"), Value.int mo tmo), ((Str.ofString "times"), Value.int t tt)], m p.1 = some p.2) (hn0 : 0 ≤ n) (hn1 : n ≤ 1 + 4 * ((i + 1 : Nat) : Int)) (hd1 : o1.data = .cell (some v)) (hw2 : w2.data = .cell b2) (hh : handedIn v = true) (hS : SameV PySem.Challenge.rw_pq0676_01.row.prog w v v)
    (hC1 : Codes cs ps1 (Str.ofString "_law_answers.<locals>.answer")) (hC2 : Codes cs ps2 (Str.ofString "law.<locals>.<lambda>")) (hO : OwnOff cs [r, Ds, (L + 1 + 1 : Nat), (L + 1 : Nat), (134 : Nat), (141 : Nat)]) (hO2 : OwnOff own [r, Ds, (L + 1 + 1 : Nat), (L + 1 : Nat), (134 : Nat), (141 : Nat)]) (hT : TbOff own cs)
    (N : News h₀ L h ((r, W.listOf #[.ref Ds, .int n tn] 0) :: (Ds, W.listOf ws.toArray 0) :: ((L + 1 + 1 : Nat), o1) :: ((L + 1 : Nat), w2) :: ((134 : Nat), tabObj ps1) :: ((141 : Nat), tabObj ps2) :: (cs ++ own))) (hk : k = 1) : Hdn (wpAny (model PySem.Challenge.rw_pq0676_01.row.prog w) (callerA.deeper (envOfC (Str.ofString "law") lawScope L fa (.ref 143))) (execs (turnFrom 3) (envOfC (Str.ofString "law") lawScope L fa (.ref 143))) (TbPost h₀ L (LawJ (Str.ofString "rope") r Ds (L + 1 + 1 : Nat) (L + 1 : Nat) (134 : Nat) (141 : Nat) (Str.ofString "_law_answers.<locals>.answer") (Str.ofString "law.<locals>.<lambda>") ws (i + 1)) own s₁ Q) E { s₁ with heap := h, toks := tk0 }) := by
  refine seg3 (s := { s₁ with heap := h, toks := tk0 }) (m := m) (news := ((141 : Nat), tabObj ps2) :: (r, W.listOf #[.ref Ds, .int n tn] 0) :: (Ds, W.listOf ws.toArray 0) :: ((L + 1 + 1 : Nat), o1) :: ((L + 1 : Nat), w2) :: ((134 : Nat), tabObj ps1) :: (cs ++ own)) B F X T hm (by omega) (News.less N (List.forall_mem_cons.mpr ⟨(.tail _ (.tail _ (.tail _ (.tail _ (.tail _ (.head _)))))), List.forall_mem_cons.mpr ⟨(.head _), List.forall_mem_cons.mpr ⟨(.tail _ (.head _)), List.forall_mem_cons.mpr ⟨(.tail _ (.tail _ (.head _))), List.forall_mem_cons.mpr ⟨(.tail _ (.tail _ (.tail _ (.head _)))), List.forall_mem_cons.mpr ⟨(.tail _ (.tail _ (.tail _ (.tail _ (.head _))))), (fun p hp => (.tail _ (.tail _ (.tail _ (.tail _ (.tail _ (.tail _ (hp))))))))⟩⟩⟩⟩⟩⟩)) fun h' tk' m' F' N' hm' => ?_
  clear F N hm
  refine segD (s := { s₁ with heap := h', toks := tk' }) (m := m') (rest := (r, W.listOf #[.ref Ds, .int n tn] 0) :: (Ds, W.listOf ws.toArray 0) :: ((L + 1 + 1 : Nat), o1) :: ((L + 1 : Nat), w2) :: ((134 : Nat), tabObj ps1) :: (cs ++ own)) (ks := cs) (ow := own) (adr := [r, Ds, (L + 1 + 1 : Nat), (L + 1 : Nat), (134 : Nat), (141 : Nat)]) B F' X T hm' (by omega) N' (List.forall_mem_cons.mpr ⟨(Ne.symm z1.2.2.2.2.1), List.forall_mem_cons.mpr ⟨(Ne.symm z2.2.2.2.1), List.forall_mem_cons.mpr ⟨(Ne.symm z3.2.2.1), List.forall_mem_cons.mpr ⟨(Ne.symm z4.2.1), List.forall_mem_cons.mpr ⟨(Ne.symm z5.1), (fun p hp => (List.mem_append.mp hp).elim (fun hp => (hO p hp _ (.tail _ (.tail _ (.tail _ (.tail _ (.tail _ (.head _)))))))) (fun hp => (hO2 p hp _ (.tail _ (.tail _ (.tail _ (.tail _ (.tail _ (.head _)))))))))⟩⟩⟩⟩⟩) hC2 (fun p hp => (.tail _ (.tail _ (.tail _ (.tail _ (.tail _ (inL hp))))))) hT (fun p hp => (.tail _ (.tail _ (.tail _ (.tail _ (.tail _ (inR hp))))))) hO (List.forall_mem_cons.mpr ⟨⟨_, (.tail _ (.head _))⟩, List.forall_mem_cons.mpr ⟨⟨_, (.tail _ (.tail _ (.head _)))⟩, List.forall_mem_cons.mpr ⟨⟨_, (.tail _ (.tail _ (.tail _ (.head _))))⟩, List.forall_mem_cons.mpr ⟨⟨_, (.tail _ (.tail _ (.tail _ (.tail _ (.head _)))))⟩, List.forall_mem_cons.mpr ⟨⟨_, (.tail _ (.tail _ (.tail _ (.tail _ (.tail _ (.head _))))))⟩, List.forall_mem_cons.mpr ⟨⟨_, (.head _)⟩, List.forall_mem_nil _⟩⟩⟩⟩⟩⟩) C1 fun x D lS lU lF f c' oc name qual pm ctv vs t1 t2 t3 t4 t5 t6 tc th tp t7 tq ps' h' tk' m' F' N' hm' hcv hcq hC' hT' hO' lf lc lD lx lu lv => ?_
  refine segF1 (s := { s₁ with heap := h', toks := tk' }) (m := m') (w2 := w2) (oc := oc) (f := f) (c' := c') (o1 := o1) (v := v) B F' X T XB TB hm' hk hw2 (News.less N' (List.forall_mem_cons.mpr ⟨(.tail _ (.tail _ (.tail _ (.tail _ (.tail _ (.tail _ (.tail _ (.tail _ (.tail _ (.tail _ (.head _))))))))))), List.forall_mem_cons.mpr ⟨(.head _), List.forall_mem_cons.mpr ⟨(.tail _ (.head _)), List.forall_mem_cons.mpr ⟨(.tail _ (.tail _ (.head _))), List.forall_mem_cons.mpr ⟨(.tail _ (.tail _ (.tail _ (.head _)))), List.forall_mem_cons.mpr ⟨(.tail _ (.tail _ (.tail _ (.tail _ (.head _))))), List.forall_mem_cons.mpr ⟨(.tail _ (.tail _ (.tail _ (.tail _ (.tail _ (.head _)))))), List.forall_mem_cons.mpr ⟨(.tail _ (.tail _ (.tail _ (.tail _ (.tail _ (.tail _ (.head _))))))), List.forall_mem_cons.mpr ⟨(.tail _ (.tail _ (.tail _ (.tail _ (.tail _ (.tail _ (.tail _ (.head _)))))))), List.forall_mem_cons.mpr ⟨(.tail _ (.tail _ (.tail _ (.tail _ (.tail _ (.tail _ (.tail _ (.tail _ (.head _))))))))), List.forall_mem_cons.mpr ⟨(.tail _ (.tail _ (.tail _ (.tail _ (.tail _ (.tail _ (.tail _ (.tail _ (.tail _ (.head _)))))))))), List.forall_mem_cons.mpr ⟨(.tail _ (.tail _ (.tail _ (.tail _ (.tail _ (.tail _ (.tail _ (.tail _ (.tail _ (.tail _ (.tail _ (.head _)))))))))))), (fun p hp => (.tail _ (.tail _ (.tail _ (.tail _ (.tail _ (.tail _ (.tail _ (.tail _ (.tail _ (.tail _ (.tail _ (.tail _ (hp))))))))))))))⟩⟩⟩⟩⟩⟩⟩⟩⟩⟩⟩⟩)) (gnNe_of (List.forall_mem_cons.mpr ⟨(Nat.ne_of_gt (Nat.lt_trans (allLt_mem lD (.tail _ (.tail _ (.tail _ (.tail _ (.tail _ (.tail _ (.head _)))))))) lx)), List.forall_mem_cons.mpr ⟨(Nat.ne_of_gt (allLt_mem lD (.tail _ (.tail _ (.tail _ (.tail _ (.tail _ (.tail _ (.head _))))))))), List.forall_mem_cons.mpr ⟨(Nat.ne_of_gt (Nat.lt_trans (allLt_mem lD (.tail _ (.tail _ (.tail _ (.tail _ (.tail _ (.tail _ (.head _)))))))) lu)), List.forall_mem_cons.mpr ⟨(Nat.ne_of_gt (Nat.lt_trans (allLt_mem lD (.tail _ (.tail _ (.tail _ (.tail _ (.tail _ (.tail _ (.head _)))))))) lv)), List.forall_mem_cons.mpr ⟨(Nat.ne_of_gt (allLt_mem lf (.tail _ (.tail _ (.tail _ (.tail _ (.head _))))))), List.forall_mem_cons.mpr ⟨(hO' _ (.head _) _ (.tail _ (.tail _ (.tail _ (.head _))))), List.forall_mem_cons.mpr ⟨z4.2.1, List.forall_mem_cons.mpr ⟨(Ne.symm z1.2.2.1), List.forall_mem_cons.mpr ⟨(Ne.symm z2.2.1), List.forall_mem_cons.mpr ⟨(Ne.symm z3.1), List.forall_mem_cons.mpr ⟨z4.1, (fun p hp => (List.mem_append.mp hp).elim (fun hp => (hO p hp _ (.tail _ (.tail _ (.tail _ (.head _)))))) (fun hp => (hO2 p hp _ (.tail _ (.tail _ (.tail _ (.head _)))))))⟩⟩⟩⟩⟩⟩⟩⟩⟩⟩⟩)) (.tail _ (.tail _ (.tail _ (.tail _ (.head _))))) (.tail _ (.tail _ (.tail _ (.tail _ (.tail _ (.head _)))))) (.tail _ (.tail _ (.tail _ (.tail _ (.tail _ (.tail _ (.tail _ (.tail _ (.tail _ (.head _)))))))))) hcv hcq hd1 hh C1 fun e D1 lt te T' t1 t2 t3 b o2 h' tk' m' hb F' N' hm' ho2 he lD1 => ?_
  exact turn8 (ks1 := cs) (ks2 := ((c', oc) :: cs)) (own := own) (ps1 := ps1) (ps2 := ps') (o1 := o1) (o2 := o2) (v := v) (v0 := v) (b := b) (D := D) B F' X XB T TB C1 hm' (by omega) (News.less N' (List.forall_mem_cons.mpr ⟨(.tail _ (.tail _ (.tail _ (.tail _ (.head _))))), List.forall_mem_cons.mpr ⟨(.tail _ (.tail _ (.tail _ (.tail _ (.tail _ (.tail _ (.tail _ (.tail _ (.tail _ (.head _)))))))))), List.forall_mem_cons.mpr ⟨(.tail _ (.tail _ (.tail _ (.head _)))), List.forall_mem_cons.mpr ⟨(.tail _ (.tail _ (.tail _ (.tail _ (.tail _ (.head _)))))), List.forall_mem_cons.mpr ⟨(.tail _ (.tail _ (.tail _ (.tail _ (.tail _ (.tail _ (.head _))))))), List.forall_mem_cons.mpr ⟨(.tail _ (.tail _ (.head _))), List.forall_mem_cons.mpr ⟨(.tail _ (.tail _ (.tail _ (.tail _ (.tail _ (.tail _ (.tail _ (.tail _ (.tail _ (.tail _ (.tail _ (.tail _ (.head _))))))))))))), List.forall_mem_cons.mpr ⟨(.head _), List.forall_mem_cons.mpr ⟨(.tail _ (.head _)), List.forall_mem_cons.mpr ⟨(.tail _ (.tail _ (.tail _ (.tail _ (.tail _ (.tail _ (.tail _ (.tail _ (.tail _ (.tail _ (.head _))))))))))), List.forall_mem_cons.mpr ⟨(.tail _ (.tail _ (.tail _ (.tail _ (.tail _ (.tail _ (.tail _ (.tail _ (.tail _ (.tail _ (.tail _ (.head _)))))))))))), List.forall_mem_cons.mpr ⟨(.tail _ (.tail _ (.tail _ (.tail _ (.tail _ (.tail _ (.tail _ (.tail _ (.tail _ (.tail _ (.tail _ (.tail _ (.tail _ (.head _)))))))))))))), (fun p hp => (List.mem_append.mp hp).elim (fun hp => (.tail _ (.tail _ (.tail _ (.tail _ (.tail _ (.tail _ (.tail _ (.tail _ (.tail _ (.tail _ (.tail _ (.tail _ (.tail _ (.tail _ (inL hp)))))))))))))))) (fun hp => (List.mem_cons.mp hp).elim (fun e => e ▸ (.tail _ (.tail _ (.tail _ (.tail _ (.tail _ (.tail _ (.tail _ (.tail _ (.head _)))))))))) (fun hp => (.tail _ (.tail _ (.tail _ (.tail _ (.tail _ (.tail _ (.tail _ (.tail _ (.tail _ (.tail _ (.tail _ (.tail _ (.tail _ (.tail _ (hp))))))))))))))))))⟩⟩⟩⟩⟩⟩⟩⟩⟩⟩⟩⟩))
    (List.forall_mem_cons.mpr ⟨(Nat.ne_of_gt lx), List.forall_mem_cons.mpr ⟨(Nat.ne_of_gt lu), List.forall_mem_cons.mpr ⟨(Nat.ne_of_gt lv), List.forall_mem_cons.mpr ⟨(Nat.ne_of_lt (allLt_mem lD (.tail _ (.tail _ (.tail _ (.tail _ (.tail _ (.tail _ (.head _))))))))), List.forall_mem_cons.mpr ⟨(Nat.ne_of_lt (allLt_mem lD (.tail _ (.tail _ (.tail _ (.tail _ (.tail _ (.head _)))))))), List.forall_mem_cons.mpr ⟨(Ne.symm (allNe_mem he (.tail _ (.tail _ (.head _))))), List.forall_mem_cons.mpr ⟨(Nat.ne_of_gt (allLt_mem lD1 (.tail _ (.tail _ (.tail _ (.head _)))))), List.forall_mem_cons.mpr ⟨(Nat.ne_of_lt (allLt_mem lD (.tail _ (.tail _ (.tail _ (.head _)))))), List.forall_mem_cons.mpr ⟨(Nat.ne_of_lt (allLt_mem lD (.tail _ (.tail _ (.tail _ (.tail _ (.head _))))))), List.forall_mem_cons.mpr ⟨(Nat.ne_of_lt (allLt_mem lD (.tail _ (.tail _ (.tail _ (.tail _ (.tail _ (.tail _ (.tail _ (.head _)))))))))), (fun p hp => (List.mem_append.mp hp).elim (fun hp => (ltTl lD (fun p hp => (.tail _ (.tail _ (.tail _ (.tail _ (.tail _ (.tail _ (.tail _ (.tail _ (inL hp)))))))))) p hp)) (fun hp => (List.mem_cons.mp hp).elim (fun e => e ▸ (Nat.ne_of_lt (allLt_mem lD (.tail _ (.head _))))) (fun hp => (List.mem_append.mp hp).elim (fun hp => (ltTl lD (fun p hp => (.tail _ (.tail _ (.tail _ (.tail _ (.tail _ (.tail _ (.tail _ (.tail _ (inL hp)))))))))) p hp)) (fun hp => (ltTl lD (fun p hp => (.tail _ (.tail _ (.tail _ (.tail _ (.tail _ (.tail _ (.tail _ (.tail _ (inR hp)))))))))) p hp)))))⟩⟩⟩⟩⟩⟩⟩⟩⟩⟩)
    (List.forall_mem_cons.mpr ⟨(Nat.ne_of_gt (Nat.lt_trans (allLt_mem lD (.tail _ (.tail _ (.head _)))) lx)), List.forall_mem_cons.mpr ⟨(Nat.ne_of_gt (Nat.lt_trans (allLt_mem lD (.tail _ (.tail _ (.head _)))) lu)), List.forall_mem_cons.mpr ⟨(Nat.ne_of_gt (Nat.lt_trans (allLt_mem lD (.tail _ (.tail _ (.head _)))) lv)), List.forall_mem_cons.mpr ⟨(Ne.symm z4.2.1), List.forall_mem_cons.mpr ⟨(Ne.symm z3.2.2.1), List.forall_mem_cons.mpr ⟨(Ne.symm (allNe_mem he (.tail _ (.tail _ (.tail _ (.tail _ (.tail _ (.tail _ (.tail _ (.head _)))))))))), List.forall_mem_cons.mpr ⟨(Nat.ne_of_gt (allLt_mem lD1 (.tail _ (.tail _ (.tail _ (.tail _ (.tail _ (.tail _ (.tail _ (.tail _ (.head _))))))))))), List.forall_mem_cons.mpr ⟨(Ne.symm z1.2.2.2.2.1), List.forall_mem_cons.mpr ⟨(Ne.symm z2.2.2.2.1), List.forall_mem_cons.mpr ⟨(Ne.symm z5.1), (fun p hp => (List.mem_append.mp hp).elim (fun hp => (hO p hp _ (.tail _ (.tail _ (.tail _ (.tail _ (.tail _ (.head _)))))))) (fun hp => (List.mem_cons.mp hp).elim (fun e => e ▸ (hO' _ (.head _) _ (.tail _ (.tail _ (.tail _ (.tail _ (.tail _ (.head _)))))))) (fun hp => (List.mem_append.mp hp).elim (fun hp => (hO p hp _ (.tail _ (.tail _ (.tail _ (.tail _ (.tail _ (.head _)))))))) (fun hp => (hO2 p hp _ (.tail _ (.tail _ (.tail _ (.tail _ (.tail _ (.head _)))))))))))⟩⟩⟩⟩⟩⟩⟩⟩⟩⟩)
    (Nat.ne_of_gt (allLt_mem lD (.tail _ (.tail _ (.head _))))) hd1 ho2 hh hS (.inr (.inl ⟨hb, hk, rfl⟩)) ⟨hC1, hC', hO, hO', hO2, hT, hT'⟩ hn0 hn1
theorem turn2 {r Ds : Addr} {ws : List Value} {k d mo t n : Int} {tk td tmo tt tn : Tok} {o1 w2 : Obj} {b2 : Option Value} {v : Value} {ps1 ps2 : Array Value} {cs own : List (Addr × Obj)} {s₁ : Shared} {h : Heap} {tk0 i : Nat}
    (B : Below callerA base [] h₀) (F : Fr h₀ L h m) (X : (hd.heap_39 w.params).In h₀) (XB : (hd.heap_39 w.params).In base) (T : Top p loose mean mg mb h₀) (TB : Top p loose mean mg mb base) (C1 : CodeHd base 143 141) (C2 : CodeHd base 138 134)
    (z1 : GnNe r ((Ds, instObj 0 0) :: ((L + 1 + 1 : Nat), instObj 0 0) :: ((L + 1 : Nat), instObj 0 0) :: ((134 : Nat), instObj 0 0) :: ((141 : Nat), instObj 0 0) :: []))
    (z2 : GnNe Ds (((L + 1 + 1 : Nat), instObj 0 0) :: ((L + 1 : Nat), instObj 0 0) :: ((134 : Nat), instObj 0 0) :: ((141 : Nat), instObj 0 0) :: []))
    (z3 : GnNe (L + 1 + 1 : Nat) (((L + 1 : Nat), instObj 0 0) :: ((134 : Nat), instObj 0 0) :: ((141 : Nat), instObj 0 0) :: []))
    (z4 : GnNe (L + 1 : Nat) (((134 : Nat), instObj 0 0) :: ((141 : Nat), instObj 0 0) :: [])) (z5 : GnNe (134 : Nat) (((141 : Nat), instObj 0 0) :: []))
    (hm : ∀ p ∈ [((Str.ofString "rope"), Value.ref r), ((Str.ofString "kind"), Value.int k tk), ((Str.ofString "depth"), Value.int d td), ((Str.ofString "most"), Value.int mo tmo), ((Str.ofString "times"), Value.int t tt)], m p.1 = some p.2) (hn0 : 0 ≤ n) (hn1 : n ≤ 1 + 4 * ((i + 1 : Nat) : Int)) (hd1 : o1.data = .cell (some v)) (hw2 : w2.data = .cell b2) (hh : handedIn v = true) (hS : SameV PySem.Challenge.rw_pq0676_01.row.prog w v v)
    (hC1 : Codes cs ps1 (Str.ofString "_law_answers.<locals>.answer")) (hC2 : Codes cs ps2 (Str.ofString "law.<locals>.<lambda>")) (hO : OwnOff cs [r, Ds, (L + 1 + 1 : Nat), (L + 1 : Nat), (134 : Nat), (141 : Nat)]) (hO2 : OwnOff own [r, Ds, (L + 1 + 1 : Nat), (L + 1 : Nat), (134 : Nat), (141 : Nat)]) (hT : TbOff own cs)
    (N : News h₀ L h ((r, W.listOf #[.ref Ds, .int n tn] 0) :: (Ds, W.listOf ws.toArray 0) :: ((L + 1 + 1 : Nat), o1) :: ((L + 1 : Nat), w2) :: ((134 : Nat), tabObj ps1) :: ((141 : Nat), tabObj ps2) :: (cs ++ own))) (hk : 2 ≤ k) (hk6 : k < 6) (hd0 : 0 ≤ d) (ht0 : 0 ≤ t) : Hdn (wpAny (model PySem.Challenge.rw_pq0676_01.row.prog w) (callerA.deeper (envOfC (Str.ofString "law") lawScope L fa (.ref 143))) (execs (turnFrom 3) (envOfC (Str.ofString "law") lawScope L fa (.ref 143))) (TbPost h₀ L (LawJ (Str.ofString "rope") r Ds (L + 1 + 1 : Nat) (L + 1 : Nat) (134 : Nat) (141 : Nat) (Str.ofString "_law_answers.<locals>.answer") (Str.ofString "law.<locals>.<lambda>") ws (i + 1)) own s₁ Q) E { s₁ with heap := h, toks := tk0 }) := by
  refine segC (s := { s₁ with heap := h, toks := tk0 }) (m := m) (rest := (r, W.listOf #[.ref Ds, .int n tn] 0) :: (Ds, W.listOf ws.toArray 0) :: ((L + 1 + 1 : Nat), o1) :: ((L + 1 : Nat), w2) :: ((141 : Nat), tabObj ps2) :: (cs ++ own)) (ks := cs) (ow := own) (adr := [r, Ds, (L + 1 + 1 : Nat), (L + 1 : Nat), (134 : Nat), (141 : Nat)]) B F X T XB TB hm hk (News.less N (List.forall_mem_cons.mpr ⟨(.tail _ (.tail _ (.tail _ (.tail _ (.head _))))), List.forall_mem_cons.mpr ⟨(.head _), List.forall_mem_cons.mpr ⟨(.tail _ (.head _)), List.forall_mem_cons.mpr ⟨(.tail _ (.tail _ (.head _))), List.forall_mem_cons.mpr ⟨(.tail _ (.tail _ (.tail _ (.head _)))), List.forall_mem_cons.mpr ⟨(.tail _ (.tail _ (.tail _ (.tail _ (.tail _ (.head _)))))), (fun p hp => (.tail _ (.tail _ (.tail _ (.tail _ (.tail _ (.tail _ (hp))))))))⟩⟩⟩⟩⟩⟩)) (List.forall_mem_cons.mpr ⟨(Ne.symm z1.2.2.2.1), List.forall_mem_cons.mpr ⟨(Ne.symm z2.2.2.1), List.forall_mem_cons.mpr ⟨(Ne.symm z3.2.1), List.forall_mem_cons.mpr ⟨(Ne.symm z4.1), List.forall_mem_cons.mpr ⟨z5.1, (fun p hp => (List.mem_append.mp hp).elim (fun hp => (hO p hp _ (.tail _ (.tail _ (.tail _ (.tail _ (.head _))))))) (fun hp => (hO2 p hp _ (.tail _ (.tail _ (.tail _ (.tail _ (.head _))))))))⟩⟩⟩⟩⟩) hC1 (fun p hp => (.tail _ (.tail _ (.tail _ (.tail _ (.tail _ (inL hp))))))) hT (fun p hp => (.tail _ (.tail _ (.tail _ (.tail _ (.tail _ (inR hp))))))) hO (List.forall_mem_cons.mpr ⟨⟨_, (.tail _ (.head _))⟩, List.forall_mem_cons.mpr ⟨⟨_, (.tail _ (.tail _ (.head _)))⟩, List.forall_mem_cons.mpr ⟨⟨_, (.tail _ (.tail _ (.tail _ (.head _))))⟩, List.forall_mem_cons.mpr ⟨⟨_, (.tail _ (.tail _ (.tail _ (.tail _ (.head _)))))⟩, List.forall_mem_cons.mpr ⟨⟨_, (.head _)⟩, List.forall_mem_cons.mpr ⟨⟨_, (.tail _ (.tail _ (.tail _ (.tail _ (.tail _ (.head _))))))⟩, List.forall_mem_nil _⟩⟩⟩⟩⟩⟩) C2 fun lt fA cA cT tup ocA oT docA pmA ctvA vsA tqA tt' tm mo' ps1' h' tk' m' F' N' hm' hmo hcvA hcqA hoT hC1' hT1' hO1' l1 l2 l3 l4 => ?_
  clear F N hm
  have hOl : OwnOff cs (lt :: [r, Ds, (L + 1 + 1 : Nat), (L + 1 : Nat), (134 : Nat), (141 : Nat)]) := fun p hp => hO1' p (.tail _ hp)
  refine segD (s := { s₁ with heap := h', toks := tk' }) (m := m') (rest := (lt, W.listOf #[.int t tt'] 0) :: (tup, ({ cls := .type "tuple", data := .seq #[.ref fA, .int mo' tm] } : Obj)) :: (fA, fnMade (Str.ofString "answer") (Str.ofString "_law_answers.<locals>.answer") ansArgs ansBody ansScope [((Str.ofString "times"), cT)] docA pmA cA ctvA) :: (cA, ocA) :: (cT, oT) :: (r, W.listOf #[.ref Ds, .int n tn] 0) :: (Ds, W.listOf ws.toArray 0) :: ((L + 1 + 1 : Nat), o1) :: ((L + 1 : Nat), w2) :: ((134 : Nat), tabObj ps1') :: (cs ++ own)) (ks := cs) (ow := own) (adr := (lt :: [r, Ds, (L + 1 + 1 : Nat), (L + 1 : Nat), (134 : Nat), (141 : Nat)])) B F' X T hm' (by omega) (News.less N' (List.forall_mem_cons.mpr ⟨(.tail _ (.tail _ (.tail _ (.tail _ (.tail _ (.tail _ (.tail _ (.tail _ (.tail _ (.tail _ (.head _))))))))))), List.forall_mem_cons.mpr ⟨(.tail _ (.tail _ (.tail _ (.tail _ (.tail _ (.head _)))))), List.forall_mem_cons.mpr ⟨(.head _), List.forall_mem_cons.mpr ⟨(.tail _ (.head _)), List.forall_mem_cons.mpr ⟨(.tail _ (.tail _ (.head _))), List.forall_mem_cons.mpr ⟨(.tail _ (.tail _ (.tail _ (.head _)))), List.forall_mem_cons.mpr ⟨(.tail _ (.tail _ (.tail _ (.tail _ (.tail _ (.tail _ (.head _))))))), List.forall_mem_cons.mpr ⟨(.tail _ (.tail _ (.tail _ (.tail _ (.tail _ (.tail _ (.tail _ (.head _)))))))), List.forall_mem_cons.mpr ⟨(.tail _ (.tail _ (.tail _ (.tail _ (.tail _ (.tail _ (.tail _ (.tail _ (.head _))))))))), List.forall_mem_cons.mpr ⟨(.tail _ (.tail _ (.tail _ (.tail _ (.tail _ (.tail _ (.tail _ (.tail _ (.tail _ (.head _)))))))))), List.forall_mem_cons.mpr ⟨(.tail _ (.tail _ (.tail _ (.tail _ (.head _))))), (fun p hp => (.tail _ (.tail _ (.tail _ (.tail _ (.tail _ (.tail _ (.tail _ (.tail _ (.tail _ (.tail _ (.tail _ (hp)))))))))))))⟩⟩⟩⟩⟩⟩⟩⟩⟩⟩⟩)) (List.forall_mem_cons.mpr ⟨(Nat.ne_of_gt (allLt_mem l1 (.tail _ (.tail _ (.tail _ (.tail _ (.tail _ (.head _)))))))), List.forall_mem_cons.mpr ⟨(Nat.ne_of_gt (allLt_mem l4 (.tail _ (.tail _ (.tail _ (.tail _ (.tail _ (.tail _ (.tail _ (.tail _ (.tail _ (.head _)))))))))))), List.forall_mem_cons.mpr ⟨(Nat.ne_of_gt (allLt_mem l3 (.tail _ (.tail _ (.tail _ (.tail _ (.tail _ (.tail _ (.tail _ (.head _)))))))))), List.forall_mem_cons.mpr ⟨(hO1' _ (.head _) _ (.tail _ (.tail _ (.tail _ (.tail _ (.tail _ (.tail _ (.head _)))))))), List.forall_mem_cons.mpr ⟨(Nat.ne_of_gt (allLt_mem l2 (.tail _ (.tail _ (.tail _ (.tail _ (.tail _ (.tail _ (.head _))))))))), List.forall_mem_cons.mpr ⟨(Ne.symm z1.2.2.2.2.1), List.forall_mem_cons.mpr ⟨(Ne.symm z2.2.2.2.1), List.forall_mem_cons.mpr ⟨(Ne.symm z3.2.2.1), List.forall_mem_cons.mpr ⟨(Ne.symm z4.2.1), List.forall_mem_cons.mpr ⟨(Ne.symm z5.1), (fun p hp => (List.mem_append.mp hp).elim (fun hp => (hO p hp _ (.tail _ (.tail _ (.tail _ (.tail _ (.tail _ (.head _)))))))) (fun hp => (hO2 p hp _ (.tail _ (.tail _ (.tail _ (.tail _ (.tail _ (.head _)))))))))⟩⟩⟩⟩⟩⟩⟩⟩⟩⟩) hC2 (fun p hp => (.tail _ (.tail _ (.tail _ (.tail _ (.tail _ (.tail _ (.tail _ (.tail _ (.tail _ (.tail _ (inL hp)))))))))))) hT (fun p hp => (.tail _ (.tail _ (.tail _ (.tail _ (.tail _ (.tail _ (.tail _ (.tail _ (.tail _ (.tail _ (inR hp)))))))))))) hOl (List.forall_mem_cons.mpr ⟨⟨_, (.tail _ (.head _))⟩, List.forall_mem_cons.mpr ⟨⟨_, (.tail _ (.tail _ (.tail _ (.tail _ (.tail _ (.tail _ (.head _)))))))⟩, List.forall_mem_cons.mpr ⟨⟨_, (.tail _ (.tail _ (.tail _ (.tail _ (.tail _ (.tail _ (.tail _ (.head _))))))))⟩, List.forall_mem_cons.mpr ⟨⟨_, (.tail _ (.tail _ (.tail _ (.tail _ (.tail _ (.tail _ (.tail _ (.tail _ (.head _)))))))))⟩, List.forall_mem_cons.mpr ⟨⟨_, (.tail _ (.tail _ (.tail _ (.tail _ (.tail _ (.tail _ (.tail _ (.tail _ (.tail _ (.head _))))))))))⟩, List.forall_mem_cons.mpr ⟨⟨_, (.tail _ (.tail _ (.tail _ (.tail _ (.tail _ (.tail _ (.tail _ (.tail _ (.tail _ (.tail _ (.head _)))))))))))⟩, List.forall_mem_cons.mpr ⟨⟨_, (.head _)⟩, List.forall_mem_nil _⟩⟩⟩⟩⟩⟩⟩) C1 fun x D lS lU lF f c' oc name qual pm ctv vs t1 t2 t3 t4 t5 t6 tc th tp t7 tq ps' h' tk' m' F' N' hm' hcv hcq hC' hT' hO' lf lc lD lx lu lv => ?_
  refine segF2 (s := { s₁ with heap := h', toks := tk' }) (m := m') (w2 := w2) (oc1 := oc) (f := f) (c1 := c') (o1 := o1) (v := v) (tup := tup) (fA := fA) (cA := cA) (cT := cT) (lt := lt) (x := x) (D := D) (ocA := ocA) (oT := oT) B F' X T XB TB hm' hmo hk6 hd0 ht0 hw2 (News.less N' (List.forall_mem_cons.mpr ⟨(.tail _ (.tail _ (.tail _ (.tail _ (.tail _ (.tail _ (.tail _ (.tail _ (.tail _ (.tail _ (.tail _ (.tail _ (.tail _ (.tail _ (.tail _ (.head _)))))))))))))))), List.forall_mem_cons.mpr ⟨(.tail _ (.head _)), List.forall_mem_cons.mpr ⟨(.tail _ (.tail _ (.tail _ (.tail _ (.tail _ (.tail _ (.tail _ (.head _)))))))), List.forall_mem_cons.mpr ⟨(.head _), List.forall_mem_cons.mpr ⟨(.tail _ (.tail _ (.head _))), List.forall_mem_cons.mpr ⟨(.tail _ (.tail _ (.tail _ (.head _)))), List.forall_mem_cons.mpr ⟨(.tail _ (.tail _ (.tail _ (.tail _ (.head _))))), List.forall_mem_cons.mpr ⟨(.tail _ (.tail _ (.tail _ (.tail _ (.tail _ (.head _)))))), List.forall_mem_cons.mpr ⟨(.tail _ (.tail _ (.tail _ (.tail _ (.tail _ (.tail _ (.head _))))))), List.forall_mem_cons.mpr ⟨(.tail _ (.tail _ (.tail _ (.tail _ (.tail _ (.tail _ (.tail _ (.tail _ (.head _))))))))), List.forall_mem_cons.mpr ⟨(.tail _ (.tail _ (.tail _ (.tail _ (.tail _ (.tail _ (.tail _ (.tail _ (.tail _ (.head _)))))))))), List.forall_mem_cons.mpr ⟨(.tail _ (.tail _ (.tail _ (.tail _ (.tail _ (.tail _ (.tail _ (.tail _ (.tail _ (.tail _ (.head _))))))))))), List.forall_mem_cons.mpr ⟨(.tail _ (.tail _ (.tail _ (.tail _ (.tail _ (.tail _ (.tail _ (.tail _ (.tail _ (.tail _ (.tail _ (.head _)))))))))))), List.forall_mem_cons.mpr ⟨(.tail _ (.tail _ (.tail _ (.tail _ (.tail _ (.tail _ (.tail _ (.tail _ (.tail _ (.tail _ (.tail _ (.tail _ (.head _))))))))))))), List.forall_mem_cons.mpr ⟨(.tail _ (.tail _ (.tail _ (.tail _ (.tail _ (.tail _ (.tail _ (.tail _ (.tail _ (.tail _ (.tail _ (.tail _ (.tail _ (.head _)))))))))))))), List.forall_mem_cons.mpr ⟨(.tail _ (.tail _ (.tail _ (.tail _ (.tail _ (.tail _ (.tail _ (.tail _ (.tail _ (.tail _ (.tail _ (.tail _ (.tail _ (.tail _ (.head _))))))))))))))), List.forall_mem_cons.mpr ⟨(.tail _ (.tail _ (.tail _ (.tail _ (.tail _ (.tail _ (.tail _ (.tail _ (.tail _ (.tail _ (.tail _ (.tail _ (.tail _ (.tail _ (.tail _ (.tail _ (.head _))))))))))))))))), (fun p hp => (.tail _ (.tail _ (.tail _ (.tail _ (.tail _ (.tail _ (.tail _ (.tail _ (.tail _ (.tail _ (.tail _ (.tail _ (.tail _ (.tail _ (.tail _ (.tail _ (.tail _ (hp)))))))))))))))))))⟩⟩⟩⟩⟩⟩⟩⟩⟩⟩⟩⟩⟩⟩⟩⟩⟩))
    (gnNe_of (List.forall_mem_cons.mpr ⟨(Nat.ne_of_gt (allLt_mem lD (.tail _ (.tail _ (.tail _ (.tail _ (.tail _ (.tail _ (.tail _ (.tail _ (.tail _ (.tail _ (.tail _ (.head _)))))))))))))), List.forall_mem_cons.mpr ⟨(Nat.ne_of_gt (allLt_mem l1 (.tail _ (.tail _ (.tail _ (.tail _ (.head _))))))), List.forall_mem_cons.mpr ⟨(Nat.ne_of_gt (Nat.lt_trans (allLt_mem lD (.tail _ (.tail _ (.tail _ (.tail _ (.tail _ (.tail _ (.tail _ (.tail _ (.tail _ (.tail _ (.tail _ (.head _))))))))))))) lx)), List.forall_mem_cons.mpr ⟨(Nat.ne_of_gt (Nat.lt_trans (allLt_mem lD (.tail _ (.tail _ (.tail _ (.tail _ (.tail _ (.tail _ (.tail _ (.tail _ (.tail _ (.tail _ (.tail _ (.head _))))))))))))) lu)), List.forall_mem_cons.mpr ⟨(Nat.ne_of_gt (Nat.lt_trans (allLt_mem lD (.tail _ (.tail _ (.tail _ (.tail _ (.tail _ (.tail _ (.tail _ (.tail _ (.tail _ (.tail _ (.tail _ (.head _))))))))))))) lv)), List.forall_mem_cons.mpr ⟨(Nat.ne_of_gt (allLt_mem lf (.tail _ (.tail _ (.tail _ (.tail _ (.tail _ (.tail _ (.tail _ (.tail _ (.tail _ (.head _)))))))))))), List.forall_mem_cons.mpr ⟨(hO' _ (.head _) _ (.tail _ (.tail _ (.tail _ (.tail _ (.head _)))))), List.forall_mem_cons.mpr ⟨z4.2.1, List.forall_mem_cons.mpr ⟨(Nat.ne_of_gt (allLt_mem l4 (.tail _ (.tail _ (.tail _ (.tail _ (.tail _ (.tail _ (.tail _ (.tail _ (.head _))))))))))), List.forall_mem_cons.mpr ⟨(Nat.ne_of_gt (allLt_mem l3 (.tail _ (.tail _ (.tail _ (.tail _ (.tail _ (.tail _ (.head _))))))))), List.forall_mem_cons.mpr ⟨(hO1' _ (.head _) _ (.tail _ (.tail _ (.tail _ (.tail _ (.head _)))))), List.forall_mem_cons.mpr ⟨(Nat.ne_of_gt (allLt_mem l2 (.tail _ (.tail _ (.tail _ (.tail _ (.tail _ (.head _)))))))), List.forall_mem_cons.mpr ⟨(Ne.symm z1.2.2.1), List.forall_mem_cons.mpr ⟨(Ne.symm z2.2.1), List.forall_mem_cons.mpr ⟨(Ne.symm z3.1), List.forall_mem_cons.mpr ⟨z4.1, (fun p hp => (List.mem_append.mp hp).elim (fun hp => (hO p hp _ (.tail _ (.tail _ (.tail _ (.head _)))))) (fun hp => (hO2 p hp _ (.tail _ (.tail _ (.tail _ (.head _)))))))⟩⟩⟩⟩⟩⟩⟩⟩⟩⟩⟩⟩⟩⟩⟩⟩))
    (List.forall_mem_cons.mpr ⟨(Nat.ne_of_gt lx), List.forall_mem_cons.mpr ⟨(Nat.ne_of_gt lu), List.forall_mem_cons.mpr ⟨(Nat.ne_of_gt lv), List.forall_mem_cons.mpr ⟨(Nat.ne_of_lt (allLt_mem lD (.head _))), List.forall_mem_cons.mpr ⟨(Nat.ne_of_lt (allLt_mem lD (.tail _ (.head _)))), List.forall_mem_cons.mpr ⟨(Nat.ne_of_lt (allLt_mem lD (.tail _ (.tail _ (.head _))))), List.forall_mem_cons.mpr ⟨(Nat.ne_of_lt (allLt_mem lD (.tail _ (.tail _ (.tail _ (.tail _ (.head _))))))), List.forall_mem_cons.mpr ⟨(Nat.ne_of_lt (allLt_mem lD (.tail _ (.tail _ (.tail _ (.tail _ (.tail _ (.head _)))))))), List.forall_mem_cons.mpr ⟨(Nat.ne_of_lt (allLt_mem lD (.tail _ (.tail _ (.tail _ (.tail _ (.tail _ (.tail _ (.head _))))))))), List.forall_mem_cons.mpr ⟨(Nat.ne_of_lt (allLt_mem lD (.tail _ (.tail _ (.tail _ (.tail _ (.tail _ (.tail _ (.tail _ (.head _)))))))))), List.forall_mem_cons.mpr ⟨(Nat.ne_of_lt (allLt_mem lD (.tail _ (.tail _ (.tail _ (.tail _ (.tail _ (.tail _ (.tail _ (.tail _ (.head _))))))))))), List.forall_mem_cons.mpr ⟨(Nat.ne_of_lt (allLt_mem lD (.tail _ (.tail _ (.tail _ (.tail _ (.tail _ (.tail _ (.tail _ (.tail _ (.tail _ (.head _)))))))))))), List.forall_mem_cons.mpr ⟨(Nat.ne_of_lt (allLt_mem lD (.tail _ (.tail _ (.tail _ (.tail _ (.tail _ (.tail _ (.tail _ (.tail _ (.tail _ (.tail _ (.head _))))))))))))), List.forall_mem_cons.mpr ⟨(Nat.ne_of_lt (allLt_mem lD (.tail _ (.tail _ (.tail _ (.tail _ (.tail _ (.tail _ (.tail _ (.tail _ (.tail _ (.tail _ (.tail _ (.tail _ (.head _))))))))))))))), (fun p hp => (List.mem_append.mp hp).elim (fun hp => (ltTl lD (fun p hp => (.tail _ (.tail _ (.tail _ (.tail _ (.tail _ (.tail _ (.tail _ (.tail _ (.tail _ (.tail _ (.tail _ (.tail _ (.tail _ (inL hp))))))))))))))) p hp)) (fun hp => (ltTl lD (fun p hp => (.tail _ (.tail _ (.tail _ (.tail _ (.tail _ (.tail _ (.tail _ (.tail _ (.tail _ (.tail _ (.tail _ (.tail _ (.tail _ (inR hp))))))))))))))) p hp)))⟩⟩⟩⟩⟩⟩⟩⟩⟩⟩⟩⟩⟩⟩)
    (List.forall_mem_cons.mpr ⟨(Nat.ne_of_gt (Nat.lt_trans (allLt_mem lD (.tail _ (.tail _ (.tail _ (.head _))))) lx)), List.forall_mem_cons.mpr ⟨(Nat.ne_of_gt (Nat.lt_trans (allLt_mem lD (.tail _ (.tail _ (.tail _ (.head _))))) lu)), List.forall_mem_cons.mpr ⟨(Nat.ne_of_gt (Nat.lt_trans (allLt_mem lD (.tail _ (.tail _ (.tail _ (.head _))))) lv)), List.forall_mem_cons.mpr ⟨(Nat.ne_of_gt (allLt_mem lf (.tail _ (.head _)))), List.forall_mem_cons.mpr ⟨(hO' _ (.head _) _ (.head _)), List.forall_mem_cons.mpr ⟨(Nat.ne_of_lt (allLt_mem l1 (.tail _ (.tail _ (.tail _ (.tail _ (.tail _ (.head _)))))))), List.forall_mem_cons.mpr ⟨(Nat.ne_of_gt (allLt_mem l4 (.tail _ (.tail _ (.tail _ (.tail _ (.head _))))))), List.forall_mem_cons.mpr ⟨(Nat.ne_of_gt (allLt_mem l3 (.tail _ (.tail _ (.head _))))), List.forall_mem_cons.mpr ⟨(hO1' _ (.head _) _ (.head _)), List.forall_mem_cons.mpr ⟨(Nat.ne_of_gt (allLt_mem l2 (.tail _ (.head _)))), List.forall_mem_cons.mpr ⟨(Nat.ne_of_lt (allLt_mem l1 (.tail _ (.head _)))), List.forall_mem_cons.mpr ⟨(Nat.ne_of_lt (allLt_mem l1 (.tail _ (.tail _ (.head _))))), List.forall_mem_cons.mpr ⟨(Nat.ne_of_lt (allLt_mem l1 (.tail _ (.tail _ (.tail _ (.head _)))))), List.forall_mem_cons.mpr ⟨(Nat.ne_of_lt (allLt_mem l1 (.head _))), (fun p hp => (List.mem_append.mp hp).elim (fun hp => (ltTl l1 (fun p hp => (.tail _ (.tail _ (.tail _ (.tail _ (.tail _ (.tail _ (inL hp)))))))) p hp)) (fun hp => (ltTl l1 (fun p hp => (.tail _ (.tail _ (.tail _ (.tail _ (.tail _ (.tail _ (inR hp)))))))) p hp)))⟩⟩⟩⟩⟩⟩⟩⟩⟩⟩⟩⟩⟩⟩)
    (Nat.ne_of_lt (allLt_mem lD (.tail _ (.tail _ (.tail _ (.head _)))))) (.tail _ (.tail _ (.tail _ (.tail _ (.tail _ (.tail _ (.head _))))))) (.tail _ (.tail _ (.tail _ (.tail _ (.tail _ (.tail _ (.tail _ (.head _)))))))) (.tail _ (.tail _ (.tail _ (.tail _ (.tail _ (.tail _ (.tail _ (.tail _ (.tail _ (.head _)))))))))) hoT (.head _) (.tail _ (.tail _ (.tail _ (.head _)))) (.tail _ (.tail _ (.tail _ (.tail _ (.head _))))) (.tail _ (.tail _ (.tail _ (.tail _ (.tail _ (.tail _ (.tail _ (.tail _ (.tail _ (.tail _ (.tail _ (.tail _ (.head _))))))))))))) (.tail _ (.tail _ (.tail _ (.tail _ (.tail _ (.tail _ (.tail _ (.tail _ (.head _))))))))) hcv hcq hcvA hcqA hd1 hh C1 C2 fun b b' e D1 lt2 te u1 u2 u3 tv o2 cc' hc' tcc' thc' t1 t2 t3 t4 t5 t6 ttop h' tk' m' F' N' hm' hb ho2 he lD1 => ?_
  subst hb
  exact turn8 (ks1 := (cA, ocA) :: cs) (ks2 := (c', oc) :: cs) (own := own) (ps1 := ps1') (ps2 := ps') (o1 := o1) (o2 := o2) (v0 := v) (b := b) (D := D) B F' X XB T TB C1 hm' (by omega) (News.less N' (List.forall_mem_cons.mpr ⟨(.tail _ (.tail _ (.head _))), List.forall_mem_cons.mpr ⟨(.tail _ (.tail _ (.tail _ (.tail _ (.tail _ (.tail _ (.tail _ (.tail _ (.tail _ (.head _)))))))))), List.forall_mem_cons.mpr ⟨(.tail _ (.tail _ (.tail _ (.tail _ (.head _))))), List.forall_mem_cons.mpr ⟨(.tail _ (.tail _ (.tail _ (.tail _ (.tail _ (.head _)))))), List.forall_mem_cons.mpr ⟨(.tail _ (.tail _ (.tail _ (.tail _ (.tail _ (.tail _ (.head _))))))), List.forall_mem_cons.mpr ⟨(.tail _ (.tail _ (.tail _ (.head _)))), List.forall_mem_cons.mpr ⟨(.tail _ (.tail _ (.tail _ (.tail _ (.tail _ (.tail _ (.tail _ (.tail _ (.tail _ (.tail _ (.tail _ (.tail _ (.tail _ (.tail _ (.tail _ (.tail _ (.head _))))))))))))))))), List.forall_mem_cons.mpr ⟨(.head _), List.forall_mem_cons.mpr ⟨(.tail _ (.head _)), List.forall_mem_cons.mpr ⟨(.tail _ (.tail _ (.tail _ (.tail _ (.tail _ (.tail _ (.tail _ (.tail _ (.tail _ (.tail _ (.tail _ (.tail _ (.tail _ (.tail _ (.head _))))))))))))))), List.forall_mem_cons.mpr ⟨(.tail _ (.tail _ (.tail _ (.tail _ (.tail _ (.tail _ (.tail _ (.tail _ (.tail _ (.tail _ (.tail _ (.tail _ (.tail _ (.tail _ (.tail _ (.head _)))))))))))))))), List.forall_mem_cons.mpr ⟨(.tail _ (.tail _ (.tail _ (.tail _ (.tail _ (.tail _ (.tail _ (.tail _ (.tail _ (.tail _ (.tail _ (.tail _ (.tail _ (.tail _ (.tail _ (.tail _ (.tail _ (.head _)))))))))))))))))), (fun p hp => (List.mem_append.mp hp).elim (fun hp => (List.mem_cons.mp hp).elim (fun e => e ▸ (.tail _ (.tail _ (.tail _ (.tail _ (.tail _ (.tail _ (.tail _ (.tail _ (.tail _ (.tail _ (.tail _ (.tail _ (.head _)))))))))))))) (fun hp => (.tail _ (.tail _ (.tail _ (.tail _ (.tail _ (.tail _ (.tail _ (.tail _ (.tail _ (.tail _ (.tail _ (.tail _ (.tail _ (.tail _ (.tail _ (.tail _ (.tail _ (.tail _ (inL hp))))))))))))))))))))) (fun hp => (List.mem_append.mp hp).elim (fun hp => (List.mem_cons.mp hp).elim (fun e => e ▸ (.tail _ (.tail _ (.tail _ (.tail _ (.tail _ (.tail _ (.tail _ (.tail _ (.head _)))))))))) (fun hp => (.tail _ (.tail _ (.tail _ (.tail _ (.tail _ (.tail _ (.tail _ (.tail _ (.tail _ (.tail _ (.tail _ (.tail _ (.tail _ (.tail _ (.tail _ (.tail _ (.tail _ (.tail _ (inL hp))))))))))))))))))))) (fun hp => (.tail _ (.tail _ (.tail _ (.tail _ (.tail _ (.tail _ (.tail _ (.tail _ (.tail _ (.tail _ (.tail _ (.tail _ (.tail _ (.tail _ (.tail _ (.tail _ (.tail _ (.tail _ (inR hp))))))))))))))))))))))⟩⟩⟩⟩⟩⟩⟩⟩⟩⟩⟩⟩))
    (List.forall_mem_cons.mpr ⟨(Nat.ne_of_gt lx), List.forall_mem_cons.mpr ⟨(Nat.ne_of_gt lu), List.forall_mem_cons.mpr ⟨(Nat.ne_of_gt lv), List.forall_mem_cons.mpr ⟨(Nat.ne_of_lt (allLt_mem lD (.tail _ (.tail _ (.tail _ (.tail _ (.tail _ (.tail _ (.tail _ (.tail _ (.tail _ (.tail _ (.tail _ (.head _)))))))))))))), List.forall_mem_cons.mpr ⟨(Nat.ne_of_lt (allLt_mem lD (.tail _ (.tail _ (.tail _ (.tail _ (.tail _ (.tail _ (.tail _ (.tail _ (.tail _ (.tail _ (.head _))))))))))))), List.forall_mem_cons.mpr ⟨(Ne.symm (allNe_mem he (.head _))), List.forall_mem_cons.mpr ⟨(Nat.ne_of_gt (allLt_mem lD1 (.head _))), List.forall_mem_cons.mpr ⟨(Nat.ne_of_lt (allLt_mem lD (.tail _ (.tail _ (.tail _ (.tail _ (.tail _ (.tail _ (.tail _ (.tail _ (.head _))))))))))), List.forall_mem_cons.mpr ⟨(Nat.ne_of_lt (allLt_mem lD (.tail _ (.tail _ (.tail _ (.tail _ (.tail _ (.tail _ (.tail _ (.tail _ (.tail _ (.head _)))))))))))), List.forall_mem_cons.mpr ⟨(Nat.ne_of_lt (allLt_mem lD (.tail _ (.tail _ (.tail _ (.tail _ (.tail _ (.tail _ (.tail _ (.tail _ (.tail _ (.tail _ (.tail _ (.tail _ (.head _))))))))))))))), (fun p hp => (List.mem_append.mp hp).elim (fun hp => (List.mem_cons.mp hp).elim (fun e => e ▸ (Nat.ne_of_lt (allLt_mem lD (.tail _ (.tail _ (.tail _ (.tail _ (.tail _ (.tail _ (.head _)))))))))) (fun hp => (ltTl lD (fun p hp => (.tail _ (.tail _ (.tail _ (.tail _ (.tail _ (.tail _ (.tail _ (.tail _ (.tail _ (.tail _ (.tail _ (.tail _ (.tail _ (inL hp))))))))))))))) p hp))) (fun hp => (List.mem_append.mp hp).elim (fun hp => (List.mem_cons.mp hp).elim (fun e => e ▸ (Nat.ne_of_lt (allLt_mem lD (.tail _ (.head _))))) (fun hp => (ltTl lD (fun p hp => (.tail _ (.tail _ (.tail _ (.tail _ (.tail _ (.tail _ (.tail _ (.tail _ (.tail _ (.tail _ (.tail _ (.tail _ (.tail _ (inL hp))))))))))))))) p hp))) (fun hp => (ltTl lD (fun p hp => (.tail _ (.tail _ (.tail _ (.tail _ (.tail _ (.tail _ (.tail _ (.tail _ (.tail _ (.tail _ (.tail _ (.tail _ (.tail _ (inR hp))))))))))))))) p hp))))⟩⟩⟩⟩⟩⟩⟩⟩⟩⟩)
    (List.forall_mem_cons.mpr ⟨(Nat.ne_of_gt (Nat.lt_trans (allLt_mem lD (.tail _ (.tail _ (.head _)))) lx)), List.forall_mem_cons.mpr ⟨(Nat.ne_of_gt (Nat.lt_trans (allLt_mem lD (.tail _ (.tail _ (.head _)))) lu)), List.forall_mem_cons.mpr ⟨(Nat.ne_of_gt (Nat.lt_trans (allLt_mem lD (.tail _ (.tail _ (.head _)))) lv)), List.forall_mem_cons.mpr ⟨(Ne.symm z4.2.1), List.forall_mem_cons.mpr ⟨(Ne.symm z3.2.2.1), List.forall_mem_cons.mpr ⟨(Ne.symm (allNe_mem he (.tail _ (.tail _ (.tail _ (.tail _ (.tail _ (.tail _ (.tail _ (.head _)))))))))), List.forall_mem_cons.mpr ⟨(Nat.ne_of_gt (allLt_mem lD1 (.tail _ (.tail _ (.tail _ (.tail _ (.tail _ (.tail _ (.tail _ (.head _)))))))))), List.forall_mem_cons.mpr ⟨(Ne.symm z1.2.2.2.2.1), List.forall_mem_cons.mpr ⟨(Ne.symm z2.2.2.2.1), List.forall_mem_cons.mpr ⟨(Ne.symm z5.1), (fun p hp => (List.mem_append.mp hp).elim (fun hp => (List.mem_cons.mp hp).elim (fun e => e ▸ (hO1' _ (.head _) _ (.tail _ (.tail _ (.tail _ (.tail _ (.tail _ (.tail _ (.head _))))))))) (fun hp => (hO p hp _ (.tail _ (.tail _ (.tail _ (.tail _ (.tail _ (.head _))))))))) (fun hp => (List.mem_append.mp hp).elim (fun hp => (List.mem_cons.mp hp).elim (fun e => e ▸ (hO' _ (.head _) _ (.tail _ (.tail _ (.tail _ (.tail _ (.tail _ (.tail _ (.head _))))))))) (fun hp => (hO p hp _ (.tail _ (.tail _ (.tail _ (.tail _ (.tail _ (.head _))))))))) (fun hp => (hO2 p hp _ (.tail _ (.tail _ (.tail _ (.tail _ (.tail _ (.head _))))))))))⟩⟩⟩⟩⟩⟩⟩⟩⟩⟩)
    (Nat.ne_of_gt (allLt_mem lD (.tail _ (.tail _ (.head _))))) hd1 ho2 hh hS (by cases b; exact .inr (.inr ⟨rfl, hk, _, rfl⟩); exact .inl ⟨rfl, _, rfl⟩) ⟨hC1', hC', fun p hp q hq => hO1' p hp q (.tail _ hq), fun p hp q hq => hO' p hp q (.tail _ hq), hO2, hT1', hT'⟩ hn0 hn1
end
theorem turn_ok {w : World} {base h₀ : Heap} {L fa r D : Addr} {mg mb : Str → Option Value} {s : Shared} {p : Program} {loose : List Str} {mean : ExcName → Option Value}
    {ws : List Value} {ns : List Int} {Q : Flow → Shared → Prop} {E : Value → Shared → Prop}
    (B : Below callerA base [] h₀) (X : (hd.heap_39 w.params).In h₀) (XB : (hd.heap_39 w.params).In base) (T : Top p loose mean mg mb h₀) (TB : Top p loose mean mg mb base) (C1 : CodeHd base 143 141) (C2 : CodeHd base 138 134)
    (hI : IntsAre ws ns) (hl : ns.length ≤ 63) (z1 : GnNe r ((D, instObj 0 0) :: ((L + 1 + 1 : Nat), instObj 0 0) :: ((L + 1 : Nat), instObj 0 0) :: ((134 : Nat), instObj 0 0) :: ((141 : Nat), instObj 0 0) :: []))
    (z2 : GnNe D (((L + 1 + 1 : Nat), instObj 0 0) :: ((L + 1 : Nat), instObj 0 0) :: ((134 : Nat), instObj 0 0) :: ((141 : Nat), instObj 0 0) :: []))
    (z3 : GnNe (L + 1 + 1 : Nat) (((L + 1 : Nat), instObj 0 0) :: ((134 : Nat), instObj 0 0) :: ((141 : Nat), instObj 0 0) :: []))
    (z4 : GnNe (L + 1 : Nat) (((134 : Nat), instObj 0 0) :: ((141 : Nat), instObj 0 0) :: [])) (z5 : GnNe (134 : Nat) (((141 : Nat), instObj 0 0) :: []))
    (i : Nat) (kx : Int) (tx : Tok) (n : Int) (tn : Tok) (w1 : Obj) (b1 : Option Value) (w2 : Obj) (b2 : Option Value) (ps1 ps2 : Array Value) (cs : List (Addr × Obj)) (u : Str → Option Value) (h : Heap) (tk : Nat) (own : List (Addr × Obj))
    (hn0 : 0 ≤ n) (hn1 : n ≤ 1 + 4 * (i : Int)) (hi3 : i < 3) (hw1 : w1.data = .cell b1) (hw2 : w2.data = .cell b2) (hC1 : Codes cs ps1 (Str.ofString "_law_answers.<locals>.answer")) (hC2 : Codes cs ps2 (Str.ofString "law.<locals>.<lambda>"))
    (hO : OwnOff cs [r, D, (L + 1 + 1 : Nat), (L + 1 : Nat), (134 : Nat), (141 : Nat)]) (hO2 : OwnOff own [r, D, (L + 1 + 1 : Nat), (L + 1 : Nat), (134 : Nat), (141 : Nat)]) (hT : TbOff own cs)
    (F : Fr h₀ L h (fun y => if y = Str.ofString "turn" then some (.int kx tx) else if y = Str.ofString "rope" then some (.ref r) else u y))
    (N : News h₀ L h (ledJ r D (L + 1 + 1 : Nat) (L + 1 : Nat) (134 : Nat) (141 : Nat) ws n tn w1 w2 ps1 ps2 (cs ++ own))) :
    wpAny (model PySem.Challenge.rw_pq0676_01.row.prog w) (callerA.deeper (envOfC (Str.ofString "law") lawScope L fa (.ref 143))) (execs turnBody (envOfC (Str.ofString "law") lawScope L fa (.ref 143)))
      (TbPost h₀ L (LawJ (Str.ofString "rope") r D (L + 1 + 1 : Nat) (L + 1 : Nat) (134 : Nat) (141 : Nat) (Str.ofString "_law_answers.<locals>.answer") (Str.ofString "law.<locals>.<lambda>") ws (i + 1)) own { s with heap := h, toks := tk } Q) E { s with heap := h, toks := tk } := by
  rw [← turnFrom0]
  refine Hdn.out ?_
  refine segA (s := { s with heap := h, toks := tk }) (m := _) (ns := ns) (w1 := w1) (b1 := b1) (n := n) (tn := tn) (rest := ((L + 1 : Nat), w2) :: ((134 : Nat), tabObj ps1) :: ((141 : Nat), tabObj ps2) :: (cs ++ own)) B F X T hI hl hn0 (by omega) (List.forall_mem_cons.mpr ⟨rfl, List.forall_mem_nil _⟩) hw1 ⟨z1.1, z1.2.1, True.intro⟩ ⟨z2.1, True.intro⟩ ?_ N fun v o1 k d mo n' tk' td tmo tn' h' tk0 m' F' N' hm' hS hh ho1 hk0 hk6 hd0 hd4 hmo0 hmo7 hn' => ?_
  · refine List.forall_mem_cons.mpr ⟨(List.forall_mem_cons.mpr ⟨z1.2.2.1, List.forall_mem_cons.mpr ⟨z2.2.1, List.forall_mem_cons.mpr ⟨z3.1, List.forall_mem_nil _⟩⟩⟩), List.forall_mem_cons.mpr ⟨(List.forall_mem_cons.mpr ⟨z1.2.2.2.1, List.forall_mem_cons.mpr ⟨z2.2.2.1, List.forall_mem_cons.mpr ⟨z3.2.1, List.forall_mem_nil _⟩⟩⟩), List.forall_mem_cons.mpr ⟨(List.forall_mem_cons.mpr ⟨z1.2.2.2.2.1, List.forall_mem_cons.mpr ⟨z2.2.2.2.1, List.forall_mem_cons.mpr ⟨z3.2.2.1, List.forall_mem_nil _⟩⟩⟩), fun p hp b hb => ?_⟩⟩⟩
    · exact (List.mem_append.mp hp).elim (fun hp => hO p hp b (six3 hb)) (fun hp => hO2 p hp b (six3 hb))
  refine segB (s := { s with heap := h', toks := tk0 }) (m := m') B F' X T hm' hk0 hk6 hd0 hd4 N' fun t tt h' tk0 m' F' N' hm' ht0 => ?_
  have hc : k = 0 ∨ k = 1 ∨ 2 ≤ k := by omega
  have hn0' : 0 ≤ n' := by omega
  have hn1' : n' ≤ 1 + 4 * ((i + 1 : Nat) : Int) := by omega
  rcases hc with hc | hc | hc
  · exact turn0 (s₁ := { s with heap := h, toks := tk }) (r := r) (Ds := D) (v := v) B F' X XB T TB C1 C2 z1 z2 z3 z4 z5 hm' hn0' hn1' ho1 hw2 hh hS hC1 hC2 hO hO2 hT N' hc
  · exact turn1 (s₁ := { s with heap := h, toks := tk }) (r := r) (Ds := D) (v := v) B F' X XB T TB C1 C2 z1 z2 z3 z4 z5 hm' hn0' hn1' ho1 hw2 hh hS hC1 hC2 hO hO2 hT N' hc
  · exact turn2 (s₁ := { s with heap := h, toks := tk }) (r := r) (Ds := D) (v := v) B F' X XB T TB C1 C2 z1 z2 z3 z4 z5 hm' hn0' hn1' ho1 hw2 hh hS hC1 hC2 hO hO2 hT N' hc hk6 hd0 ht0


end
section
section
open PyProof.Rows.LCg
variable {prog : Program} {w : World} {A : Around} {E : Value → Shared → Prop} {s : Shared} {h₀ : Heap} {L : Addr} {m : Str → Option Value} {env : Env} {elt iter : Expr} {x y : Str} {px py pos spos : Pos} {scope : Scope} {cl : List (Str × Addr)} {Fin : Shared → List Value → List (Addr × Obj) → Prop}
/-- an iterator that a comprehension can go over, of whatever kind: how it walks, and what its turns do -/
inductive Goes (prog : Program) (w : World) (A : Around) (h₀ : Heap) (L : Addr) (m : Str → Option Value) (env : Env) (elt : Expr) (x : Str) (scope : Scope) (cl : List (Str × Addr)) (Fin : Shared → List Value → List (Addr × Obj) → Prop) (t : Shared) : Value → Prop
  | mk {I : Addr} {fp : List Addr} {n : Nat} {P : Nat → Value → Prop} {St : Nat → Heap → Prop} {S : List (Addr × Obj) → Prop} {news : List (Addr × Obj)}
      (turns : CompRest prog w A h₀ L m env elt x scope cl t S P (Fin t) n 0 [] news) (first : S news) (N : News h₀ L t.heap news) (F : Fr h₀ L t.heap m) (small : n ≤ sizeLine)
      (W : Walks prog w A I fp [I] n P St) (start : St 0 t.heap) (room : ∀ b ∈ fp, b < t.heap.objs.size) (own : L ≠ I) (new : h₀.get? I = none) (off : ∀ p ∈ news, p.1 ≠ I)
      (stands : ∀ i h, St i h → ∃ o, h.get? I = some o)
      (stays : ∀ i g g' o nw, St i g → g.get? I = some o → g'.get? I = some o → (∀ b o, h₀.get? b = some o → g'.get? b = some o) → News h₀ L g' nw → S nw → St i g') :
      Goes prog w A h₀ L m env elt x scope cl Fin t (.ref I)
/-- a tuple of the ledger goes -/
theorem goes_tup {ax : Addr} {its : Array Value} {k : Nat} {news : List (Addr × Obj)} (hh : A.handled = none) (F : Fr h₀ L s.heap m) (N : News h₀ L s.heap news)
    (hm : (ax, ({ cls := .type "tuple", data := .seq its k } : Obj)) ∈ news) (hz : its.size ≤ sizeLine)
    (h : ∀ g, CompRest prog w A h₀ L m env elt x scope cl { s with heap := g } (fun nw => (ax, ({ cls := .type "tuple", data := .seq its k } : Obj)) ∈ nw) (fun i v => its[i]? = some v) (Fin { s with heap := g }) its.size 0 [] news) :
    wpAny (model prog w) A (pyIter (.ref ax)) (fun it t => Goes prog w A h₀ L m env elt x scope cl Fin t it) E s := by
  have tup : ∀ {g : Heap} {nw : List (Addr × Obj)}, News h₀ L g nw → (ax, ({ cls := .type "tuple", data := .seq its k } : Obj)) ∈ nw → g.IsTuple ax its := fun M q => ⟨_, (M _ q).1, rfl, k, rfl⟩
  have lt : ax < s.heap.objs.size := Heap.lt_size (N _ hm).1
  have up : ∀ b o, s.heap.get? b = some o → (s.heap.push { cls := .type "tuple_iterator", data := .fields #[.ref ax, .int 0 0] }).get? b = some o := fun _ _ q => Heap.get?_push_of_some _ q
  have more : s.heap.objs.size < (s.heap.push { cls := .type "tuple_iterator", data := .fields #[.ref ax, .int 0 0] }).objs.size := by rw [Heap.size_push]; exact Nat.lt_succ_self _
  refine wpAny_pyIter_tuple (tup N hm) ?_
  exact .mk (h _) hm (N.grown up) (F.keeps up) hz (Walks.tuple hh s.heap.objs.size ax (Nat.ne_of_lt lt) its) ⟨⟨_, Heap.get?_push_size _ rfl, rfl, rfl⟩, tup (N.grown up) hm⟩
    (List.forall_mem_cons.mpr ⟨more, List.forall_mem_cons.mpr ⟨Nat.lt_trans lt more, List.forall_mem_nil _⟩⟩) (Nat.ne_of_lt F.ns.lt) (next_is_new F) (fun p hp => Nat.ne_of_lt (Heap.lt_size (N p hp).1))
    (fun i g st => st.1.imp fun _ q => q.1)
    (fun i g g' o nw st q q' _ M u => ⟨st.1.elim fun o' r => ⟨o', by rw [← r.1, q, q'], r.2⟩, tup M u⟩)
/-- y = [elt for x in iter], where the iterator goes -/
theorem comp_goes {Q : Flow → Shared → Prop} (here : Fr h₀ L s.heap m) (hLe : env.locals = L)
    (hsw : swapsWith (.ListComp elt [⟨.Name x px, iter, [], 0⟩] scope pos) (some (.Name y py)) spos.line env = pure true) (hclos : closureFor scope env = pure cl)
    (hsc : (∀ z ∈ scope.names, z.2 ≠ .cell) ∧ (∀ z ∈ scope.names, z.2 = .local → scope.names.lookup z.1 = some .local) ∧ scope.kind = .function ∧ scope.names.lookup x = some .local)
    (hy : env.kindOf y = some .local) (hp : (env.scope.kind == .class || (env.scope.kind == .module && env.locals != env.globals)) = false) (hs : ∀ v, foldedSetIterable iter env v = pure v)
    (h : wpAny (model prog w) A (eval iter env) (fun v s₁ => wpAny (model prog w) A (pyIter v) (fun it t => Goes prog w A h₀ L m env elt x scope cl (fun t => FinA h₀ L m t y Q) t it) E s₁) E s) :
    wpAny (model prog w) A (exec (.Assign [.Name y py] (.ListComp elt [⟨.Name x px, iter, [], 0⟩] scope pos) spos) env) Q E s := by
  obtain ⟨k1, k2, k3, k4⟩ := hsc
  rw [exec_Assign_Name_used _ _ _ _ hsw]
  refine wpAny_bind (wpAny_standAt (wpAny_bind (wpAny_bind (m := comprehension _ _ _ _ (newList []) false _ (some (assign (.Name y py) env))) ?_)))
  refine wpAny_mono (Q := fun _ s' => Q .next s') (wpAny_comprehension_free rfl hs hclos k3 k2 (wpAny_mono h (fun _ _ a => wpAny_mono a (fun it t g => ?_) fun _ _ b => b) fun _ _ b => b)) (fun _ _ b => wpAny_pure (wpAny_pure b)) fun _ _ b => b
  cases g with
  | mk turns first N F small W start room own new off stands stays =>
    refine block_U W small stands stays k1 k3 k4 start room F N own new off first turns fun D C g tk m' ys nw F' N' oD hC hC₀ _ hCL _ hCD oC fin => ?_
    refine wpAny_assign_Name (env := env) (wpAny_storeName_local hy (hLe ▸ F'.ns) (fun g' hn hb => ⟨m', hC.sameBut hb (hLe ▸ hCL), fun g'' hb' => fin D g'' _ ?_ (fun p hp => ?_) oD⟩) hp)
    · have F'' : Fr h₀ L g' (fun z => if z = y then some (.ref D) else m z) :=
        ⟨hLe ▸ hn, fun b o q => hb.extBut b o (fun z => by rw [z, hLe, Heap.get?_none_of_le F'.above] at q; cases q) (F'.keep b o q), F'.above⟩
      exact F''.change hb' hCL hC₀
    · have q : ∀ p ∈ (D, lst ys) :: nw, p.1 ≠ C := List.forall_mem_cons.mpr ⟨Ne.symm hCD, oC⟩
      exact ⟨hb'.extBut _ _ (q p hp) (hb.extBut _ _ (hLe ▸ (N' p hp).2.1) (N' p hp).1), (N' p hp).2⟩
end

end
section
local macro_rules | `(tactic| walk_at "mine pad 0") => `(tactic| fail)
local macro_rules | `(tactic| walk_at "mine memr") => `(tactic| first | with_reducible exact List.Mem.head _ | (with_reducible refine List.Mem.tail _ ?_; walk_at "mine memr"))
local macro_rules | `(tactic| k_memK) => `(tactic| walk_at "mine memr")
local macro_rules | `(tactic| k_lt $h) => `(tactic| (replace $h := allLt_of $h))
local macro_rules | `(tactic| k_ne) => `(tactic| (refine neN ?_; (try dsimp only); first | assumption | exact (Ne.symm (by assumption)) | exact Nat.ne_of_lt (by assumption) | exact Nat.ne_of_gt (by assumption) | exact allLt_ne (by assumption) (by k_memK) | exact (allLt_ne (by assumption) (by k_memK)).symm | exact allNe_mem (by assumption) (by k_memK) | exact (allNe_mem (by assumption) (by k_memK)).symm | exact allLt_ne2 (by assumption) (by assumption) (by k_memK) | exact (allLt_ne2 (by assumption) (by assumption) (by k_memK)).symm | exact allLt_ne1 (by assumption) (by k_memK) | exact (allLt_ne1 (by assumption) (by k_memK)).symm | exact neAll_mem (by assumption) (by k_memK) | exact (neAll_mem (by assumption) (by k_memK)).symm | exact offHead (by assumption) (by k_memK) | exact (offHead (by assumption) (by k_memK)).symm))
local macro_rules | `(tactic| walk_at "mine in") => `(tactic| (intro p9 h9; (repeat' (first | exact h9 | exact List.mem_append_left _ h9 | exact List.mem_append_right _ h9 | refine List.Mem.tail _ ?_)); done))
local macro_rules | `(tactic| k_all) => `(tactic| first | exact List.forall_mem_nil _ | (with_reducible refine List.forall_mem_cons.mpr ⟨?a, ?b⟩; (case a => k_ne); (case b => k_all)) | exact OwnOff.ne (by assumption) (by k_memK) | exact ltTl (by assumption) (by walk_at "mine in") | exact neTl (by assumption) (by walk_at "mine in") | exact ltTl2 (by assumption) (by assumption) (by walk_at "mine in"))
local macro_rules | `(tactic| walk_at "mine led") => `(tactic| first | (refine List.forall_mem_cons.mpr ⟨by k_memK, ?_⟩; walk_at "mine led") | exact List.forall_mem_nil _ | (refine List.forall_mem_append.mpr ⟨?y1, ?y2⟩; (case y1 => walk_at "mine led"); (case y2 => walk_at "mine led")) | walk_at "mine in")
local macro_rules | `(tactic| walk_at "mine lts") => `(tactic| first | assumption | exact ltSuf (by assumption) (by walk_at "mine in") | (refine allLt_cons (by assumption) (by k_memK) ?_; walk_at "mine lts"))
local macro_rules | `(tactic| walk_at "mine nes") => `(tactic| first | assumption | exact allNe_nil | exact neSuf (by assumption) (by walk_at "mine in") | exact ltSufNe (by assumption) (by walk_at "mine in") | (refine allNe_one (by k_ne) ?_; walk_at "mine nes"))
local macro_rules | `(tactic| walk_at "mine map") => `(tactic| first | exact List.forall_mem_nil _ | (refine List.forall_mem_cons.mpr ⟨rfl, ?_⟩; walk_at "mine map"))

local macro_rules | `(tactic| lcg_src) => `(tactic| (show (_, _) ∈ _; k_mem))
local macro_rules | `(tactic| walk_at "exec Assign cons ListComp") => `(tactic| (k_here; k_dflt (refine comp_goes (by k_asm) (by rfl) (by with_unfolding_all rfl) (by rfl) ⟨by decide, by decide, by rfl, by rfl⟩ (by rfl) (by rfl) (by intro v; rfl) ?_)))
local macro_rules | `(tactic| walk_at "pyIter ref") => `(tactic| (k_here; k_dflt (refine goes_tup (by rfl) (by k_asm) (by k_asm) (by k_mem) (by first | size_fits | exact Nat.le_of_ble_eq_true rfl) ?_; intro g'; lcg_lit)))
local macro_rules | `(tactic| walk_at "LeaveK") => `(tactic| (k_dflt (refine' leaveK_ ?vF ?vN ?_; (case vF => k_asm); (case vN => k_asm); k_whole); intro kF kN; (try dsimp only); (try k_unmd)))

set_option maxRecDepth 100000 in
set_option maxHeartbeats 4000000 in
theorem law_end {w : World} {base h₀ : Heap} {L fa : Addr} {m mg mb : Str → Option Value} {s : Shared} {p : Program} {loose : List Str} {mean : ExcName → Option Value}
    {o1 o2 : Obj} {Q : Flow → Shared → Prop} {E : Value → Shared → Prop}
    (B : Below callerA base [] h₀) (F : Fr h₀ L s.heap m) (X : (hd.heap_39 w.params).In h₀) (T : Top p loose mean mg mb h₀) (N : News h₀ L s.heap [((134 : Nat), o1), ((141 : Nat), o2)]) (z : @Ne Nat 134 141)
    (k : ∀ h' tk m', Fr h₀ L h' m' → News h₀ L h' [((134 : Nat), o1), ((141 : Nat), o2)] → Q (.ret (.bool true)) { s with heap := h', toks := tk }) :
    wpAny (model PySem.Challenge.rw_pq0676_01.row.prog w) (callerA.deeper (envOfC (Str.ofString "law") lawScope L fa (.ref 143))) (execs lawTail (envOfC (Str.ofString "law") lawScope L fa (.ref 143))) Q E s := by
  revert X
  k_fill
  intro X
  dsimp only [lawTail, lawScope, lawFn, PySem.Challenge.pw_pq0676_01, List.reverse, List.reverseAux] at ⊢
  w_strict (w_top off; k_steps)
  exact k _ _ _ (by assumption) (News.less (by assumption) (by walk_at "mine led"))

end
section
local macro_rules | `(tactic| walk_at "mine memr") => `(tactic| first | with_reducible exact List.Mem.head _ | (with_reducible refine List.Mem.tail _ ?_; walk_at "mine memr"))
local macro_rules | `(tactic| k_memK) => `(tactic| walk_at "mine memr")
local macro_rules | `(tactic| k_lt $h) => `(tactic| (replace $h := allLt_of $h))
local macro_rules | `(tactic| k_ne) => `(tactic| (refine neN ?_; (try dsimp only); first | assumption | exact (Ne.symm (by assumption)) | exact Nat.ne_of_lt (by assumption) | exact Nat.ne_of_gt (by assumption) | exact allLt_ne (by assumption) (by k_memK) | exact (allLt_ne (by assumption) (by k_memK)).symm | exact allNe_mem (by assumption) (by k_memK) | exact (allNe_mem (by assumption) (by k_memK)).symm | exact allLt_ne2 (by assumption) (by assumption) (by k_memK) | exact (allLt_ne2 (by assumption) (by assumption) (by k_memK)).symm | exact allLt_ne1 (by assumption) (by k_memK) | exact (allLt_ne1 (by assumption) (by k_memK)).symm | exact neAll_mem (by assumption) (by k_memK) | exact (neAll_mem (by assumption) (by k_memK)).symm | exact offHead (by assumption) (by k_memK) | exact (offHead (by assumption) (by k_memK)).symm))
local macro_rules | `(tactic| walk_at "mine in") => `(tactic| (intro p9 h9; (repeat' (first | exact h9 | exact List.mem_append_left _ h9 | exact List.mem_append_right _ h9 | refine List.Mem.tail _ ?_)); done))
local macro_rules | `(tactic| k_all) => `(tactic| first | exact List.forall_mem_nil _ | (with_reducible refine List.forall_mem_cons.mpr ⟨?a, ?b⟩; (case a => k_ne); (case b => k_all)) | exact OwnOff.ne (by assumption) (by k_memK) | exact ltTl (by assumption) (by walk_at "mine in") | exact neTl (by assumption) (by walk_at "mine in") | exact ltTl2 (by assumption) (by assumption) (by walk_at "mine in"))
local macro_rules | `(tactic| walk_at "mine led") => `(tactic| first | (refine List.forall_mem_cons.mpr ⟨by k_memK, ?_⟩; walk_at "mine led") | exact List.forall_mem_nil _ | (refine List.forall_mem_append.mpr ⟨?y1, ?y2⟩; (case y1 => walk_at "mine led"); (case y2 => walk_at "mine led")) | walk_at "mine in")
local macro_rules | `(tactic| walk_at "mine lts") => `(tactic| first | assumption | exact ltSuf (by assumption) (by walk_at "mine in") | (refine allLt_cons (by assumption) (by k_memK) ?_; walk_at "mine lts"))
local macro_rules | `(tactic| walk_at "mine nes") => `(tactic| first | assumption | exact allNe_nil | exact neSuf (by assumption) (by walk_at "mine in") | exact ltSufNe (by assumption) (by walk_at "mine in") | (refine allNe_one (by k_ne) ?_; walk_at "mine nes"))
local macro_rules | `(tactic| walk_at "mine map") => `(tactic| first | exact List.forall_mem_nil _ | (refine List.forall_mem_cons.mpr ⟨rfl, ?_⟩; walk_at "mine map"))

local macro_rules | `(tactic| walk_at "call ref") => `(tactic| (k_here; (with_reducible show wpAny _ _ (call (Value.ref 118) _) _ _ _); k_dflt (refine' next_ok ?xB ?xF ?xX ?xT ?xN ?xU ?xD ?xr ?xI ?xl ?x0 ?x1 ?x2 ?x3 ?_; (case xI => assumption); (case xB => k_asm); (case xF => k_asm); (case xX => k_asm); (case xT => k_asm); (case xN => k_asm); (case xU => k_updF); (case xD => k_memK); (case xr => k_ne); (case xl => omega); (case x0 => omega); (case x1 => omega); (case x2 => omega); (case x3 => omega); k_whole); intro k' t1' t2' tk' h' lo' hi' F' N'; (try dsimp only at N'); (try k_sweep)))
local macro_rules | `(tactic| walk_at "pyIter ref") => `(tactic| (k_here; (with_reducible show wpAny _ _ (pyIter (Value.ref _)) (fun it s₂ => LoopAtV _ _ _ _ _ _ _ _ _ it s₂) _ _); (rename Fr _ _ _ _ => lF'); (rename News _ _ _ _ => lN'); (rename IsRange _ _ _ _ _ _ _ _ => rgX); (with_unfolding_all refine' law_loopL (Str.ofString "rope") (Str.ofString "_law_answers.<locals>.answer") (Str.ofString "law.<locals>.<lambda>") rfl ?hh rgX ?b0 ?b1 lF' lN' ?d1 ?d2 ?n0 ?n1 ?hm ?hx ?_ ?_; (case hh => rfl); (case b0 => omega); (case b1 => omega); (case d1 => assumption); (case d2 => assumption); (case n0 => omega); (case n1 => omega); (case hm => rfl); (case hx => decide)); (all_goals (clear lF' lN' rgX)); (all_goals (have hMk' : KstMark := kstMark)); (intro i' k' t' n' t1' w1' b1' w2' b2' ps1' ps2' cs' u' h' tk' own' hn0' hn1' hi' hd1' hd2' hC1' hC2' hO1' hO2' hT' F' N'); (refine stp ?_); rotate_left; (intro n' t' w1' w2' ps1' ps2' cs' u' h' tk' hC1' hC2' hO1' F' N'); (dsimp only [ledJ] at N'); rotate_left))
local macro_rules | `(tactic| walk_at "execs cons") => `(tactic| (k_here; (with_reducible show wpAny _ _ (execs [_, _] (envOfC _ _ _ _ _)) _ _ _); k_dflt (refine' law_end ?oB ?oF ?oX ?oT ?oN ?oz ?_; (case oB => assumption); (case oF => k_asm); (case oX => assumption); (case oT => assumption); (case oN => exact News.less (by k_asm) (by walk_at "mine led")); (case oz => decide); k_whole); intro h' tk' m' F' N'; (try k_sweep)))

theorem zz3 {L : Nat} {o1 o2 p1 p2 p3 : Obj} (h : AllLt L [((134 : Nat), o1), ((141 : Nat), o2)]) : GnNe (L + 1 + 1 : Nat) (((L + 1 : Nat), p1) :: ((134 : Nat), p2) :: ((141 : Nat), p3) :: []) :=
  ⟨Nat.ne_of_lt (Nat.lt_succ_self _), Nat.ne_of_lt (Nat.lt_succ_of_lt (Nat.lt_succ_of_lt h.1)), Nat.ne_of_lt (Nat.lt_succ_of_lt (Nat.lt_succ_of_lt h.2.1)), True.intro⟩
theorem zz4 {L : Nat} {o1 o2 p2 p3 : Obj} (h : AllLt L [((134 : Nat), o1), ((141 : Nat), o2)]) : GnNe (L + 1 : Nat) (((134 : Nat), p2) :: ((141 : Nat), p3) :: []) :=
  ⟨Nat.ne_of_lt (Nat.lt_succ_of_lt h.1), Nat.ne_of_lt (Nat.lt_succ_of_lt h.2.1), True.intro⟩
theorem zz5 {p3 : Obj} : GnNe (134 : Nat) (((141 : Nat), p3) :: []) := ⟨show (141 : Nat) ≠ 134 by decide, True.intro⟩

set_option maxRecDepth 100000 in
set_option maxHeartbeats 8000000 in
set_option pp.deepTerms false in
set_option pp.deepTerms.threshold 4 in
theorem main_ok : PySem.Challenge.rw_pq0676_01.Holds := hd (by
  w_strict (w_top off; k_go0; (all_goals try k_fold); k_steps; (refine ups ?_); (refine' turn_ok ?jB ?jX ?jXB ?jT ?jTB ?jC1 ?jC2 ?jI ?jl ?j1 ?j2 ?j3 ?j4 ?j5 _ _ _ _ _ _ _ _ _ _ _ _ _ _ _ _ ?a1 ?a2 ?a3 ?a4 ?a5 ?a6 ?a7 ?a8 ?a9 ?aT ?aF ?aN); (case aF => assumption); (case aN => k_asm); (case jB => assumption); (case jX => assumption); (case jXB => assumption); (case jT => assumption); (case jTB => assumption); (case jC1 => assumption); (case jC2 => assumption); (case jI => assumption); (case jl => omega); (case j1 => walk_at "mine nes"); (case j2 => walk_at "mine nes"); (case j3 => exact zz3 (by assumption)); (case j4 => exact zz4 (by assumption)); (case j5 => exact zz5); (case a1 => assumption); (case a2 => assumption); (case a3 => assumption); (case a4 => assumption); (case a5 => assumption); (case a6 => assumption); (case a7 => assumption); (case a8 => assumption); (case a9 => assumption); (case aT => assumption)))

end
end Mine
theorem PySem.Challenge.cw_pq0676_01_holds : PySem.Challenge.rw_pq0676_01.Holds :=
  Mine.main_ok
