import PyProof.Rows.All
import Wide.All
import OpenK.AllK
import Wide.FinOn
import PySem.Challenge.RW_pq0001_01
set_option Elab.async false

local macro_rules | `(tactic| walk_at "s9") => `(tactic| first | with_reducible assumption | with_reducible exact List.mem_cons_self | (with_reducible refine List.mem_cons_of_mem _ ?_; walk_at "s9") | with_reducible exact trivial)
local macro_rules | `(tactic| walk_at "z9") => `(tactic| first | with_reducible exact trivial | with_reducible assumption | (simp_all; done))
section
open PySem PySem.W PyProof.Rows
set_option maxRecDepth 100000
set_option maxHeartbeats 8000000
namespace Mine
open_top hd for PySem.Challenge.rw_pq0001_01
end Mine

end
section
open PySem PySem.W PyProof.Rows PySem.Spec PySem.Calls
set_option maxRecDepth 100000
set_option maxHeartbeats 8000000
namespace Mine

/-- e is made of AdaRaise (class 51), D its dict; it bears a traceback whose mark is fl -/
def Tr (B h : Heap) (e D : Addr) (fl : Value) : Prop :=
  ∃ oe vs T oT ts, h.get? e = some oe ∧ oe.cls = .ref 51 ∧ oe.dict = some D ∧ oe.data = .fields vs ∧ vs[1]? = some (.ref T) ∧ B.get? T = none ∧ T ≠ e ∧ h.get? T = some oT ∧ oT.data = .fields ts ∧ ts[3]? = some fl
/-- e is on its way through the frames l; all of B stands as it stood -/
def Fly (B : Heap) (l : List Env) (e D : Addr) (fl : Value) (h : Heap) : Prop :=
  B.StaysIn h ∧ B.get? e = none ∧ h.FunFrames B l ∧ Tr B h e D fl

theorem dict_mapFields (f : Array Value → Array Value) (o : Obj) : (Obj.mapFields f o).dict = o.dict := by
  obtain ⟨c, d, dt, sl⟩ := o
  cases dt <;> rfl

section
variable {M : Model} {A : Around} {E : Value → Shared → Prop} {s : Shared} {B : Heap} {env : Env} {outer l : List Env} {L e D : Addr} {oe : Obj} {vs : Array Value} {fl head : Value} {Q : Unit → Shared → Prop}

theorem entry_new {hadNext : Bool} (hfr : A.frames = some (env :: outer)) (hl : s.heap.FunFrames B (env :: outer)) (hf : env.frame = some L)
    (he : s.heap.get? e = some oe) (hc : oe.cls = .ref 51) (hD : oe.dict = some D) (hd : oe.data = .fields vs) (hsz : 1 < vs.size) (hkb : B.StaysIn s.heap) (hen : B.get? e = none)
    (h : ∀ h', Fly B (env :: outer) e D (rawInt L) h' → s.heap.UpToSlots h' → Q () { s with heap := h' }) :
    wpAny M A (do let a ← frameOf env; let pl ← entryPlaceOf L hadNext; let b ← EntryCells.newEntry head a .none (rawInt L) .none pl; setField (.ref e) 1 b) Q E s := by
  have hne : e ∉ (env :: outer).filterMap (·.frame) := fun hm => by
    obtain ⟨_, o, ho, hn⟩ := hl.mem hm
    rw [he] at ho; cases ho; exact hn vs hd
  refine wpAny_bind (wpAny_frameOf_fun hfr hl hf fun h₁ hs => ?_)
  refine wpAny_bind (wpAny_entryPlaceOf fun pl hpl => ?_)
  unfold EntryCells.newEntry newFields
  refine wpAny_bind (wpAny_newObj_type ?_ (hpl.sizeOk5 _ _ _ _ _))
  have he₁ : h₁.get? e = some oe := (hs.2.1 e hne).trans he
  have hB₁ : B.StaysIn h₁ := fun b o hb => (hs.2.1 b fun hm => by rw [(hl.mem hm).1] at hb; cases hb).trans (hkb b o hb)
  generalize hTo : ({ cls := .type "traceback", dict := none, data := .fields ([head, .ref L, .none, rawInt L, .none] ++ (if pl.isEmpty then List.replicate 6 Value.none else pl)).toArray } : Obj) = oT
  have hTd : oT.data = .fields ([head, .ref L, .none, rawInt L, .none] ++ (if pl.isEmpty then List.replicate 6 Value.none else pl)).toArray := by rw [← hTo]
  have hTf : oT.isFreed = false := by rw [← hTo]; rfl
  have he₂ := Heap.get?_push_of_some (h := h₁) oT he₁
  refine wpAny_setField he₂ hd hsz (h _ ?_ ?_)
  · have hTe : h₁.objs.size ≠ e := Nat.ne_of_gt (Heap.lt_size he₁)
    have hd₃ := Obj.data_mapFields hd (·.setIfInBounds 1 (Value.ref h₁.objs.size))
    have he₃ := Heap.get?_update_self (Obj.mapFields (·.setIfInBounds 1 (Value.ref h₁.objs.size))) he₂ (Obj.isFreed_of_fields hd₃)
    have hT₃ := (Heap.get?_update_other (h₁.push oT) (Obj.mapFields (·.setIfInBounds 1 (Value.ref h₁.objs.size))) (Ne.symm hTe)).trans (Heap.get?_push_size h₁ hTf)
    refine ⟨fun b o hb => ?_, hen, ?_, _, _, h₁.objs.size, _, _, he₃, (Obj.cls_mapFields _ _).trans hc, (dict_mapFields _ _).trans hD, hd₃, by simp [hsz], hB₁.fresh, hTe, hT₃, hTd, by simp⟩
    · rw [Heap.get?_update_other _ _ (fun q => by rw [← q, hen] at hb; cases hb)]
      exact Heap.get?_push_of_some _ (hB₁ b o hb)
    · refine hl.of_keeps fun b o hb hn => ?_
      obtain ⟨sl, hq⟩ := hs.2.2 b o hb
      refine ⟨{ o with slots := sl }, ?_, rfl⟩
      rw [Heap.get?_update_other _ _ (fun q => by rw [← q, he] at hb; cases hb; exact hn vs hd)]
      exact Heap.get?_push_of_some _ hq
  · intro b o hb hn
    obtain ⟨sl, hq⟩ := hs.2.2 b o hb
    refine ⟨sl, ?_⟩
    rw [Heap.get?_update_other _ _ (fun q => by rw [← q, he] at hb; cases hb; exact hn vs hd)]
    exact Heap.get?_push_of_some _ hq

theorem note_first (hfr : A.frames = some (env :: outer)) (hl : s.heap.FunFrames B (env :: outer)) (hf : env.frame = some L)
    (he : s.heap.get? e = some oe) (hc : oe.cls = .ref 51) (hD : oe.dict = some D) (hd : oe.data = .fields vs) (h1 : vs[1]? = some .none) (hkb : B.StaysIn s.heap) (hen : B.get? e = none)
    (h : ∀ h', Fly B (env :: outer) e D (rawInt L) h' → s.heap.UpToSlots h' → Q () { s with heap := h' }) : wpAny M A (noteFrame (.ref e) env) Q E s := by
  unfold noteFrame
  simp only [hf]
  refine wpAny_bind (wpAny_field he hd h1 ?_)
  rw [if_neg (by decide)]
  exact entry_new hfr hl hf he hc hD hd (Array.getElem?_eq_some_iff.mp h1).1 hkb hen h

theorem note_next (hfr : A.frames = some (env :: outer)) (hf : env.frame = some L) (x : Fly B (env :: outer) e D .none s.heap)
    (h : ∀ h', Fly B (env :: outer) e D (rawInt L) h' → s.heap.UpToSlots h' → Q () { s with heap := h' }) : wpAny M A (noteFrame (.ref e) env) Q E s := by
  obtain ⟨hkb, hen, hl, oe, vs, T, oT, ts, he, hc, hD, hd, h1, hnT, hTe, hT, hdT, h3⟩ := x
  unfold noteFrame
  simp only [hf]
  refine wpAny_bind (wpAny_field he hd h1 ?_)
  rw [if_pos (show (Value.ref T != Value.none) = true from by simp)]
  refine wpAny_bind (wpAny_field hT hdT h3 ?_)
  rw [if_neg (show ¬ ((Value.none == rawInt L) = true) from by simp [rawInt])]
  refine wpAny_bind (wpAny_setField hT hdT (Array.getElem?_eq_some_iff.mp h3).1 ?_)
  have off : ∀ b, b ≠ T → (s.heap.update T (Obj.mapFields (·.setIfInBounds 3 Value.none))).get? b = s.heap.get? b := fun b hb => Heap.get?_update_other _ _ (Ne.symm hb)
  have noT : ∀ b o, s.heap.get? b = some o → (∀ vs, o.data ≠ .fields vs) → b ≠ T := fun b o hb hn q => by
    rw [q, hT] at hb; cases hb; exact hn ts hdT
  exact entry_new (s := { s with heap := _ }) hfr (hl.of_keeps fun b o hb hn => ⟨o, (off b (noT b o hb hn)).trans hb, rfl⟩) hf ((off e (Ne.symm hTe)).trans he) hc hD hd (Array.getElem?_eq_some_iff.mp h1).1
    (fun b o hb => (off b fun q => by rw [q, hnT] at hb; cases hb).trans (hkb b o hb)) hen
    fun h' x1 x2 => h h' x1 fun b o hb hn => x2 b o ((off b (noT b o hb hn)).trans hb) hn

theorem land (x : Fly B l e D fl s.heap) (h : ∀ h', Fly B l e D .none h' → s.heap.UpToSlots h' → Q () { s with heap := h' }) : wpAny M A (setFlight (.ref e) none) Q E s := by
  obtain ⟨hkb, hen, hl, oe, vs, T, oT, ts, he, hc, hD, hd, h1, hnT, hTe, hT, hdT, h3⟩ := x
  have hsz : 3 < ts.size := (Array.getElem?_eq_some_iff.mp h3).1
  have off : ∀ b, b ≠ T → (s.heap.update T (Obj.mapFields (·.setIfInBounds 3 ((none : Option Addr).elim Value.none fun f => rawInt f)))).get? b = s.heap.get? b :=
    fun b hb => Heap.get?_update_other _ _ (Ne.symm hb)
  have noT : ∀ b o, s.heap.get? b = some o → (∀ vs, o.data ≠ .fields vs) → b ≠ T := fun b o hb hn q => by
    rw [q, hT] at hb; cases hb; exact hn ts hdT
  unfold setFlight
  refine wpAny_bind (wpAny_field he hd h1 ?_)
  rw [if_pos (show (Value.ref T != Value.none) = true from by simp)]
  refine wpAny_setField hT hdT hsz (h _ ⟨fun b o hb => (off b fun q => by rw [q, hnT] at hb; cases hb).trans (hkb b o hb), hen,
    hl.of_keeps fun b o hb hn => ⟨o, (off b (noT b o hb hn)).trans hb, rfl⟩,
    oe, vs, T, _, _, (off e (Ne.symm hTe)).trans he, hc, hD, hd, h1, hnT, hTe, Heap.get?_update_self _ hT (Obj.isFreed_of_fields (Obj.data_mapFields hdT _)), Obj.data_mapFields hdT _, by simp [hsz]⟩
    fun b o hb hn => ⟨o.slots, (off b (noT b o hb hn)).trans hb⟩)

theorem Fly.less (x : Fly B (env :: outer) e D fl s.heap) : Fly B outer e D fl s.heap := ⟨x.1, x.2.1, x.2.2.1.2.2, x.2.2.2⟩

theorem leave_first (hfr : A.frames = some (env :: outer)) (hl : s.heap.FunFrames B (env :: outer)) (hf : env.frame = some L)
    (he : s.heap.get? e = some oe) (hc : oe.cls = .ref 51) (hD : oe.dict = some D) (hd : oe.data = .fields vs) (h1 : vs[1]? = some .none) (hkb : B.StaysIn s.heap) (hen : B.get? e = none)
    (h : ∀ h', Fly B outer e D .none h' → s.heap.UpToSlots h' → Q () { s with heap := h' }) : wpAny M A (leaving env (.ref e)) Q E s := by
  unfold leaving
  refine wpAny_bind (note_first hfr hl hf he hc hD hd h1 hkb hen fun h₁ x1 u1 => ?_)
  exact land (s := { s with heap := h₁ }) x1 fun h₂ x2 u2 => h h₂ ⟨x2.1, x2.2.1, x2.2.2.1.2.2, x2.2.2.2⟩ (u1.trans u2)

theorem leave_next (hfr : A.frames = some (env :: outer)) (hf : env.frame = some L) (x : Fly B (env :: outer) e D .none s.heap)
    (h : ∀ h', Fly B outer e D .none h' → s.heap.UpToSlots h' → Q () { s with heap := h' }) : wpAny M A (leaving env (.ref e)) Q E s := by
  unfold leaving
  refine wpAny_bind (note_next hfr hf x fun h₁ x1 u1 => ?_)
  exact land (s := { s with heap := h₁ }) x1 fun h₂ x2 u2 => h h₂ ⟨x2.1, x2.2.1, x2.2.2.1.2.2, x2.2.2.2⟩ (u1.trans u2)
end
end Mine

end
section
open PySem PySem.W PyProof.Rows PySem.Spec PySem.Calls
set_option maxRecDepth 100000
set_option maxHeartbeats 2000000
namespace Mine

/-- the exception e, whose word is W, is on its way through the frames l; the ledger stands -/
def Thrown (base : Heap) (l : List Env) (news : List (Addr × Obj)) (W : Str) (e : Addr) (h : Heap) : Prop :=
  ∃ B D es n tk, base.StaysIn B ∧ (∀ q ∈ news, B.get? q.1 = some q.2 ∧ base.get? q.1 = none) ∧ Fly B l e D .none h ∧ B.get? D = some (dictOf es n) ∧ base.get? D = none ∧ getL "word" es = some (some (.str W tk))

theorem Thrown.less {base : Heap} {l : List Env} {news news' : List (Addr × Obj)} {W : Str} {e : Addr} {h : Heap} (x : Thrown base l news W e h) (hs : ∀ p ∈ news', p ∈ news) : Thrown base l news' W e h :=
  let ⟨B, D, es, n, tk, a, b, c⟩ := x; ⟨B, D, es, n, tk, a, fun q hq => b q (hs q hq), c⟩

/-- what a call of the def at f does: it ends by Post (value, ledger), or raises an AdaRaise whose word is W, EPost W -/
def Does (w : World) (f : Addr) (k : Nat) (vs : List Value) (news : List (Addr × Obj)) (Post : Value → List (Addr × Obj) → Prop) (EPost : Str → Prop) : Prop :=
  ∀ (loose : List Str) (mean : ExcName → Option Value) (mg mb : Str → Option Value) (dp un : Nat) (gd : Option (List Code)) (cn : Str) (cs : Scope) (a : Addr) (ccd : Value) (cl : List (Str × Addr)) (outer : List Env) (A₀ : Around) (base h₀ : Heap) (L : Addr) (m : Str → Option Value) (s : Shared) (Q E : Value → Shared → Prop),
    Below A₀ base outer h₀ → Fr h₀ L s.heap m → (hd.heap_39 w.params).In h₀ → News h₀ L s.heap news → Top hd.view_39 loose mean mg mb h₀ → cs.kind = .function → dp + k < recursionLimit → un + 8 * k < cLine →
    (∀ r news' h' tk', Fr h₀ L h' m → News h₀ L h' news' → Post r news' → Q r { s with heap := h', toks := tk' }) →
    (∀ e W h' tk', Thrown base (envX cn cs L a ccd cl :: outer) news W e h' → h'.Ns L m → h₀.UpToSlots h' → EPost W → E (.ref e) { s with heap := h', toks := tk' }) →
    wpAny (model PySem.Challenge.rw_pq0001_01.row.prog w) (ktrTop dp un gd cn cs L a ccd cl outer) (call (.ref f) vs) Q E s

theorem Does.use {w : World} {f : Addr} {k : Nat} {vs : List Value} {news : List (Addr × Obj)} {Post : Value → List (Addr × Obj) → Prop} {EPost : Str → Prop}
    {loose : List Str} {mean : ExcName → Option Value} {mg mb : Str → Option Value} {dp un : Nat} {gd : Option (List Code)} {cn : Str} {cs : Scope} {a : Addr} {ccd : Value} {cl : List (Str × Addr)} {outer : List Env} {A₀ : Around} {base h₀ : Heap} {L : Addr} {m : Str → Option Value} {s : Shared} {Q E : Value → Shared → Prop}
    (C : Does w f k vs news Post EPost) (B : Below A₀ base outer h₀) (F : Fr h₀ L s.heap m) (X : (hd.heap_39 w.params).In h₀) (N : News h₀ L s.heap news) (T : Top hd.view_39 loose mean mg mb h₀) (hk : cs.kind = .function) (hd : dp + k < recursionLimit) (hu : un + 8 * k < cLine)
    (ret : ∀ r news' h' tk', Fr h₀ L h' m → News h₀ L h' news' → Post r news' → Q r { s with heap := h', toks := tk' })
    (exc : ∀ e W h' tk', Thrown base (envX cn cs L a ccd cl :: outer) news W e h' → h'.Ns L m → h₀.UpToSlots h' → EPost W → E (.ref e) { s with heap := h', toks := tk' }) :
    wpAny (model PySem.Challenge.rw_pq0001_01.row.prog w) (ktrTop dp un gd cn cs L a ccd cl outer) (call (.ref f) vs) Q E s := C _ _ _ _ _ _ _ _ _ _ _ _ _ _ _ _ _ _ _ _ _ B F X N T hk hd hu ret exc

section
variable {w : World} {f : Addr} {k : Nat} {vs : List Value} {news : List (Addr × Obj)} {P P' : Value → List (Addr × Obj) → Prop} {EP EP' : Str → Prop}
theorem Does.mono (C : Does w f k vs news P EP) (hp : ∀ r n, P r n → P' r n) (he : ∀ W, EP W → EP' W) : Does w f k vs news P' EP' := by
  intro _ _ _ _ _ _ _ _ _ _ _ _ _ _ _ _ _ _ _ _ _ B F X N T hk hd hu ret exc
  exact Does.use C B F X N T hk hd hu (fun r n h' tk' F' N' p => ret r n h' tk' F' N' (hp r n p)) (fun e W h' tk' a1 a2 a3 p => exc e W h' tk' a1 a2 a3 (he W p))
theorem Does.up {k' : Nat} (C : Does w f k vs news P EP) (h : k ≤ k') : Does w f k' vs news P EP := by
  intro _ _ _ _ _ _ _ _ _ _ _ _ _ _ _ _ _ _ _ _ _ B F X N T hk hd hu ret exc
  exact Does.use C B F X N T hk (Nat.lt_of_le_of_lt (Nat.add_le_add_left h _) hd) (Nat.lt_of_le_of_lt (Nat.add_le_add_left (Nat.mul_le_mul_left 8 h) _) hu) ret exc
end
section
variable {M : Model} {A : Around} {E : Value → Shared → Prop} {s' : Shared} {base g h : Heap} {outer : List Env} {L a e : Addr} {m : Str → Option Value} {name : Str} {scope : Scope} {cd : Value} {Q : Unit → Shared → Prop} {news : List (Addr × Obj)} {W : Str}

/-- it leaves one more frame -/
theorem thrown_leave (K : Below A base outer g) (x : Thrown base (envOf name scope L a cd :: outer) news W e s'.heap) (u : g.UpToSlots s'.heap)
    (hQ : ∀ h', Thrown base outer news W e h' → g.UpToSlots h' → Q () { s' with heap := h' }) :
    wpAny M (A.deeper (envOf name scope L a cd)) (leaving (envOf name scope L a cd) (.ref e)) Q E s' := by
  obtain ⟨B, D, es, n, tk, hB, hl, hf, r⟩ := x
  exact leave_next (Around.frames_deeper K.stack) rfl hf fun h' x' u' => hQ h' ⟨B, D, es, n, tk, hB, hl, x', r⟩ (u.trans u')

/-- it leaves the frame that raised it -/
theorem thrown_first {D : Addr} {es : List DictEntry} {n : Nat} {tk : Tok} {vs : Array Value} {sl : Array (Option Value)} (K : Below A base outer g) (F : Fr g L s'.heap m) (N : News g L s'.heap news)
    (hD : (D, dictOf es n) ∈ news) (he : (e, (⟨.ref 51, some D, .fields vs, sl⟩ : Obj)) ∈ news) (h1 : vs[1]? = some .none) (hw : getL "word" es = some (some (.str W tk))) (news' : List (Addr × Obj)) (hs : ∀ p ∈ news', p ∈ news) (hne : ∀ p ∈ news', p.1 ≠ e)
    (hQ : ∀ h', Thrown base outer news' W e h' → g.UpToSlots h' → Q () { s' with heap := h' }) (hk : scope.kind = .function := by rfl) :
    wpAny M (A.deeper (envOf name scope L a cd)) (leaving (envOf name scope L a cd) (.ref e)) Q E s' := by
  have K' := K.push (name := name) (a := a) (cd := cd) F hk
  have hin : ∀ env ∈ (envOf name scope L a cd :: outer), ∀ b, env.frame = some b → b ∈ e :: (envOf name scope L a cd :: outer).filterMap (·.frame) := fun env he b hb => List.mem_cons_of_mem _ (List.mem_filterMap.mpr ⟨env, he, hb⟩)
  have hge : ∀ q ∈ news, base.get? q.1 = none := fun q hq => fresh_of_stays K.stays (N q hq).2.2
  have st : base.StaysIn (hideAll s'.heap (e :: (envOf name scope L a cd :: outer).filterMap (·.frame))) := fun b o q => hideAll_get _ (K'.stays b o q) fun hm => by
    rcases List.mem_cons.mp hm with rfl | hm
    · rw [hge _ he] at q; cases q
    · rw [(K'.frames.mem hm).1] at q; cases q
  have keep : ∀ q ∈ news, q.1 ≠ e → (hideAll s'.heap (e :: (envOf name scope L a cd :: outer).filterMap (·.frame))).get? q.1 = some q.2 := fun q hq hqe => by
    refine hideAll_get _ (N q hq).1 fun hm => ?_
    rcases List.mem_cons.mp hm with hm | hm
    · exact hqe hm
    · obtain ⟨env, hv, hf⟩ := List.mem_filterMap.mp hm
      rcases List.mem_cons.mp hv with rfl | hv
      · exact (N q hq).2.1 (Option.some.inj hf).symm
      · obtain ⟨o, ho, _⟩ := (K.frames.mem (List.mem_filterMap.mpr ⟨env, hv, hf⟩)).2
        rw [(N q hq).2.2] at ho; cases ho
  have hDe : D ≠ e := fun q => by
    have a1 := (N _ hD).1
    have a2 := (N _ he).1
    dsimp only at a1 a2
    rw [q, a2] at a1
    cases a1
  refine leave_first (B := hideAll s'.heap (e :: (envOf name scope L a cd :: outer).filterMap (·.frame))) (Around.frames_deeper K.stack) (funFrames_hide K'.frames hin) rfl (N _ he).1 rfl rfl rfl h1 (fun b o q => of_hideAll _ q) (hideAll_none _ (.head _)) fun h' x u => ?_
  exact hQ h' ⟨_, D, es, n, tk, st, fun q hq => ⟨keep q (hs q hq) (hne q hq), hge q (hs q hq)⟩, x, keep _ hD hDe, hge _ hD, hw⟩ ((Heap.UpToSlots.of_keeps F.keep).trans u)
end
end Mine

end
section
open PySem PySem.W PyProof.Rows PySem.Spec PySem.Calls
set_option maxRecDepth 100000
set_option maxHeartbeats 2000000
namespace Mine
def GInv (x y a b : Int) : Prop := 0 ≤ a ∧ 0 ≤ b ∧ Int.gcd a b = Int.gcd x y
theorem abs_ite (x : Int) : (if x < 0 then -x else x) = (x.natAbs : Int) := by split <;> omega
theorem ginv_start (x y : Int) : GInv x y (if x < 0 then -x else x) (if y < 0 then -y else y) := by
  rw [abs_ite, abs_ite]
  refine ⟨by omega, by omega, ?_⟩
  rfl
theorem ginv_turn {x y a b : Int} (h : GInv x y a b) (hb : 0 < b) : GInv x y b (Int.fmod a b) := by
  obtain ⟨h1, h2, h3⟩ := h
  have e : Int.fmod a b = a % b := Int.fmod_eq_emod_of_nonneg a (by omega)
  rw [e]
  refine ⟨h2, Int.emod_nonneg _ (by omega), ?_⟩
  rw [← h3, Int.gcd_comm a b]
  have e2 : a % b = a + b * (-(a / b)) := by have := Int.mul_ediv_add_emod a b; rw [Int.mul_neg]; omega
  rw [e2, Int.gcd_add_mul_left_right]
  
theorem ginv_less {a b : Int} (hb : 0 < b) : (Int.fmod a b).toNat < b.toNat := by
  have := Int.fmod_lt_of_pos a hb
  omega
theorem ginv_end {x y a b : Int} (h : GInv x y a b) (hb : ¬ 0 < b) : a = (Int.gcd x y : Int) := by
  obtain ⟨h1, h2, h3⟩ := h
  have e : b = 0 := by omega
  subst e
  rw [← h3, Int.gcd_zero_right]
  omega
theorem divisor_does (w : World) (x y : Int) (tx ty : Tok) (news : List (Addr × Obj)) :
    Does w 60 1 [.int x tx, .int y ty] news (fun r n => n = news ∧ ∃ t, r = .int (Int.gcd x y) t) (fun _ => False) := by
  unfold Does
  k_fill
  intro loose mean mg mb dp un gd cn cs a ccd cl outer A₀ base h₀ L m s Q E B F X N T hk hdp hun hret hexc
  refine wpAny_call ?_
  k_dflt cell_enter
  k_with "exec While Compare cons nil" => k_while (fun _ a b => GInv x y a b) (fun _ a b => b.toNat) "a" "b"
  k_with "state" => (first | exact ginv_start x y | exact ginv_turn (by assumption) (by simp_all))
  k_with "measure" => (first | exact ginv_less (by simp_all))
  k_steps
  k_with_none
  all_goals exact hret _ _ _ _ (by k_asm) (by k_asm) ⟨rfl, _, congrArg (Value.int · _) (ginv_end (by assumption) (by assumption))⟩
end Mine

end
section
open PySem PySem.W PyProof.Rows PySem.Spec PySem.Calls Builtin Builtin.ObjectAttr
set_option maxRecDepth 100000
set_option maxHeartbeats 1000000
namespace Mine
section
variable {prog : Program} {w : World} {A : Around} {E : Value → Shared → Prop} {s : Shared} {K : Frag} {x C : Addr} {ox : Obj} {od : Option Obj} {name : Str} {expr : Bool} {v : Value}

theorem exc_check {M : Model} {nameV : Value} {Q : Unit → Shared → Prop} (X : K.In s.heap) (I : InstAt s.heap x ox C od) (hsub : mroIn K C (.type "BaseException") = some true) (hq : Q () s) :
    wpAny M A (checkBuiltinCall "BaseException.__getattribute__" ⟨[.ref x, nameV], []⟩) Q E s := by
  have hk : builtinKind "BaseException.__getattribute__" = some .slot := by decide +kernel
  have hsplit : splitId "BaseException.__getattribute__" = some ("BaseException", "__getattribute__") := by decide +kernel
  have hi : Looks M s.heap (isInstance (.ref x) (.type "BaseException")) true := I.type.andThen (looks_mroIn X hsub)
  exact @check_slot M _ _ s "BaseException.__getattribute__" "BaseException" "__getattribute__" (.ref x) [nameV] [] _ hk hsplit hi (F.args_bexc_ga (.ref x) nameV) hq

theorem exc_entry {tk : Tok} {Q : PySem.Fin → Shared → Prop} (X : K.In s.heap) (I : InstAt s.heap x ox C od) (hf : findObj K C od name = some (.value v)) (h : Q (.done (.ret v)) s) :
    wpAny (model prog w) A (Builtin.«object.__getattribute__» ⟨[.ref x, .str name tk], []⟩) Q E s := by
  obtain ⟨hh', g, d, t, os⟩ := s
  have L0 := I.type (M := model prog w)
  have L1 := looks_find (M := model prog w) X I hf
  unfold Builtin.«object.__getattribute__»
  repeat (any_goals (first | assumption | with_reducible refine L0.at ?_ | with_reducible refine L1.at ?_ | wp_step))
theorem exc_get {Q : Value → Shared → Prop} (X : K.In s.heap) (I : InstAt s.heap x ox C od) (hga : findIn K (.ref C) "__getattribute__" = some (some (.builtin "BaseException.__getattribute__"))) (hgx : findIn K (.ref C) "__getattr__" = some none)
    (hf : findObj K C od name = some (.value v)) (hh : handedIn v = true) (hsub : mroIn K C (.type "BaseException") = some true) (h : Q v { s with toks := s.toks + 1 }) :
    wpAny (model prog w) A (getAttr (.ref x) name expr) Q E s := by
  obtain ⟨hh', g, d, t, os⟩ := s
  have L0 := I.type (M := model prog w)
  have L1 := looks_findIn (M := model prog w) X hga
  have L2 := looks_findIn (M := model prog w) X hgx
  have f3 := F.attr_Exception.ga.bind (.ref x)
  have hx0 : (expr && onTheHeap (Value.builtin "BaseException.__getattribute__")) = false := by cases expr <;> rfl
  have hx2 : (Value.builtin "BaseException.__getattribute__" == Value.builtin "object.__getattribute__") = false := by decide +kernel
  have hx1 : (onTheHeap (Value.ref C) && Value.builtin "BaseException.__getattribute__" == Value.builtin "object.__getattribute__") = false := by rw [hx2]; rfl
  unfold getAttr getAttrBy
  refine wpAny_bind (wpAny_mkText (wpAny_holding (wpAny_bind (L0.at (wpAny_bind (L1.at ?_))))))
  dsimp only
  rw [hx1]
  simp only [Bool.false_eq_true, if_false]
  unfold getAttrByItsOwn hookBefore
  repeat (any_goals (first | assumption | with_reducible refine L2.at ?_ | wp_step))
  refine codeAny_call_builtin F.attr_Exception.ga.plain F.entry_bexc_ga (exc_check X I hsub (exc_entry X I hf ?_))
  show wpAny _ _ (handedOut v) _ _ _
  rw [handedOut_of hh]
  exact wpAny_pure h
end
end Mine

end
section
open PySem PySem.W PyProof.Rows PySem.Spec PySem.Calls Builtin Builtin.ObjectAttr
set_option maxRecDepth 100000
set_option maxHeartbeats 1000000
namespace Mine
section
variable {prog : Program} {w : World} {A : Around} {E : Value → Shared → Prop} {s : Shared} {K : Frag} {x C : Addr} {ox : Obj} {od : Option Obj} {name : Str} {v : Value} {cd : ClassData} {R : Result → Shared → Prop}

theorem exc_osa {tk : Tok} (X : K.In s.heap) (I : InstAt s.heap x ox C od) (hc : clsIn K C = some cd) (hr : refuseLoop (.ref x) "__setattr__" cd.mro = pure ()) (hm : mroIn K C (.type "object") = some true) (hn : findIn K (.ref C) name = some none)
    (h : wpAny (model prog w) A.in1 (storeInOwnDict (.ref x) (.ref C) (.str name tk) name v false)
      (fun fin s' => match fin with | .done f => R (.ok f) s' | .again c' => c'.quiet = true ∧ codeAny (model prog w) A c' R s') (fun e s' => R (.error e) s') s) :
    codeAny (model prog w) A (.call (.builtin "object.__setattr__") ⟨[.ref x, .str name tk, v], []⟩) R s := by
  have SF := PySem.F.store_object
  have sub : Looks (model prog w) s.heap (isInstance (.ref x) (.type "object")) true := I.type.andThen (looks_mroIn X hm)
  refine codeAny_call_builtin SF.slot.plain SF.entry (@check_slot (model prog w) _ _ s "object.__setattr__" "object" "__setattr__" (.ref x) [.str name tk, v] [] _ SF.kind SF.split sub (SF.args (.ref x) (.str name tk) v) ?_)
  have hm : Looks (model prog w) s.heap (mroOf (.ref C)) cd.mro := (looks_clsIn X hc).andThen .now
  rw [osa_eq, refuse_eq]
  refine wpAny_bind (wpAny_bind (I.type.here (wpAny_bind (hm.here ?_))))
  rw [hr]
  refine wpAny_pure (wpAny_bind (I.type.here (wpAny_bind ((looks_findIn X hn).here (wpAny_bind (Looks.now.here ?_))))))
  exact h

theorem exc_setattr {Q : Unit → Shared → Prop} (X : K.In s.heap) (I : InstAt s.heap x ox C od) (hs : findIn K (.ref C) "__setattr__" = some (some (.builtin "object.__setattr__"))) (hc : clsIn K C = some cd) (hr : refuseLoop (.ref x) "__setattr__" cd.mro = pure ()) (hm : mroIn K C (.type "object") = some true) (hn : findIn K (.ref C) name = some none)
    (h : wpAny (model prog w) A.in1 (storeInOwnDict (.ref x) (.ref C) (.str name s.toks) name v false)
      (fun fin s' => match fin with | .done (.ret _) => Q () s' | _ => False) (fun e s' => E e s') { s with toks := s.toks + 1 }) :
    wpAny (model prog w) A (setAttr (.ref x) name v) Q E s := by
  refine set_plain X I hs (exc_osa (s := { s with toks := s.toks + 1 }) X I hc hr hm hn (wpAny_mono h (fun fin s' z => ?_) fun _ _ z => z))
  rcases fin with (_ | _ | _ | _) | _ <;> first | exact z | exact z.elim

end
end Mine

end
section
open PySem PySem.W PyProof.Rows PySem.Spec PySem.Calls Builtin Builtin.ObjectAttr
set_option maxRecDepth 100000
set_option maxHeartbeats 1000000
namespace Mine
section
variable {prog : Program} {w : World} {A : Around} {E : Value → Shared → Prop} {s : Shared} {K : Frag} {x C dx L : Addr} {ox : Obj} {name : Str} {v : Value} {cd : ClassData} {h₀ : Heap} {m : Str → Option Value} {pre post : List (Addr × Obj)} {es es' : List DictEntry} {n n' : Nat}

theorem store_in {tk : Tok} {Q : PySem.Fin → Shared → Prop} (F : Fr h₀ L s.heap m) (N : News h₀ L s.heap (pre ++ (dx, dictOf es n) :: post)) (h1 : ∀ p ∈ pre, p.1 ≠ dx) (h2 : ∀ p ∈ post, p.1 ≠ dx)
    (hl : (getL name es).isSome = true) (e : (putL name (PyData.keyHash w.params name) (.str name s.toks) v es, putN name es n) = (es', n')) (hz : es'.length ≤ 1000)
    (h : ∀ h', Fr h₀ L h' m → News h₀ L h' (pre ++ (dx, dictOf es' n') :: post) → Q (.done (.ret .none)) { s with heap := h', toks := s.toks + 1 }) :
    wpAny (model prog w) A (storeInDict dx (.str name tk) name v) Q E s := by
  obtain ⟨e1, e2⟩ := Prod.mk.inj e
  have hp : Obj.putName name (PyData.keyHash w.params name) (.str name s.toks) v (dictOf es n) = dictOf es' n' := by rw [putName_dict, e1, e2]
  obtain ⟨U1, U2⟩ := news_upd (f := Obj.putName name (PyData.keyHash w.params name) (.str name s.toks) v) F N h1 h2 hp rfl
  have D := (N (dx, dictOf es n) (by simp)).1
  have D' := (U2 (dx, dictOf es' n') (by simp)).1
  unfold storeInDict newKeyGuard
  refine wpAny_bind (wpAny_pure (wpAny_bind ?_))
  unfold nsSet
  refine wpAny_bind (wpAny_bind (wpAny_askSetting (wpAny_pure (wpAny_bind (wpAny_mkText (wpAny_bind (wpAny_loadPart D ?_)))))))
  dsimp only
  have c : (!es.toArray.any (·.key.isStr name) && es.toArray.any (·.refKey)) = false := by
    rw [← Array.any_toList, ← Array.any_toList]
    unfold getL at hl
    split at hl
    · rename_i en he
      rw [List.any_eq_true.mpr ⟨en, List.mem_of_find?_eq_some he, List.find?_some he⟩]; rfl
    · split at hl
      · cases hl
      · rename_i z; rw [Bool.not_eq_true] at z; rw [z, Bool.and_false]
  rw [aRefKeyMayBeTheName_at, c]
  refine wpAny_updatePart D ?_
  refine wpAny_bind (wpAny_lookBehind D' (by exact pastItsLine_dict (by rw [List.size_toArray, sizeLine_eq]; omega)) ?_)
  exact wpAny_pure (h _ U1 U2)

theorem exc_set_next {Q : Unit → Shared → Prop} (F : Fr h₀ L s.heap m) (X₀ : K.In h₀) (N : News h₀ L s.heap (pre ++ (dx, dictOf es n) :: post)) (I : InstAt s.heap x ox C (some (dictOf es n))) (hd : ox.dict = some dx)
    (hs : findIn K (.ref C) "__setattr__" = some (some (.builtin "object.__setattr__"))) (hc : clsIn K C = some cd) (hh : cd.hasDict = true) (hr : refuseLoop (.ref x) "__setattr__" cd.mro = pure ()) (hm : mroIn K C (.type "object") = some true) (hn : findIn K (.ref C) name = some none)
    (h1 : ∀ p ∈ pre, p.1 ≠ dx) (h2 : ∀ p ∈ post, p.1 ≠ dx)
    (hl : (getL name es).isSome = true) (e : (putL name (PyData.keyHash w.params name) (.str name (s.toks + 1)) v es, putN name es n) = (es', n')) (hz : es'.length ≤ 1000)
    (h : ∀ h', Fr h₀ L h' m → News h₀ L h' (pre ++ (dx, dictOf es' n') :: post) → Q () { s with heap := h', toks := s.toks + 2 }) :
    wpAny (model prog w) A (setAttr (.ref x) name v) Q E s := by
  have X := X₀.keeps F.keep
  refine exc_setattr X I hs hc hr hm hn ?_
  obtain ⟨hx, hcl, hno, -⟩ := I
  obtain ⟨oc, odi, oda, osl⟩ := ox
  dsimp only at hcl hd
  subst hcl hd
  refine wpAny_bind (wpAny_pure (wpAny_bind (wpAny_bind (wpAny_loadPart hx (wpAny_bind (looks_clsIn X hc _ _ _ _ (fun _ _ e => e) ?_))))))
  rw [hh]
  refine wpAny_pure (a := some dx) ?_
  exact store_in (s := { s with toks := s.toks + 1 }) F N h1 h2 hl e hz h

theorem exc_set_first {Q : Unit → Shared → Prop} {vs : Array Value} {sl : Array (Option Value)} (F : Fr h₀ L s.heap m) (X₀ : K.In h₀) (N : News h₀ L s.heap (pre ++ (x, ⟨.ref C, none, .fields vs, sl⟩) :: post))
    (hs : findIn K (.ref C) "__setattr__" = some (some (.builtin "object.__setattr__"))) (hc : clsIn K C = some cd) (hh : cd.hasDict = true) (hr : refuseLoop (.ref x) "__setattr__" cd.mro = pure ()) (hm : mroIn K C (.type "object") = some true) (hn : findIn K (.ref C) name = some none)
    (h1 : ∀ p ∈ pre, p.1 ≠ x) (h2 : ∀ p ∈ post, p.1 ≠ x)
    (h : ∀ h' D, (∀ p ∈ pre ++ (x, (⟨.ref C, none, .fields vs, sl⟩ : Obj)) :: post, p.1 < D) → Fr h₀ L h' m → News h₀ L h' ((D, dictOf [⟨PyData.keyHash w.params name, .str name (s.toks + 1), v⟩] 1) :: (pre ++ (x, ⟨.ref C, some D, .fields vs, sl⟩) :: post)) → Q () { s with heap := h', toks := s.toks + 2 }) :
    wpAny (model prog w) A (setAttr (.ref x) name v) Q E s := by
  have X := X₀.keeps F.keep
  have hx := (N (x, ⟨.ref C, none, .fields vs, sl⟩) (by simp)).1
  have I : InstAt s.heap x ⟨.ref C, none, .fields vs, sl⟩ C none := ⟨hx, rfl, rfl, trivial⟩
  refine exc_setattr X I hs hc hr hm hn ?_
  refine wpAny_bind (wpAny_pure (wpAny_bind (wpAny_bind (wpAny_loadPart hx (wpAny_bind (looks_clsIn X hc _ _ _ _ (fun _ _ e => e) ?_))))))
  rw [hh]
  have hlt : ∀ p ∈ pre ++ (x, (⟨.ref C, none, .fields vs, sl⟩ : Obj)) :: post, p.1 < s.heap.objs.size := fun p hp => Heap.lt_size (N p hp).1
  have N1 := N.push F emptyDict
  have F1 := F.push emptyDict
  have hx1 : (s.heap.push emptyDict).get? x = some ⟨.ref C, none, .fields vs, sl⟩ := Heap.get?_push_of_some _ hx
  have hxs : s.heap.objs.size ≠ x := Nat.ne_of_gt (hlt (x, ⟨.ref C, none, .fields vs, sl⟩) (by simp))
  obtain ⟨F2, N2⟩ := news_upd (pre := (s.heap.objs.size, emptyDict) :: pre) (post := post) (d := x) (f := fun o => { o with dict := some s.heap.objs.size }) F1 N1
    (fun p hp => (List.mem_cons.mp hp).elim (fun q => by rw [q]; exact hxs) (h1 p)) h2 rfl rfl
  refine wpAny_bind (wpAny_alloc' ?_)
  refine wpAny_bind (wpAny_update' hx1 ?_)
  refine wpAny_pure ?_
  exact store_in (pre := []) (s := { s with heap := _, toks := s.toks + 1 }) F2 N2 (fun _ h => nomatch h) (fun p hp => Nat.ne_of_lt (by
    rcases List.mem_append.mp hp with hp | hp
    · exact hlt p (List.mem_append_left _ hp)
    · rcases List.mem_cons.mp hp with rfl | hp
      · exact hlt (x, ⟨.ref C, none, .fields vs, sl⟩) (by simp)
      · exact hlt p (List.mem_append_right _ (List.mem_cons_of_mem _ hp)))) rfl rfl (by simp [putL]) (fun h' F' N' => h h' _ hlt F' N')
end
end Mine

end
section
open PySem PySem.W PyProof.Rows PySem.Spec PySem.Calls
set_option maxRecDepth 100000
set_option maxHeartbeats 2000000
namespace Mine
section
variable {prog : Program} {w : World} {A : Around} {E : Value → Shared → Prop} {h : Heap} {g : Array GenState} {d : Drawn} {t : Nat} {os : OsState}
variable {nm q : Str} {C N : Addr} {bs bm : List Value} {hdct : Bool} {sn : List Str} {sub : List Value} {ab : Bool} {col : Option Bool} {dd : Option Addr} {k0 k1 k2 k3 k5 : Option Value}

theorem ada_check_new {M : Model} {rest : List Value} {Q : Unit → Shared → Prop} (hC : h.get? C = some (excClassObj nm q C N bs bm hdct sn sub ab col dd k0 k1 k2 k3 k5 "Exception.__new__"))
    (hcB : (Value.ref C :: bm).contains (.type "Exception") = true) (hq : Q () ⟨h, g, d, t, os⟩) : wpAny M A (checkBuiltinCall "Exception.__new__" ⟨.ref C :: rest, []⟩) Q E ⟨h, g, d, t, os⟩ := by
  have Fn := F.excBase_Exception
  have hstar := Fn.noStar
  simp only [checkBuiltinCall, Fn.newKind, Fn.newSplit, Fn.newRow]
  repeat (first | refine wpAny_loadPart_at hC ?_ | (refine wpAny_isSubtype_exc hC ?_; rw [hcB]) | refine wpAny_staticBase_exc hC ?_ | refine wpAny_madeBy_exc hC ?_ | simp only [bne_self_eq_false, Bool.false_eq_true, if_false] | wp_step)
  exact hq

theorem ada_new {R : Result → Shared → Prop} {rest : List Value} (hC : h.get? C = some (excClassObj nm q C N bs bm hdct sn sub ab col dd k0 k1 k2 k3 k5 "Exception.__new__"))
    (hcB : (Value.ref C :: bm).contains (.type "Exception") = true) (hcA : (Value.ref C :: bm).contains (.type "AttributeError") = false) (hcN : (Value.ref C :: bm).contains (.type "NameError") = false)
    (hq : R (.ok (.ret (.ref (h.objs.size + 1)))) ⟨(h.push { cls := .type "tuple", data := .seq rest.toArray }).push
      { cls := .ref C, data := .fields #[.ref h.objs.size, .none, .none, .none, .bool false, .none] }, g, d, t, os⟩) (hrest : rest.length ≤ sizeLine := by size_fits) :
    codeAny (model prog w) A (.builtin "Exception.__new__" ⟨.ref C :: rest, []⟩) R ⟨h, g, d, t, os⟩ := by
  have Fn := F.excBase_Exception
  have hends := Fn.ends
  refine codeAny_builtinAt Fn.entry ?_
  unfold Builtin.«BaseException.__new__»
  refine PySem.wpAt_bind ?_
  show PySem.wpAt _ _ _ (stack >>= _) _ _ _
  refine PySem.wpAt_bind (PySem.wpAt_stack fun p below => PySem.wpAt_of_wpAny ?_)
  wp_walk
  refine PySem.wpAt_of_wpAny ?_
  rw [Fn.owner]
  repeat (first | with_reducible refine wpAny_madeHere_exc Fn.canon hC ?_ | with_reducible refine wpAny_loadPart_at hC ?_ | (with_reducible refine wpAny_isSubtype_exc hC ?_; first | rw [hcB] | rw [hcA] | rw [hcN]) | wp_step)
  show R _ _
  rw [Heap.size_push]
  exact hq

theorem ada_type_call {rest : List Value} {fI : Addr} {Q : PySem.Fin → Shared → Prop}
    (hC : h.get? C = some (excClassObj nm q C N bs bm hdct sn sub ab col dd k0 k1 k2 k3 k5 "Exception.__new__"))
    (hcB : (Value.ref C :: bm).contains (.type "Exception") = true) (hcA : (Value.ref C :: bm).contains (.type "AttributeError") = false) (hcN : (Value.ref C :: bm).contains (.type "NameError") = false)
    (hi : Looks (model prog w) h (typeLookup (.ref C) "__init__") (some (.ref fI))) (hb : ∀ self : Value, Looks (model prog w) h (bindSpecial (.ref fI) self) (.ref fI, [self]))
    (hq : wpAny (model prog w) A (call (.ref fI) (.ref (h.objs.size + 1) :: rest)) (fun r s' => r = .none ∧ Q (.done (.ret (.ref (h.objs.size + 1)))) s') E ⟨(h.push { cls := .type "tuple", data := .seq rest.toArray }).push
      { cls := .ref C, data := .fields #[.ref h.objs.size, .none, .none, .none, .bool false, .none] }, g, d, t, os⟩) (hrest : rest.length ≤ sizeLine := by size_fits) :
    wpAny (model prog w) A (Builtin.«type.__call__» ⟨.ref C :: rest, []⟩) Q E ⟨h, g, d, t, os⟩ := by
  have Fn := F.excBase_Exception
  repeat (first | with_reducible refine wpAny_loadPart_at hC ?_ | with_reducible refine wpAny_madeBy_exc hC ?_ | wp_step)
  refine codeAny_call_builtin_code (Code.quiet_builtin _ Fn.quiet) (ada_check_new hC hcB ?_)
  refine ada_new hC hcB hcA hcN ?_ hrest
  show wpAny _ _ _ _ _ _
  have hk : ∀ b o, h.get? b = some o → ((h.push { cls := .type "tuple", data := .seq rest.toArray }).push { cls := .ref C, data := .fields #[.ref h.objs.size, .none, .none, .none, .bool false, .none] }).get? b = some o :=
    fun b o e => Heap.get?_push_of_some _ (Heap.get?_push_of_some _ e)
  have hC₁ := hk _ _ hC
  have hget : ((h.push { cls := .type "tuple", data := .seq rest.toArray }).push
      { cls := .ref C, data := .fields #[.ref h.objs.size, .none, .none, .none, .bool false, .none] }).get? (h.objs.size + 1) = some
      { cls := .ref C, data := .fields #[.ref h.objs.size, .none, .none, .none, .bool false, .none] } := by heap_get
  have hcC : (Value.ref C :: bm).contains (.ref C) = true := by simp
  unfold isInstance
  repeat (first | with_reducible refine wpAny_loadPart_at hget ?_ | (with_reducible refine wpAny_isSubtype_exc hC₁ ?_; rw [hcC]) | wp_step)
  show wpAny _ _ (typeLookup (.ref C) _) _ _ _
  refine hi _ _ _ _ hk ?_
  refine wpAny_holding (wpAny_bind ?_)
  refine hb _ _ _ _ _ hk ?_
  refine wpAny_bind (wpAny_mono hq (fun r s' hr => ?_) fun _ _ x => x)
  obtain ⟨rfl, hQ⟩ := hr
  wp_walk
  exact hQ

theorem ada_call {rest : List Value} {fI : Addr} {Q : Value → Shared → Prop}
    (hC : h.get? C = some (excClassObj nm q C N bs bm hdct sn sub ab col dd k0 k1 k2 k3 k5 "Exception.__new__"))
    (hcB : (Value.ref C :: bm).contains (.type "Exception") = true) (hcA : (Value.ref C :: bm).contains (.type "AttributeError") = false) (hcN : (Value.ref C :: bm).contains (.type "NameError") = false)
    (hi : Looks (model prog w) h (typeLookup (.ref C) "__init__") (some (.ref fI))) (hb : ∀ self : Value, Looks (model prog w) h (bindSpecial (.ref fI) self) (.ref fI, [self]))
    (hq : wpAny (model prog w) (A.under (.builtin "type.__call__" ⟨.ref C :: rest, []⟩)) (call (.ref fI) (.ref (h.objs.size + 1) :: rest)) (fun r s' => r = .none ∧ Q (.ref (h.objs.size + 1)) s') E ⟨(h.push { cls := .type "tuple", data := .seq rest.toArray }).push
      { cls := .ref C, data := .fields #[.ref h.objs.size, .none, .none, .none, .bool false, .none] }, g, d, t, os⟩) (hrest : rest.length ≤ sizeLine := by size_fits) :
    wpAny (model prog w) A (call (.ref C) rest) Q E ⟨h, g, d, t, os⟩ := by
  have f1 := tc_lookup
  have f2 := tc_bind (.ref C)
  have hT : (⟨h, g, d, t, os⟩ : Shared).TypeIs (.ref C) "type" := ⟨_, hC, rfl⟩
  refine wpAny_call (codeAny_of_tree ?_)
  show wpAny _ _ (callAny (.ref C) _) _ _ _
  repeat (any_goals (first | assumption | with_reducible refine wpAny_loadPart_at hC ?_ | wp_step))
  refine ⟨rfl, ?_⟩
  refine codeAny_call_builtin_at (Code.quiet_builtin _ (by decide +kernel)) entry_typeCall (wpAny_check_type_call_sub hC (ada_type_call (hrest := hrest) hC hcB hcA hcN hi hb ?_))
  exact hq
end
end Mine

end
section
open PySem PySem.W PyProof.Rows PySem.Spec PySem.Calls
set_option maxRecDepth 100000
set_option maxHeartbeats 2000000
namespace Mine
section
variable {M : Model} {A : Around} {E : Value → Shared → Prop} {h : Heap} {g : Array GenState} {d : Drawn} {t : Nat} {os : OsState}
variable {nm q : Str} {C N : Addr} {bs bm : List Value} {hdct : Bool} {sn : List Str} {sub : List Value} {ab : Bool} {col : Option Bool} {dd : Option Addr} {k0 k1 k2 k3 k5 : Option Value} {newId : String}
theorem exc_check_init {e : Addr} {oe : Obj} {rest : List Value} {Q : Unit → Shared → Prop} (hC : h.get? C = some (excClassObj nm q C N bs bm hdct sn sub ab col dd k0 k1 k2 k3 k5 newId)) (hcB : (Value.ref C :: bm).contains (.type "Exception") = true)
    (he : h.get? e = some oe) (hcls : oe.cls = .ref C) (hq : Q () ⟨h, g, d, t, os⟩) :
    wpAny M A (checkBuiltinCall "Exception.__init__" ⟨.ref e :: rest, []⟩) Q E ⟨h, g, d, t, os⟩ := by
  have Fn := PySem.F.excBase_Exception
  have hshort := Fn.noStar
  simp only [checkBuiltinCall, Fn.initKind, Fn.initSplit, Fn.initRow]
  repeat (first | (with_reducible refine wpAny_loadPart_at he ?_; rw [hcls]) | with_reducible refine wpAny_loadPart_at hC ?_ | (with_reducible refine wpAny_isSubtype_exc hC ?_; rw [hcB]) | wp_step)
  refine wpAny_onRaise ?_
  rw [show ∀ (a b : String) (n : Nat), Bind.check ⟨.positional, "*", "Exception", .self, [⟨"args", .varPos, false⟩]⟩ a b n (List.map (fun x => x.fst) ({ pos := Value.ref e :: rest } : Args).kw) = pure () from
    fun a b n => check_star_args _ _ _ _ _ _]
  exact wpAny_pure hq
end
section
variable {prog : Program} {w : World} {A : Around} {E : Value → Shared → Prop} {s : Shared} {x L : Addr} {h₀ : Heap} {m : Str → Option Value} {news : List (Addr × Obj)}
variable {nm q : Str} {C N : Addr} {bs bm : List Value} {hdct : Bool} {sn : List Str} {sub : List Value} {ab : Bool} {col : Option Bool} {dd : Option Addr} {k0 k1 k2 k3 k5 : Option Value} {newId : String}

abbrev bareExc (C T : Addr) (d : Option Addr) : Obj := ⟨.ref C, d, .fields #[.ref T, .none, .none, .none, .bool false, .none], #[]⟩

theorem exc_init {rest : List Value} {T₀ : Addr} {news' : Addr → List (Addr × Obj)} {Q : Value → Shared → Prop} (F : Fr h₀ L s.heap m) (N : News h₀ L s.heap news) (hC : s.heap.get? C = some (excClassObj nm q C N' bs bm hdct sn sub ab col dd k0 k1 k2 k3 k5 newId)) (hcB : (Value.ref C :: bm).contains (.type "Exception") = true)
    (U : ∀ T, Upd x (bareExc C T₀ none) (bareExc C T none) news (news' T)) (h : ∀ h' T, Fr h₀ L h' m → News h₀ L h' (news' T) → Q .none { s with heap := h' }) (hrest : rest.length ≤ sizeLine := by size_fits) :
    wpAny (model prog w) A (call (.builtin "Exception.__init__") (.ref x :: rest)) Q E s := by
  have Fn := PySem.F.excBase_Exception
  obtain ⟨pre, post, rfl, e2, h1, h2⟩ := (U s.heap.objs.size).split
  have hx := (N (x, bareExc C T₀ none) (by simp)).1
  obtain ⟨hh, g, d, t, os⟩ := s
  refine wpAny_call (codeAny_call_builtin Fn.init.plain Fn.initEntry (exc_check_init hC hcB hx rfl ?_))
  have hx₁ : (hh.push { cls := .type "tuple", data := .seq rest.toArray }).get? x = some (bareExc C T₀ none) := Heap.get?_push_of_some _ hx
  obtain ⟨F2, N2⟩ := news_upd (d := x) (f := Obj.mapFields (·.setIfInBounds 0 (Value.ref hh.objs.size))) (o' := bareExc C hh.objs.size none) (F.push { cls := .type "tuple", data := .seq rest.toArray })
    (fun p hp => (N.push F { cls := .type "tuple", data := .seq rest.toArray }) p (List.mem_cons_of_mem _ hp)) h1 h2 rfl rfl
  wp_walk
  exact h _ hh.objs.size F2 (by rw [e2]; exact N2)
end
end Mine

end
section
open PySem PySem.W PyProof.Rows PySem.Spec PySem.Calls
set_option maxRecDepth 100000
set_option maxHeartbeats 2000000
namespace Mine
abbrev adaTail : List Value := [.ref 31, .type "Exception", .type "BaseException", .type "object"]
theorem cls51 (w : World) : ∃ nm q bs sub dd k0 k1 k2 k3 k5, (hd.heap_39 w.params).lookup 51 = some (excClassObj nm q 51 50 bs adaTail true [] sub false none dd k0 k1 k2 k3 k5 "Exception.__new__") :=
  ⟨"AdaRaise", "AdaRaise", [.ref 31], [], none, some (.ref 35), none, some (.str "AdaRaise" 218), some (.str "AdaRaise" 226), some (.bool true), by kernel_rfl⟩
theorem ada_sa (w : World) : findIn (hd.heap_39 w.params) (.ref 51) "__setattr__" = some (some (.builtin "object.__setattr__")) := by kernel_rfl
theorem ada_ga (w : World) : findIn (hd.heap_39 w.params) (.ref 51) "__getattribute__" = some (some (.builtin "BaseException.__getattribute__")) := by kernel_rfl
theorem ada_gx (w : World) : findIn (hd.heap_39 w.params) (.ref 51) "__getattr__" = some none := by kernel_rfl
theorem ada_text (w : World) : findIn (hd.heap_39 w.params) (.ref 51) "text" = some none := by kernel_rfl
theorem ada_name (w : World) : findIn (hd.heap_39 w.params) (.ref 51) "name" = some none := by kernel_rfl
theorem ada_word (w : World) : findIn (hd.heap_39 w.params) (.ref 51) "word" = some none := by kernel_rfl
theorem ada_line (w : World) : findIn (hd.heap_39 w.params) (.ref 51) "line" = some none := by kernel_rfl
theorem ada_fi (w : World) : findIn (hd.heap_39 w.params) (.ref 51) "__init__" = some (some (.ref 48)) := by kernel_rfl
theorem ada_ft (w : World) : typeIn (hd.heap_39 w.params) (.ref 48) = some (.type "function") := by kernel_rfl
theorem ada_obj (w : World) : mroIn (hd.heap_39 w.params) 51 (.type "object") = some true := by kernel_rfl
theorem ada_base (w : World) : mroIn (hd.heap_39 w.params) 51 (.type "BaseException") = some true := by kernel_rfl
theorem ada_cls (w : World) : ∃ cd, clsIn (hd.heap_39 w.params) 51 = some cd ∧ cd.hasDict = true ∧ cd.mro = .ref 51 :: adaTail := by
  obtain ⟨nm, q, bs, sub, dd, k0, k1, k2, k3, k5, e⟩ := cls51 w
  exact ⟨_, by unfold clsIn; rw [e], rfl, rfl⟩
theorem ada_refuse (x : Addr) : refuseLoop (.ref x) "__setattr__" (.ref 51 :: adaTail) = pure () := by
  rw [refuseLoop_ref, refuseLoop_ref]
  kernel_rfl

section
variable {w : World} {A : Around} {E : Value → Shared → Prop} {s : Shared} {x dx L : Addr} {name : Str} {v : Value} {h₀ : Heap} {m : Str → Option Value} {news news' : List (Addr × Obj)} {es es' : List DictEntry} {n n' : Nat} {vs : Array Value} {sl : Array (Option Value)}

theorem ada_set_next {Q : Unit → Shared → Prop} (F : Fr h₀ L s.heap m) (X₀ : (hd.heap_39 w.params).In h₀) (N : News h₀ L s.heap news) (hx : (x, (⟨.ref 51, some dx, .fields vs, sl⟩ : Obj)) ∈ news)
    (hn : findIn (hd.heap_39 w.params) (.ref 51) name = some none) (hl : (getL name es).isSome = true)
    (e : (putL name (PyData.keyHash w.params name) (.str name (s.toks + 1)) v es, putN name es n) = (es', n')) (U : Upd dx (dictOf es n) (dictOf es' n') news news') (hz : es'.length ≤ 1000)
    (h : ∀ h', Fr h₀ L h' m → News h₀ L h' news' → Q () { s with heap := h', toks := s.toks + 2 }) :
    wpAny (model PySem.Challenge.rw_pq0001_01.row.prog w) A (setAttr (.ref x) name v) Q E s := by
  obtain ⟨cd, hc, hh, hm⟩ := ada_cls w
  obtain ⟨pre, post, rfl, rfl, a, b⟩ := U.split
  have I : InstAt s.heap x ⟨.ref 51, some dx, .fields vs, sl⟩ 51 (some (dictOf es n)) := ⟨(N _ hx).1, rfl, rfl, (N (dx, dictOf es n) (by simp)).1⟩
  exact exc_set_next F X₀ N I rfl (ada_sa w) hc hh (by rw [hm]; exact ada_refuse x) (ada_obj w) hn a b hl e hz h

theorem ada_set_first {Q : Unit → Shared → Prop} {news₁ : Addr → List (Addr × Obj)} (F : Fr h₀ L s.heap m) (X₀ : (hd.heap_39 w.params).In h₀) (N : News h₀ L s.heap news)
    (hn : findIn (hd.heap_39 w.params) (.ref 51) name = some none) (U : ∀ D, Upd x (⟨.ref 51, none, .fields vs, sl⟩) (⟨.ref 51, some D, .fields vs, sl⟩) news (news₁ D))
    (h : ∀ h' D, AllLt D news → Fr h₀ L h' m → News h₀ L h' ((D, dictOf [⟨PyData.keyHash w.params name, .str name (s.toks + 1), v⟩] 1) :: news₁ D) → Q () { s with heap := h', toks := s.toks + 2 }) :
    wpAny (model PySem.Challenge.rw_pq0001_01.row.prog w) A (setAttr (.ref x) name v) Q E s := by
  obtain ⟨cd, hc, hh, hm⟩ := ada_cls w
  obtain ⟨pre, post, e1, -, a, b⟩ := (U 0).split
  subst e1
  have hU : ∀ D, news₁ D = pre ++ (x, (⟨.ref 51, some D, .fields vs, sl⟩ : Obj)) :: post := by
    intro D
    obtain ⟨pre', post', f1, f2, a', b'⟩ := (U D).split
    rw [f2]
    have : ∀ (p p' q q' : List (Addr × Obj)) (o : Obj), (∀ y ∈ p, y.1 ≠ x) → (∀ y ∈ p', y.1 ≠ x) → p ++ (x, o) :: q = p' ++ (x, o) :: q' → p = p' ∧ q = q' := by
      intro p
      induction p with
      | nil =>
        intro p' q q' o _ h2 he
        cases p' with
        | nil => exact ⟨rfl, by simpa using he⟩
        | cons y r => simp only [List.nil_append, List.cons_append, List.cons.injEq] at he; exact absurd (by rw [← he.1]) (h2 y (.head _))
      | cons y r ih =>
        intro p' q q' o h1 h2 he
        cases p' with
        | nil => simp only [List.nil_append, List.cons_append, List.cons.injEq] at he; exact absurd (by rw [he.1]) (h1 y (.head _))
        | cons y' r' =>
          simp only [List.cons_append, List.cons.injEq] at he
          obtain ⟨i1, i2⟩ := ih r' q q' o (fun z hz => h1 z (.tail _ hz)) (fun z hz => h2 z (.tail _ hz)) he.2
          exact ⟨by rw [he.1, i1], i2⟩
    obtain ⟨i1, i2⟩ := this _ _ _ _ _ a a' f1
    rw [i1, i2]
  refine exc_set_first F X₀ N (ada_sa w) hc hh (by rw [hm]; exact ada_refuse x) (ada_obj w) hn a b fun h' D hlt F' N' => h h' D (allLt_of hlt) F' ?_
  rw [hU D]; exact N'

theorem ada_init_call {rest : List Value} {T₀ : Addr} {news₁ : Addr → List (Addr × Obj)} {Q : Value → Shared → Prop} (F : Fr h₀ L s.heap m) (X₀ : (hd.heap_39 w.params).In h₀) (N : News h₀ L s.heap news)
    (U : ∀ T, Upd x (bareExc 51 T₀ none) (bareExc 51 T none) news (news₁ T)) (h : ∀ h' T, Fr h₀ L h' m → News h₀ L h' (news₁ T) → Q .none { s with heap := h' }) (hrest : rest.length ≤ sizeLine) :
    wpAny (model PySem.Challenge.rw_pq0001_01.row.prog w) A (call (.builtin "Exception.__init__") (.ref x :: rest)) Q E s := by
  obtain ⟨nm, q, bs, sub, dd, k0, k1, k2, k3, k5, e⟩ := cls51 w
  exact exc_init F N (X₀.keeps F.keep _ _ e) (by decide +kernel) U h hrest
end
end Mine

end
section
open PySem PySem.W PyProof.Rows PySem.Spec PySem.Calls
set_option maxRecDepth 100000
set_option maxHeartbeats 2000000
namespace Mine
local macro_rules | `(tactic| walk_at "call builtin:Exception.__init__") => `(tactic| (k_here; k_dflt (refine' ada_init_call ?k1 ?k2 ?k3 (fun T => Upd.head (by assumption)) ?_ (by size_fits); (case k1 => k_asm); (case k2 => k_asm); (case k3 => k_asm); k_whole); intro h' T' F' N'; (try k_sweep)))
local macro_rules | `(tactic| walk_at "setAttr ref") => `(tactic| (k_here; k_dflt (refine' ada_set_first ?k1 ?k2 ?k3 ?k4 (fun D => Upd.head (by assumption)) ?_; (case k1 => k_asm); (case k2 => k_asm); (case k3 => k_asm); (case k4 => first | exact ada_text _); k_whole); intro h' D' l1 F' N'; (try k_sweep)))

theorem meta_Exception : typeOf (.type "Exception") = pure (.type "type") := by kernel_rfl
local macro_rules | `(tactic| walk_at "getMethod type:Exception") => `(tactic| (k_here; refine' method_type ?F ?X meta_Exception (by decide +kernel) ?e ?h ?_; (case F => k_asm); (case X => k_asm); (case e => k_dflt k_is); (case h => k_handed)))
abbrev textObj (w : World) (tx : Str) (tk tk' : Tok) : Obj := dictOf [⟨PyData.keyHash w.params (Str.ofString "text"), .str (Str.ofString "text") tk', .str tx tk⟩] 1
theorem err_init (w : World) (tx : Str) (tk : Tok) (news : List (Addr × Obj)) (e t : Addr) (hne : ∀ p ∈ news, p.1 ≠ e) :
    Does w 28 1 [.ref e, .str tx tk] ((e, bareExc 51 t none) :: news)
      (fun r n => r = .none ∧ ∃ D T tk', AllLt D ((e, bareExc 51 T none) :: news) ∧ n = (D, textObj w tx tk tk') :: (e, bareExc 51 T (some D)) :: news) (fun _ => False) := by
  unfold Does
  k_fill
  intro loose mean mg mb dp un gd cn cs a ccd cl outer A₀ base h₀ L m s Q E B F X N T hk hdp hun hret hexc
  refine wpAny_call ?_
  k_dflt cell_enter
  k_steps
  all_goals exact hret _ _ _ _ (by k_asm) (by k_asm) ⟨rfl, _, _, _, by assumption, rfl⟩

theorem upd_lt {D : Addr} {o o' : Obj} {r : List (Addr × Obj)} (h : AllLt D r) : Upd D o o' ((D, o) :: r) ((D, o') :: r) := Upd.head fun p hp => Nat.ne_of_lt (ktn_ltOf h p hp)
local macro_rules | `(tactic| walk_at "call ref") => `(tactic| (k_here; (with_reducible show wpAny _ _ (call (Value.ref 28) [Value.ref _, Value.str _ _]) _ _ _); k_dflt (refine' Does.use (err_init _ _ _ _ _ _ ?kn) ?k1 ?k2 ?k3 ?k4 ?k5 ?kK ?kd ?ku ?_ ?kE; (case kn => assumption); (case k1 => k_asm); (case k2 => k_asm); (case k3 => k_asm); (case k4 => k_asm); (case k5 => k_asm); (case kK => exact rfl); (case kd => ktr_room); (case ku => ktr_units); (case kE => exact fun _ _ _ _ _ _ _ h => h.elim); k_whole); intro r9 n9 h9 tk9 F9 N9 P9; obtain ⟨e9, D9, T9, tk8, hlt, f9⟩ := P9; subst e9; subst f9; (try dsimp only [textObj] at N9 ⊢); (try k_fold)))
local macro_rules | `(tactic| walk_at "setAttr ref") => `(tactic| (k_here; k_dflt (refine' ada_set_next ?k1 ?k2 ?k3 (List.mem_cons_of_mem _ (List.mem_cons_self)) ?k4 ?k5 ?k6 (upd_lt (by assumption)) ?k7 ?_; (case k1 => k_asm); (case k2 => k_asm); (case k3 => k_asm); (case k4 => first | exact ada_name _ | exact ada_word _ | exact ada_line _); (case k5 => k_get); (case k6 => k_put); (case k7 => exact Nat.le_of_ble_eq_true rfl); k_whole); intro h' F' N'; (try k_sweep)))

theorem raise_init (w : World) (W tx : Str) (k : Int) (tk1 tk2 tk3 : Tok) (news : List (Addr × Obj)) (e t : Addr) (hne : ∀ p ∈ news, p.1 ≠ e) :
    Does w 48 2 [.ref e, .str W tk1, .int k tk2, .str tx tk3] ((e, bareExc 51 t none) :: news)
      (fun r n => r = .none ∧ ∃ D T es c, AllLt D ((e, bareExc 51 T none) :: news) ∧ getL "word" es = some (some (.str W tk1)) ∧ n = (D, dictOf es c) :: (e, bareExc 51 T (some D)) :: news) (fun _ => False) := by
  unfold Does
  k_fill
  intro loose mean mg mb dp un gd cn cs a ccd cl outer A₀ base h₀ L m s Q E B F X N T hk hdp hun hret hexc
  refine wpAny_call ?_
  k_dflt cell_enter
  k_steps
  all_goals exact hret _ _ _ _ (by k_asm) (by k_asm) ⟨rfl, _, _, _, _, by assumption, by kernel_rfl, rfl⟩

/-- AdaRaise(W, k, tx) called from a def's frame -/
theorem ada_made {w : World} {W tx : Str} {k : Int} {tk1 tk2 tk3 : Tok} {news : List (Addr × Obj)} {loose : List Str} {mean : ExcName → Option Value} {mg mb : Str → Option Value} {dp un : Nat} {gd : Option (List Code)} {cn : Str} {cs : Scope} {a : Addr} {ccd : Value} {cl : List (Str × Addr)} {outer : List Env} {A₀ : Around} {base h₀ : Heap} {L : Addr} {m : Str → Option Value} {s : Shared} {Q E : Value → Shared → Prop}
    (B : Below A₀ base outer h₀) (F : Fr h₀ L s.heap m) (X : (hd.heap_39 w.params).In h₀) (N : News h₀ L s.heap news) (T : Top hd.view_39 loose mean mg mb h₀) (hk : cs.kind = .function) (hd : dp + 4 < recursionLimit) (hu : un + 32 < cLine)
    (ret : ∀ e D T es c h' tk', AllLt D ((e, bareExc 51 T (some D)) :: news) → (∀ p ∈ news, p.1 ≠ e) → getL "word" es = some (some (.str W tk1)) → Fr h₀ L h' m → News h₀ L h' ((D, dictOf es c) :: (e, bareExc 51 T (some D)) :: news) → Q (.ref e) { s with heap := h', toks := tk' }) :
    wpAny (model PySem.Challenge.rw_pq0001_01.row.prog w) (ktrTop dp un gd cn cs L a ccd cl outer) (call (.ref 51) [.str W tk1, .int k tk2, .str tx tk3]) Q E s := by
  obtain ⟨nm, q, bs, sub, dd, k0, k1, k2, k3, k5, ec⟩ := cls51 w
  have X' := X.keeps F.keep
  obtain ⟨hh, g, d, t, os⟩ := s
  have hlt : ∀ p ∈ news, p.1 < hh.objs.size := fun p hp => Heap.lt_size (N p hp).1
  refine ada_call (X' _ _ ec) (by decide +kernel) (by decide +kernel) (by decide +kernel) (looks_findIn X' (ada_fi w)) (fun self => bind_fn X' self (ada_ft w)) ?_ (by size_fits)
  have N1 := N.push F { cls := .type "tuple", data := .seq [Value.str W tk1, .int k tk2, .str tx tk3].toArray }
  have F1 := F.push { cls := .type "tuple", data := .seq [Value.str W tk1, .int k tk2, .str tx tk3].toArray }
  have N2 := N1.push F1 (bareExc 51 hh.objs.size none)
  have F2 := F1.push (bareExc 51 hh.objs.size none)
  rw [Heap.size_push] at N2
  have N3 : News h₀ L _ ((hh.objs.size + 1, bareExc 51 hh.objs.size none) :: news) := fun p hp => N2 p ((List.mem_cons.mp hp).elim (fun e => by rw [e]; exact .head _) fun h => .tail _ (.tail _ h))
  have hne : ∀ p ∈ news, p.1 ≠ hh.objs.size + 1 := fun p hp => Nat.ne_of_lt (Nat.lt_succ_of_lt (hlt p hp))
  have eA : ∃ gd', (ktrTop dp un gd cn cs L a ccd cl outer).under (.builtin "type.__call__" ⟨.ref 51 :: [.str W tk1, .int k tk2, .str tx tk3], []⟩) = ktrTop (dp + 1) (un + 1) gd' cn cs L a ccd cl outer := ⟨_, rfl⟩
  obtain ⟨gd', eA⟩ := eA
  rw [eA]
  refine Does.use (raise_init w W tx k tk1 tk2 tk3 news (hh.objs.size + 1) hh.objs.size hne) B F2 X N3 T hk (by omega) (by omega) ?_ (fun _ _ _ _ _ _ _ h => h.elim)
  intro r n h' tk' F' N' P
  obtain ⟨rfl, D, T', es, c, hD, hw, rfl⟩ := P
  exact ⟨rfl, ret _ D T' es c h' tk' hD hne hw F' N'⟩
end Mine

end
section
open PySem PySem.W PyProof.Rows PySem.Spec PySem.Calls
set_option maxRecDepth 100000
set_option maxHeartbeats 2000000
namespace Mine
section
variable {prog : Program} {w : World} {A : Around} {E : Value → Shared → Prop} {s : Shared} {env : Env}
/-- an AdaRaise stands ready to be raised -/
def AdaUp (w : World) (E : Value → Shared → Prop) (v : Value) (s₁ : Shared) : Prop :=
  ∃ e T d, v = .ref e ∧ (hd.heap_39 w.params).In s₁.heap ∧ s₁.heap.get? e = some (bareExc 51 T d) ∧ E (.ref e) s₁
theorem adaUp {h₀ : Heap} {L e T : Addr} {d : Option Addr} {m : Str → Option Value} {news : List (Addr × Obj)} (F : Fr h₀ L s.heap m) (X : (hd.heap_39 w.params).In h₀) (N : News h₀ L s.heap news) (he : (e, bareExc 51 T d) ∈ news) (h : E (.ref e) s) : AdaUp w E (.ref e) s :=
  ⟨e, T, d, rfl, X.keeps F.keep, (N _ he).1, h⟩

theorem ada_raise {e : PySem.Expr} {pos : Pos} {Q : Flow → Shared → Prop} (hh : A.handled = none)
    (h : wpAny (model prog w) A (eval e env) (AdaUp w E) E s) : wpAny (model prog w) A (exec (.Raise (some e) none pos) env) Q E s := by
  show wpAny (model prog w) A (do standAt pos; raiseStmt env (some (do let v ← eval e env; standAt pos; pure v)) none) Q E s
  refine wpAny_bind (wpAny_standAt ?_)
  have hcB : (Value.ref 51 :: adaTail).contains (.type "BaseException") = true := by decide +kernel
  unfold raiseStmt
  dsimp only
  refine wpAny_bind (wpAny_bind (wpAny_mono h (fun v s₁ h₁ => wpAny_bind (wpAny_standAt (wpAny_pure ?_))) fun _ _ x => x))
  obtain ⟨e, T, d, rfl, X, he, hE⟩ := h₁
  obtain ⟨nm, q, bs, sub, dd, k0, k1, k2, k3, k5, ec⟩ := cls51 w
  have hC := X _ _ ec
  obtain ⟨hp, g, dr, tk, os⟩ := s₁
  repeat (first | with_reducible refine wpAny_loadPart_at he ?_ | with_reducible refine wpAny_loadPart_at hC ?_ | (with_reducible refine wpAny_isSubtype_exc hC ?_; rw [hcB]) | wp_step)
  exact wpAny_raiseNew_none hh hE
end

theorem exc_out {base h₀ g h' : Heap} {l : List Env} {news : List (Addr × Obj)} {W : Str} {e L : Addr} {m : Str → Option Value} {E P : Prop}
    (hexc : Thrown base l news W e h' → h'.Ns L m → h₀.UpToSlots h' → P → E) (x : Thrown base l news W e h') (U : g.UpToSlots h') (FG : Fr h₀ L g m) (hp : P) : E := hexc x (U.ns FG.ns) ((Heap.UpToSlots.of_keeps FG.keep).trans U) hp
end Mine

end
section
open PySem PySem.W PyProof.Rows PySem.Spec PySem.Calls
set_option maxRecDepth 100000
set_option maxHeartbeats 2000000
namespace Mine
/-- x has at most k bits -/
structure Sz (k : Nat) (x : Int) : Prop where
  out : x.natAbs < 2 ^ k
theorem Sz.mono {k l : Nat} {x : Int} (h : Sz k x) (hl : k ≤ l) : Sz l x := ⟨Nat.lt_of_lt_of_le h.out (Nat.pow_le_pow_right (by decide) hl)⟩
theorem Sz.neg {k : Nat} {x : Int} (h : Sz k x) : Sz k (-x) := ⟨by rw [Int.natAbs_neg]; exact h.out⟩
theorem Sz.mul {k l : Nat} {x y : Int} (h : Sz k x) (h' : Sz l y) : Sz (k + l) (x * y) := by
  refine ⟨?_⟩
  rw [Int.natAbs_mul, Nat.pow_add]
  exact Nat.mul_lt_mul'' h.out h'.out
theorem Sz.add {k : Nat} {x y : Int} (h : Sz k x) (h' : Sz k y) : Sz (k + 1) (x + y) := by
  refine ⟨?_⟩
  have := h.out
  have := h'.out
  rw [Nat.pow_succ]
  omega
theorem Sz.sub {k : Nat} {x y : Int} (h : Sz k x) (h' : Sz k y) : Sz (k + 1) (x - y) := by
  refine ⟨?_⟩
  have := h.out
  have := h'.out
  rw [Nat.pow_succ]
  omega
theorem Sz.of_le {k : Nat} {x y : Int} (h : Sz k y) (hl : x.natAbs ≤ y.natAbs) : Sz k x := ⟨Nat.lt_of_le_of_lt hl h.out⟩
theorem Sz.bits {k : Nat} {x : Int} (h : Sz k x) : Builtin.Int.intBits x ≤ k := by
  unfold Builtin.Int.intBits
  by_cases h0 : x = 0
  · simp [h0]
  · rw [if_neg (by simpa using h0)]
    exact (Nat.log2_lt (by omega)).mpr h.out
theorem Sz.mulOk {k l : Nat} {x y : Int} (h : Sz k x) (h' : Sz l y) (hl : k + l ≤ 134217728) : IntMulOk x y := mulOk_of_bits h.bits h'.bits hl
theorem Sz.log2 {k : Nat} {x : Int} (h : Sz k x) (hk : k ≤ 9000) : x.natAbs.log2 < 9000 := by
  by_cases hx : x.natAbs = 0
  · rw [hx]; simp
  · exact Nat.lt_of_lt_of_le ((Nat.log2_lt hx).mpr h.out) hk
structure Lg (x : Int) : Prop where
  out : x.natAbs.log2 < 9000
theorem Sz.lg {k : Nat} {x : Int} (h : Sz k x) (hk : k ≤ 9000) : Lg x := ⟨h.log2 hk⟩
theorem Sz.gcd {k : Nat} {x y : Int} (h : Sz k y) (hy : y ≠ 0) : Sz k (Int.gcd x y : Int) := by
  refine h.of_le ?_
  have : Int.gcd x y ≤ y.natAbs := Nat.le_of_dvd (by omega) (Nat.gcd_dvd_right _ _)
  omega
theorem gcd_pos9 {x y : Int} (hy : y ≠ 0) : 0 < (Int.gcd x y : Int) := by
  have : 0 < Int.gcd x y := Int.gcd_pos_of_ne_zero_right _ hy
  omega

/-- the least form's top and bottom -/
def rTop (x y : Int) : Int := (if y < 0 then -x else x).fdiv (Int.gcd x y)
def rBot (x y : Int) : Int := (if y < 0 then -y else y).fdiv (Int.gcd x y)
def absI (x : Int) : Int := if x < 0 then -x else x
/-- the least form is within the greatest size -/
def BigOk (x y : Int) : Prop := absI (rTop x y) ≤ 10 ^ 700 ∧ rBot x y ≤ 10 ^ 700
abbrev tup2 (p : Int) (t1 : Tok) (q : Int) (t2 : Tok) (c : Nat) : Obj := { cls := .type "tuple", data := .seq [Value.int p t1, .int q t2].toArray c }
/-- a new pair of ints comes back -/
def TupBack (p q : Int) (news : List (Addr × Obj)) (r : Value) (n : List (Addr × Obj)) : Prop := ∃ D t1 t2 c, r = .ref D ∧ AllLt D news ∧ n = (D, tup2 p t1 q t2 c) :: news
section
variable {x y g G : Int}
theorem gcd_negs (x y : Int) : Int.gcd (-x) (-y) = Int.gcd x y := by rw [Int.neg_gcd, Int.gcd_neg]
theorem top_neg (e : g = (Int.gcd (-x) (-y) : Int)) (hy : y < 0) : (-x).fdiv g = rTop x y := by rw [e, gcd_negs]; unfold rTop; rw [if_pos hy]
theorem bot_neg (e : g = (Int.gcd (-x) (-y) : Int)) (hy : y < 0) : (-y).fdiv g = rBot x y := by rw [e, gcd_negs]; unfold rBot; rw [if_pos hy]
theorem top_pos (e : g = (Int.gcd x y : Int)) (hy : ¬ y < 0) : x.fdiv g = rTop x y := by rw [e]; unfold rTop; rw [if_neg hy]
theorem bot_pos (e : g = (Int.gcd x y : Int)) (hy : ¬ y < 0) : y.fdiv g = rBot x y := by rw [e]; unfold rBot; rw [if_neg hy]
theorem big1_neg (e : g = (Int.gcd (-x) (-y) : Int)) (hy : y < 0) (h : G < if (-x).fdiv g < 0 then -(-x).fdiv g else (-x).fdiv g) (hG : G = 10 ^ 700) : ¬ BigOk x y := fun z => by
  rw [top_neg e hy, hG] at h; exact absurd z.1 (Int.not_le.mpr h)
theorem big2_neg (e : g = (Int.gcd (-x) (-y) : Int)) (hy : y < 0) (h : G < (-y).fdiv g) (hG : G = 10 ^ 700) : ¬ BigOk x y := fun z => by
  rw [bot_neg e hy, hG] at h; exact absurd z.2 (Int.not_le.mpr h)
theorem big1_pos (e : g = (Int.gcd x y : Int)) (hy : ¬ y < 0) (h : G < if x.fdiv g < 0 then -x.fdiv g else x.fdiv g) (hG : G = 10 ^ 700) : ¬ BigOk x y := fun z => by
  rw [top_pos e hy, hG] at h; exact absurd z.1 (Int.not_le.mpr h)
theorem big2_pos (e : g = (Int.gcd x y : Int)) (hy : ¬ y < 0) (h : G < y.fdiv g) (hG : G = 10 ^ 700) : ¬ BigOk x y := fun z => by
  rw [bot_pos e hy, hG] at h; exact absurd z.2 (Int.not_le.mpr h)
theorem made_neg {news : List (Addr × Obj)} {D : Addr} {t1 t2 : Tok} {c : Nat} (e : g = (Int.gcd (-x) (-y) : Int)) (hy : y < 0) (h1 : ¬ G < if (-x).fdiv g < 0 then -(-x).fdiv g else (-x).fdiv g) (h2 : ¬ G < (-y).fdiv g) (hl : ∀ p ∈ news, p.1 < D) (hG : G = 10 ^ 700) :
    y ≠ 0 ∧ BigOk x y ∧ TupBack (rTop x y) (rBot x y) news (.ref D) ((D, tup2 ((-x).fdiv g) t1 ((-y).fdiv g) t2 c) :: news) := by
  rw [top_neg e hy, hG] at h1
  rw [bot_neg e hy, hG] at h2
  rw [top_neg e hy, bot_neg e hy]
  exact ⟨by omega, ⟨Int.not_lt.mp h1, Int.not_lt.mp h2⟩, D, t1, t2, c, rfl, allLt_of hl, rfl⟩
theorem made_pos {news : List (Addr × Obj)} {D : Addr} {t1 t2 : Tok} {c : Nat} (e : g = (Int.gcd x y : Int)) (hy : ¬ y < 0) (h0 : y ≠ 0) (h1 : ¬ G < if x.fdiv g < 0 then -x.fdiv g else x.fdiv g) (h2 : ¬ G < y.fdiv g) (hl : ∀ p ∈ news, p.1 < D) (hG : G = 10 ^ 700) :
    y ≠ 0 ∧ BigOk x y ∧ TupBack (rTop x y) (rBot x y) news (.ref D) ((D, tup2 (x.fdiv g) t1 (y.fdiv g) t2 c) :: news) := by
  rw [top_pos e hy, hG] at h1
  rw [bot_pos e hy, hG] at h2
  rw [top_pos e hy, bot_pos e hy]
  exact ⟨h0, ⟨Int.not_lt.mp h1, Int.not_lt.mp h2⟩, D, t1, t2, c, rfl, allLt_of hl, rfl⟩
end
end Mine

end
section
open PySem PySem.W PyProof.Rows PySem.Spec PySem.Calls
set_option maxRecDepth 100000
set_option maxHeartbeats 2000000
namespace Mine
def MkPost (x y : Int) (news : List (Addr × Obj)) (r : Value) (n : List (Addr × Obj)) : Prop := y ≠ 0 ∧ BigOk x y ∧ TupBack (rTop x y) (rBot x y) news r n
def MkExc (x y : Int) (W : Str) : Prop := (y = 0 ∧ W = Str.ofString "constraint_error") ∨ (y ≠ 0 ∧ ¬ BigOk x y ∧ W = Str.ofString "storage_error")
def IntBack (x : Int) (news : List (Addr × Obj)) (r : Value) (n : List (Addr × Obj)) : Prop := n = news ∧ ∃ t, r = .int x t
def BoolBack (x : Bool) (news : List (Addr × Obj)) (r : Value) (n : List (Addr × Obj)) : Prop := n = news ∧ r = .bool x
def SomeInt (news : List (Addr × Obj)) (r : Value) (n : List (Addr × Obj)) : Prop := n = news ∧ ∃ x t, r = .int x t
section
variable {w : World} {f : Addr} {k : Nat} {vs : List Value} {news : List (Addr × Obj)}
    {loose : List Str} {mean : ExcName → Option Value} {mg mb : Str → Option Value} {dp un : Nat} {gd : Option (List Code)} {cn : Str} {cs : Scope} {a : Addr} {ccd : Value} {cl : List (Str × Addr)} {outer : List Env} {A₀ : Around} {base : Heap} {h₀ : Heap} {L : Addr} {m : Str → Option Value} {s : Shared} {R E : Value → Shared → Prop}
theorem use_mk {x y : Int} (C : Does w f k vs news (MkPost x y news) (MkExc x y)) (B : Below A₀ base outer h₀) (F : Fr h₀ L s.heap m) (X : (hd.heap_39 w.params).In h₀) (N : News h₀ L s.heap news) (T : Top hd.view_39 loose mean mg mb h₀) (hk : cs.kind = .function) (hd : dp + k < recursionLimit) (hu : un + 8 * k < cLine)
    (ret : ∀ D t u c h' tk', y ≠ 0 → BigOk x y → AllLt D news → Fr h₀ L h' m → News h₀ L h' ((D, tup2 (rTop x y) t (rBot x y) u c) :: news) → R (.ref D) { s with heap := h', toks := tk' })
    (exc : ∀ e W h' tk', Thrown base (envX cn cs L a ccd cl :: outer) news W e h' → h'.Ns L m → h₀.UpToSlots h' → MkExc x y W → E (.ref e) { s with heap := h', toks := tk' }) : wpAny (model PySem.Challenge.rw_pq0001_01.row.prog w) (ktrTop dp un gd cn cs L a ccd cl outer) (call (.ref f) vs) R E s := by
  refine Does.use C B F X N T hk hd hu (fun r n h' tk' F' N' P => ?_) exc
  obtain ⟨o1, o2, D, t, u, c, rfl, l, rfl⟩ := P
  exact ret D t u c h' tk' o1 o2 l F' N'
theorem use_tupx {Φ : Prop} {P Q : Int} {EP : Str → Prop} (C : Does w f k vs news (fun r n => Φ ∧ TupBack P Q news r n) EP) (B : Below A₀ base outer h₀) (F : Fr h₀ L s.heap m) (X : (hd.heap_39 w.params).In h₀) (N : News h₀ L s.heap news) (T : Top hd.view_39 loose mean mg mb h₀) (hk : cs.kind = .function) (hd : dp + k < recursionLimit) (hu : un + 8 * k < cLine)
    (ret : ∀ D t u c h' tk', Φ → AllLt D news → Fr h₀ L h' m → News h₀ L h' ((D, tup2 P t Q u c) :: news) → R (.ref D) { s with heap := h', toks := tk' })
    (exc : ∀ e W h' tk', Thrown base (envX cn cs L a ccd cl :: outer) news W e h' → h'.Ns L m → h₀.UpToSlots h' → EP W → E (.ref e) { s with heap := h', toks := tk' }) : wpAny (model PySem.Challenge.rw_pq0001_01.row.prog w) (ktrTop dp un gd cn cs L a ccd cl outer) (call (.ref f) vs) R E s := by
  refine Does.use C B F X N T hk hd hu (fun r n h' tk' F' N' P => ?_) exc
  obtain ⟨o, D, t, u, c, rfl, l, rfl⟩ := P
  exact ret D t u c h' tk' o l F' N'
theorem use_tup {Φ : Int → Int → Prop} (C : Does w f k vs news (fun r n => ∃ P Q, Φ P Q ∧ TupBack P Q news r n) (fun _ => False)) (B : Below A₀ base outer h₀) (F : Fr h₀ L s.heap m) (X : (hd.heap_39 w.params).In h₀) (N : News h₀ L s.heap news) (T : Top hd.view_39 loose mean mg mb h₀) (hk : cs.kind = .function) (hd : dp + k < recursionLimit) (hu : un + 8 * k < cLine)
    (ret : ∀ P Q D t u c h' tk', Φ P Q → AllLt D news → Fr h₀ L h' m → News h₀ L h' ((D, tup2 P t Q u c) :: news) → R (.ref D) { s with heap := h', toks := tk' }) : wpAny (model PySem.Challenge.rw_pq0001_01.row.prog w) (ktrTop dp un gd cn cs L a ccd cl outer) (call (.ref f) vs) R E s := by
  refine Does.use C B F X N T hk hd hu (fun r n h' tk' F' N' P => ?_) (fun _ _ _ _ _ _ _ h => h.elim)
  obtain ⟨P, Q, hφ, D, t, u, c, rfl, l, rfl⟩ := P
  exact ret P Q D t u c h' tk' hφ l F' N'
theorem use_tup2 {Φ Ψ : Int → Int → Prop} (C : Does w f k vs news (fun r n => ∃ P Q, (Φ P Q ∧ Ψ P Q) ∧ TupBack P Q news r n) (fun _ => False)) (B : Below A₀ base outer h₀) (F : Fr h₀ L s.heap m) (X : (hd.heap_39 w.params).In h₀) (N : News h₀ L s.heap news) (T : Top hd.view_39 loose mean mg mb h₀) (hk : cs.kind = .function) (hd : dp + k < recursionLimit) (hu : un + 8 * k < cLine)
    (ret : ∀ P Q D t u c h' tk', Φ P Q → Ψ P Q → AllLt D news → Fr h₀ L h' m → News h₀ L h' ((D, tup2 P t Q u c) :: news) → R (.ref D) { s with heap := h', toks := tk' }) : wpAny (model PySem.Challenge.rw_pq0001_01.row.prog w) (ktrTop dp un gd cn cs L a ccd cl outer) (call (.ref f) vs) R E s := by
  refine Does.use C B F X N T hk hd hu (fun r n h' tk' F' N' P => ?_) (fun _ _ _ _ _ _ _ h => h.elim)
  obtain ⟨P, Q, ⟨o1, o2⟩, D, t, u, c, rfl, l, rfl⟩ := P
  exact ret P Q D t u c h' tk' o1 o2 l F' N'
theorem use_tup3 {Φ Ψ Ξ : Int → Int → Prop} (C : Does w f k vs news (fun r n => ∃ P Q, (Φ P Q ∧ Ψ P Q ∧ Ξ P Q) ∧ TupBack P Q news r n) (fun _ => False)) (B : Below A₀ base outer h₀) (F : Fr h₀ L s.heap m) (X : (hd.heap_39 w.params).In h₀) (N : News h₀ L s.heap news) (T : Top hd.view_39 loose mean mg mb h₀) (hk : cs.kind = .function) (hd : dp + k < recursionLimit) (hu : un + 8 * k < cLine)
    (ret : ∀ P Q D t u c h' tk', Φ P Q → Ψ P Q → Ξ P Q → AllLt D news → Fr h₀ L h' m → News h₀ L h' ((D, tup2 P t Q u c) :: news) → R (.ref D) { s with heap := h', toks := tk' }) : wpAny (model PySem.Challenge.rw_pq0001_01.row.prog w) (ktrTop dp un gd cn cs L a ccd cl outer) (call (.ref f) vs) R E s := by
  refine Does.use C B F X N T hk hd hu (fun r n h' tk' F' N' P => ?_) (fun _ _ _ _ _ _ _ h => h.elim)
  obtain ⟨P, Q, ⟨o1, o2, o3⟩, D, t, u, c, rfl, l, rfl⟩ := P
  exact ret P Q D t u c h' tk' o1 o2 o3 l F' N'
theorem use_tup0 {P Q : Int} (C : Does w f k vs news (fun r n => TupBack P Q news r n) (fun _ => False)) (B : Below A₀ base outer h₀) (F : Fr h₀ L s.heap m) (X : (hd.heap_39 w.params).In h₀) (N : News h₀ L s.heap news) (T : Top hd.view_39 loose mean mg mb h₀) (hk : cs.kind = .function) (hd : dp + k < recursionLimit) (hu : un + 8 * k < cLine)
    (ret : ∀ D t u c h' tk', AllLt D news → Fr h₀ L h' m → News h₀ L h' ((D, tup2 P t Q u c) :: news) → R (.ref D) { s with heap := h', toks := tk' }) : wpAny (model PySem.Challenge.rw_pq0001_01.row.prog w) (ktrTop dp un gd cn cs L a ccd cl outer) (call (.ref f) vs) R E s := by
  refine Does.use C B F X N T hk hd hu (fun r n h' tk' F' N' P => ?_) (fun _ _ _ _ _ _ _ h => h.elim)
  obtain ⟨D, t, u, c, rfl, l, rfl⟩ := P
  exact ret D t u c h' tk' l F' N'
theorem use_bool {b : Bool} (C : Does w f k vs news (BoolBack b news) (fun _ => False)) (B : Below A₀ base outer h₀) (F : Fr h₀ L s.heap m) (X : (hd.heap_39 w.params).In h₀) (N : News h₀ L s.heap news) (T : Top hd.view_39 loose mean mg mb h₀) (hk : cs.kind = .function) (hd : dp + k < recursionLimit) (hu : un + 8 * k < cLine)
    (ret : ∀ h' tk', Fr h₀ L h' m → News h₀ L h' news → R (.bool b) { s with heap := h', toks := tk' }) : wpAny (model PySem.Challenge.rw_pq0001_01.row.prog w) (ktrTop dp un gd cn cs L a ccd cl outer) (call (.ref f) vs) R E s := by
  refine Does.use C B F X N T hk hd hu (fun r n h' tk' F' N' P => ?_) (fun _ _ _ _ _ _ _ h => h.elim)
  obtain ⟨rfl, rfl⟩ := P
  exact ret h' tk' F' N'
theorem use_int  (C : Does w f k vs news (SomeInt news) (fun _ => False)) (B : Below A₀ base outer h₀) (F : Fr h₀ L s.heap m) (X : (hd.heap_39 w.params).In h₀) (N : News h₀ L s.heap news) (T : Top hd.view_39 loose mean mg mb h₀) (hk : cs.kind = .function) (hd : dp + k < recursionLimit) (hu : un + 8 * k < cLine)
    (ret : ∀ x t h' tk', Fr h₀ L h' m → News h₀ L h' news → R (.int x t) { s with heap := h', toks := tk' }) : wpAny (model PySem.Challenge.rw_pq0001_01.row.prog w) (ktrTop dp un gd cn cs L a ccd cl outer) (call (.ref f) vs) R E s := by
  refine Does.use C B F X N T hk hd hu (fun r n h' tk' F' N' P => ?_) (fun _ _ _ _ _ _ _ h => h.elim)
  obtain ⟨rfl, x, t, rfl⟩ := P
  exact ret x t h' tk' F' N'
theorem use_ord {x : Int} (C : Does w f k vs news (IntBack x news) (fun _ => False)) (B : Below A₀ base outer h₀) (F : Fr h₀ L s.heap m) (X : (hd.heap_39 w.params).In h₀) (N : News h₀ L s.heap news) (T : Top hd.view_39 loose mean mg mb h₀) (hk : cs.kind = .function) (hd : dp + k < recursionLimit) (hu : un + 8 * k < cLine)
    (ret : ∀ t h' tk', Fr h₀ L h' m → News h₀ L h' news → R (.int x t) { s with heap := h', toks := tk' }) : wpAny (model PySem.Challenge.rw_pq0001_01.row.prog w) (ktrTop dp un gd cn cs L a ccd cl outer) (call (.ref f) vs) R E s := by
  refine Does.use C B F X N T hk hd hu (fun r n h' tk' F' N' P => ?_) (fun _ _ _ _ _ _ _ h => h.elim)
  obtain ⟨rfl, t, rfl⟩ := P
  exact ret t h' tk' F' N'
theorem use_int3 {Φ Ψ Ξ : Int → Prop} (C : Does w f k vs news (fun r n => n = news ∧ ∃ d t, r = .int d t ∧ Φ d ∧ Ψ d ∧ Ξ d) (fun _ => False)) (B : Below A₀ base outer h₀) (F : Fr h₀ L s.heap m) (X : (hd.heap_39 w.params).In h₀) (N : News h₀ L s.heap news) (T : Top hd.view_39 loose mean mg mb h₀) (hk : cs.kind = .function) (hd : dp + k < recursionLimit) (hu : un + 8 * k < cLine)
    (ret : ∀ d t h' tk', Φ d → Ψ d → Ξ d → Fr h₀ L h' m → News h₀ L h' news → R (.int d t) { s with heap := h', toks := tk' }) : wpAny (model PySem.Challenge.rw_pq0001_01.row.prog w) (ktrTop dp un gd cn cs L a ccd cl outer) (call (.ref f) vs) R E s := by
  refine Does.use C B F X N T hk hd hu (fun r n h' tk' F' N' P => ?_) (fun _ _ _ _ _ _ _ h => h.elim)
  obtain ⟨rfl, d, t, rfl, o0, o1, o2⟩ := P
  exact ret d t h' tk' o0 o1 o2 F' N'
theorem use_int4 {Φ Ψ Ξ Θ : Int → Prop} (C : Does w f k vs news (fun r n => n = news ∧ ∃ d t, r = .int d t ∧ Φ d ∧ Ψ d ∧ Ξ d ∧ Θ d) (fun _ => False)) (B : Below A₀ base outer h₀) (F : Fr h₀ L s.heap m) (X : (hd.heap_39 w.params).In h₀) (N : News h₀ L s.heap news) (T : Top hd.view_39 loose mean mg mb h₀) (hk : cs.kind = .function) (hd : dp + k < recursionLimit) (hu : un + 8 * k < cLine)
    (ret : ∀ d t h' tk', Φ d → Ψ d → Ξ d → Θ d → Fr h₀ L h' m → News h₀ L h' news → R (.int d t) { s with heap := h', toks := tk' }) : wpAny (model PySem.Challenge.rw_pq0001_01.row.prog w) (ktrTop dp un gd cn cs L a ccd cl outer) (call (.ref f) vs) R E s := by
  refine Does.use C B F X N T hk hd hu (fun r n h' tk' F' N' P => ?_) (fun _ _ _ _ _ _ _ h => h.elim)
  obtain ⟨rfl, d, t, rfl, o0, o1, o2, o3⟩ := P
  exact ret d t h' tk' o0 o1 o2 o3 F' N'
theorem use_int6 {Φ Ψ Ξ Θ Λ Ω : Int → Prop} (C : Does w f k vs news (fun r n => n = news ∧ ∃ d t, r = .int d t ∧ Φ d ∧ Ψ d ∧ Ξ d ∧ Θ d ∧ Λ d ∧ Ω d) (fun _ => False)) (B : Below A₀ base outer h₀) (F : Fr h₀ L s.heap m) (X : (hd.heap_39 w.params).In h₀) (N : News h₀ L s.heap news) (T : Top hd.view_39 loose mean mg mb h₀) (hk : cs.kind = .function) (hd : dp + k < recursionLimit) (hu : un + 8 * k < cLine)
    (ret : ∀ d t h' tk', Φ d → Ψ d → Ξ d → Θ d → Λ d → Ω d → Fr h₀ L h' m → News h₀ L h' news → R (.int d t) { s with heap := h', toks := tk' }) : wpAny (model PySem.Challenge.rw_pq0001_01.row.prog w) (ktrTop dp un gd cn cs L a ccd cl outer) (call (.ref f) vs) R E s := by
  refine Does.use C B F X N T hk hd hu (fun r n h' tk' F' N' P => ?_) (fun _ _ _ _ _ _ _ h => h.elim)
  obtain ⟨rfl, d, t, rfl, o0, o1, o2, o3, o4, o5⟩ := P
  exact ret d t h' tk' o0 o1 o2 o3 o4 o5 F' N'
end
end Mine

end
section
open PySem PySem.W PyProof.Rows PySem.Spec PySem.Calls
set_option maxRecDepth 100000
set_option maxHeartbeats 2000000
namespace Mine
local macro_rules | `(tactic| walk_at "s9") => `(tactic| first | exact Sz.neg (by with_reducible assumption) | omega)
local macro_rules | `(tactic| walk_at "exec Raise some none") => `(tactic| (k_here; (with_reducible show wpAny _ _ (exec (Stmt.Raise (some (Expr.Call (Expr.Name _ _) (_ :: _) [] _)) none _) _) _ _ _); refine ada_raise rfl ?_))
theorem six (_ _ _ _ _ _ : True) : True := trivial
theorem use_made {w : World} {W tx : Str} {k : Int} {tk1 tk2 tk3 : Tok} {news : List (Addr × Obj)} {loose : List Str} {mean : ExcName → Option Value} {mg mb : Str → Option Value} {dp un : Nat} {gd : Option (List Code)} {cn : Str} {cs : Scope} {a : Addr} {ccd : Value} {cl : List (Str × Addr)} {outer : List Env} {A₀ : Around} {base h₀ : Heap} {L : Addr} {m : Str → Option Value} {s : Shared} {Q E : Value → Shared → Prop}
    (_ : True) (B : Below A₀ base outer h₀) (F : Fr h₀ L s.heap m) (X : (hd.heap_39 w.params).In h₀) (N : News h₀ L s.heap news) (T : Top hd.view_39 loose mean mg mb h₀) (hk : cs.kind = .function) (hd : dp + 4 < recursionLimit) (hu : un + 32 < cLine)
    (ret : ∀ e D T es c h' tk', AllLt D ((e, bareExc 51 T (some D)) :: news) → (∀ p ∈ news, p.1 ≠ e) → getL "word" es = some (some (.str W tk1)) → Fr h₀ L h' m → News h₀ L h' ((D, dictOf es c) :: (e, bareExc 51 T (some D)) :: news) → Q (.ref e) { s with heap := h', toks := tk' }) :
    wpAny (model PySem.Challenge.rw_pq0001_01.row.prog w) (ktrTop dp un gd cn cs L a ccd cl outer) (call (.ref 51) [.str W tk1, .int k tk2, .str tx tk3]) Q E s := ada_made B F X N T hk hd hu ret
local macro_rules | `(tactic| walk_at "call ref") => `(tactic| (k_here; (with_reducible show wpAny _ _ (call (Value.ref 51) _) _ _ _); k_dflt (refine' use_made (six ?s1 ?s2 ?s3 ?s4 ?s5 ?s6) ?k1 ?k2 ?k3 ?k4 ?k5 ?kK ?kd ?ku ?_; (case k4 => k_asm); (case s1 => walk_at "s9"); (case s2 => walk_at "s9"); (case s3 => walk_at "s9"); (case s4 => walk_at "s9"); (case s5 => walk_at "s9"); (case s6 => walk_at "z9"); (case k1 => k_asm); (case k2 => k_asm); (case k3 => k_asm); (case k5 => k_asm); (case kK => exact rfl); (case kd => ktr_room); (case ku => ktr_units); k_whole); intros; (try dsimp only); (try k_fold)))
local macro_rules | `(tactic| walk_at "AdaUp") => `(tactic| (k_here; k_dflt (refine' adaUp ?k1 ?k2 ?k3 ?k4 ?_; (case k1 => k_asm); (case k2 => k_asm); (case k3 => k_asm); (case k4 => k_mem); k_whole); (try dsimp only); (try k_fold)))
local macro_rules | `(tactic| walk_at "leaving ref") => `(tactic| (k_here; k_dflt (refine' thrown_first ?k1 ?k2 ?k3 ?k4 ?k5 ?k6 ?k7 _ ?k8 ?k9 ?_ ?k0; (case k9 => assumption); (case k1 => k_asm); (case k2 => k_asm); (case k3 => k_asm); (case k7 => assumption); (case k5 => k_mem); (case k4 => k_mem); (case k6 => exact rfl); (case k8 => exact fun _ h => List.mem_cons_of_mem _ (List.mem_cons_of_mem _ h)); (case k0 => exact rfl); k_whole); intro h9 TH9 UH9; (try dsimp only); (try k_fold)))
theorem divisor_nz {w : World} {x y : Int} {tx ty : Tok} {news : List (Addr × Obj)} (hs : Sz 9000 y) (hy : y ≠ 0) (_ _ _ _ : True) :
    Does w 60 1 [.int x tx, .int y ty] news (fun r n => n = news ∧ ∃ g t, r = .int g t ∧ g = (Int.gcd x y : Int) ∧ 0 < g ∧ Lg g) (fun _ => False) :=
  (divisor_does w x y tx ty news).mono (fun _ _ ⟨e, t, h⟩ => ⟨e, _, t, h, rfl, gcd_pos9 hy, (Sz.gcd hs hy).lg (by decide)⟩) (fun _ h => h)
local macro_rules | `(tactic| walk_at "call ref") => `(tactic| (k_here; (with_reducible show wpAny _ _ (call (Value.ref 60) _) _ _ _); k_dflt (refine' use_int3 (divisor_nz ?s1 ?s2 ?s3 ?s4 ?s5 ?s6) ?k1 ?k2 ?k3 ?k4 ?k5 ?kK ?kd ?ku ?_; (case k4 => k_asm); (case s1 => walk_at "s9"); (case s2 => walk_at "s9"); (case s3 => walk_at "s9"); (case s4 => walk_at "s9"); (case s5 => walk_at "s9"); (case s6 => walk_at "z9"); (case k1 => k_asm); (case k2 => k_asm); (case k3 => k_asm); (case k5 => k_asm); (case kK => exact rfl); (case kd => ktr_room); (case ku => ktr_units); k_whole); intros; (try dsimp only); (try k_fold)))
local macro_rules | `(tactic| walk_at "binaryOp FloorDiv int int") => `(tactic| (k_here; (with_reducible refine floordiv_int ?hb ?_ (Or.inl (PyProof.noPylong_of_log2 ?hp))); (case hp => exact Lg.out (by assumption)); (case hb => omega); (try dsimp only)))

theorem make_does (w : World) (x y : Int) (tx ty : Tok) (news : List (Addr × Obj)) (hs : Sz 9000 y) :
    Does w 67 6 [.int x tx, .int y ty] news (fun r n => y ≠ 0 ∧ BigOk x y ∧ TupBack (rTop x y) (rBot x y) news r n)
      (fun W => (y = 0 ∧ W = Str.ofString "constraint_error") ∨ (y ≠ 0 ∧ ¬ BigOk x y ∧ W = Str.ofString "storage_error")) := by
  unfold Does
  k_fill
  intro loose mean mg mb dp un gd cn cs a ccd cl outer A₀ base h₀ L m s Q E B F X N T hk hdp hun hret hexc
  refine wpAny_call ?_
  k_dflt cell_enter
  k_steps
  · exact exc_out (hexc _ _ _ _) (by assumption) (by assumption) (by assumption) (by exact Or.inl ⟨by assumption, rfl⟩)
  · exact exc_out (hexc _ _ _ _) (by assumption) (by assumption) (by assumption) (by exact Or.inr ⟨by assumption, big1_neg (by assumption) (by assumption) (by assumption) (by decide +kernel), rfl⟩)
  · exact exc_out (hexc _ _ _ _) (by assumption) (by assumption) (by assumption) (by exact Or.inr ⟨by assumption, big2_neg (by assumption) (by assumption) (by assumption) (by decide +kernel), rfl⟩)
  · exact hret _ _ _ _ (by k_asm) (by k_asm) (made_neg (by assumption) (by assumption) (by assumption) (by assumption) (by assumption) (by decide +kernel))
  · exact exc_out (hexc _ _ _ _) (by assumption) (by assumption) (by assumption) (by exact Or.inr ⟨by assumption, big1_pos (by assumption) (by assumption) (by assumption) (by decide +kernel), rfl⟩)
  · exact exc_out (hexc _ _ _ _) (by assumption) (by assumption) (by assumption) (by exact Or.inr ⟨by assumption, big2_pos (by assumption) (by assumption) (by assumption) (by decide +kernel), rfl⟩)
  · exact hret _ _ _ _ (by k_asm) (by k_asm) (made_pos (by assumption) (by assumption) (by assumption) (by assumption) (by assumption) (by assumption) (by decide +kernel))
end Mine

end
section
open PySem PySem.W PyProof.Rows PySem.Spec PySem.Calls
set_option maxRecDepth 100000
set_option maxHeartbeats 2000000
namespace Mine
local macro_rules | `(tactic| walk_at "s9") => `(tactic| exact (Sz.mul (by with_reducible assumption) (by with_reducible assumption)).mono (by decide))
local macro_rules | `(tactic| walk_at "binaryOp FloorDiv int int") => `(tactic| (k_here; (with_reducible refine floordiv_int ?hb ?_ (Or.inl (PyProof.noPylong_of_log2 ?hp))); (case hp => exact Lg.out (by assumption)); (case hb => omega); (try dsimp only)))
theorem make9 {w : World} {x y : Int} {tx ty : Tok} {news : List (Addr × Obj)} (hs : Sz 9000 y) (_ _ _ _ _ : True) : Does w 67 6 [.int x tx, .int y ty] news (MkPost x y news) (MkExc x y) := make_does w x y tx ty news hs
local macro_rules | `(tactic| walk_at "call ref") => `(tactic| (k_here; (with_reducible show wpAny _ _ (call (Value.ref 67) _) _ _ _); k_dflt (refine' use_mk (make9 ?s1 ?s2 ?s3 ?s4 ?s5 ?s6) ?k1 ?k2 ?k3 ?k4 ?k5 ?kK ?kd ?ku ?_ ?_; (case k4 => k_asm); (case s1 => walk_at "s9"); (case s2 => walk_at "s9"); (case s3 => walk_at "s9"); (case s4 => walk_at "s9"); (case s5 => walk_at "s9"); (case s6 => walk_at "z9"); (case k1 => k_asm); (case k2 => k_asm); (case k3 => k_asm); (case k5 => k_asm); (case kK => exact rfl); (case kd => ktr_room); (case ku => ktr_units)); (all_goals (intros; (try dsimp only); (try k_fold)))))
local macro_rules | `(tactic| walk_at "leaving ref") => `(tactic| (k_here; k_dflt (refine' thrown_leave ?k1 ?k2 ?k3 ?_; (case k2 => assumption); (case k1 => k_asm); (case k3 => assumption); k_whole); intro h9 TH9 UH9; (try dsimp only); (try k_fold)))
local macro_rules | `(tactic| walk_at "binaryOp Mult int int") => `(tactic| (k_here; (with_reducible refine' PyProof.Rows.mul_int ?_ (Sz.mulOk ?kma ?kmb ?kmc)); (case kma => assumption); (case kmb => assumption); (case kmc => decide); (try dsimp only)))

theorem sum_does (w : World) (a b : Addr) (p q p' q' : Int) (t1 t2 t1' t2' : Tok) (c c' : Nat) (news : List (Addr × Obj)) (ha : (a, tup2 p t1 q t2 c) ∈ news) (hb : (b, tup2 p' t1' q' t2' c') ∈ news)
    (s1 : Sz 2400 p) (s2 : Sz 2400 q) (s3 : Sz 2400 p') (s4 : Sz 2400 q') :
    Does w 74 8 [.ref a, .ref b] news (MkPost (p * q' + p' * q) (q * q') news) (MkExc (p * q' + p' * q) (q * q')) := by
  unfold Does
  k_fill
  intro loose mean mg mb dp un gd cn cs a ccd cl outer A₀ base h₀ L m s Q E B F X N T hk hdp hun hret hexc
  refine wpAny_call ?_
  k_dflt cell_enter
  k_steps
  all_goals first
    | exact exc_out (hexc _ _ _ _) (by assumption) (by assumption) (by assumption) (by assumption)
    | exact hret _ _ _ _ (by k_asm) (by k_asm) ⟨by assumption, by assumption, _, _, _, _, rfl, by assumption, rfl⟩

theorem difference_does (w : World) (a b : Addr) (p q p' q' : Int) (t1 t2 t1' t2' : Tok) (c c' : Nat) (news : List (Addr × Obj)) (ha : (a, tup2 p t1 q t2 c) ∈ news) (hb : (b, tup2 p' t1' q' t2' c') ∈ news)
    (s1 : Sz 2400 p) (s2 : Sz 2400 q) (s3 : Sz 2400 p') (s4 : Sz 2400 q') :
    Does w 81 8 [.ref a, .ref b] news (MkPost (p * q' - p' * q) (q * q') news) (MkExc (p * q' - p' * q) (q * q')) := by
  unfold Does
  k_fill
  intro loose mean mg mb dp un gd cn cs a ccd cl outer A₀ base h₀ L m s Q E B F X N T hk hdp hun hret hexc
  refine wpAny_call ?_
  k_dflt cell_enter
  k_steps
  all_goals first
    | exact exc_out (hexc _ _ _ _) (by assumption) (by assumption) (by assumption) (by assumption)
    | exact hret _ _ _ _ (by k_asm) (by k_asm) ⟨by assumption, by assumption, _, _, _, _, rfl, by assumption, rfl⟩

theorem product_does (w : World) (a b : Addr) (p q p' q' : Int) (t1 t2 t1' t2' : Tok) (c c' : Nat) (news : List (Addr × Obj)) (ha : (a, tup2 p t1 q t2 c) ∈ news) (hb : (b, tup2 p' t1' q' t2' c') ∈ news)
    (s1 : Sz 2400 p) (s2 : Sz 2400 q) (s3 : Sz 2400 p') (s4 : Sz 2400 q') :
    Does w 88 8 [.ref a, .ref b] news (MkPost (p * p') (q * q') news) (MkExc (p * p') (q * q')) := by
  unfold Does
  k_fill
  intro loose mean mg mb dp un gd cn cs a ccd cl outer A₀ base h₀ L m s Q E B F X N T hk hdp hun hret hexc
  refine wpAny_call ?_
  k_dflt cell_enter
  k_steps
  all_goals first
    | exact exc_out (hexc _ _ _ _) (by assumption) (by assumption) (by assumption) (by assumption)
    | exact hret _ _ _ _ (by k_asm) (by k_asm) ⟨by assumption, by assumption, _, _, _, _, rfl, by assumption, rfl⟩

theorem quotient_does (w : World) (a b : Addr) (p q p' q' : Int) (t1 t2 t1' t2' : Tok) (c c' : Nat) (news : List (Addr × Obj)) (ha : (a, tup2 p t1 q t2 c) ∈ news) (hb : (b, tup2 p' t1' q' t2' c') ∈ news)
    (s1 : Sz 2400 p) (s2 : Sz 2400 q) (s3 : Sz 2400 p') (s4 : Sz 2400 q') :
    Does w 95 8 [.ref a, .ref b] news (MkPost (p * q') (q * p') news) (MkExc (p * q') (q * p')) := by
  unfold Does
  k_fill
  intro loose mean mg mb dp un gd cn cs a ccd cl outer A₀ base h₀ L m s Q E B F X N T hk hdp hun hret hexc
  refine wpAny_call ?_
  k_dflt cell_enter
  k_steps
  all_goals first
    | exact exc_out (hexc _ _ _ _) (by assumption) (by assumption) (by assumption) (by assumption)
    | exact hret _ _ _ _ (by k_asm) (by k_asm) ⟨by assumption, by assumption, _, _, _, _, rfl, by assumption, rfl⟩

theorem negated_does (w : World) (a : Addr) (p q : Int) (t1 t2 : Tok) (c : Nat) (news : List (Addr × Obj)) (ha : (a, tup2 p t1 q t2 c) ∈ news) :
    Does w 102 2 [.ref a] news (fun r n => TupBack (-p) q news r n) (fun _ => False) := by
  unfold Does
  k_fill
  intro loose mean mg mb dp un gd cn cs a ccd cl outer A₀ base h₀ L m s Q E B F X N T hk hdp hun hret hexc
  refine wpAny_call ?_
  k_dflt cell_enter
  k_steps
  all_goals exact hret _ _ _ _ (by k_asm) (by k_asm) ⟨_, _, _, _, rfl, allLt_of (by assumption), rfl⟩

theorem intBack {x y : Int} {t : Tok} {news : List (Addr × Obj)} (e : x = y) : IntBack y news (.int x t) news := ⟨rfl, t, by rw [e]⟩
theorem floor_does (w : World) (a : Addr) (p q : Int) (t1 t2 : Tok) (c : Nat) (news : List (Addr × Obj)) (ha : (a, tup2 p t1 q t2 c) ∈ news) (hq : 0 < q) (hl : Lg q) :
    Does w 123 2 [.ref a] news (IntBack (p.fdiv q) news) (fun _ => False) := by
  unfold Does
  k_fill
  intro loose mean mg mb dp un gd cn cs a ccd cl outer A₀ base h₀ L m s Q E B F X N T hk hdp hun hret hexc
  refine wpAny_call ?_
  k_dflt cell_enter
  k_steps
  all_goals exact hret _ _ _ _ (by k_asm) (by k_asm) (intBack rfl)

theorem toward_does (w : World) (a : Addr) (p q : Int) (t1 t2 : Tok) (c : Nat) (news : List (Addr × Obj)) (ha : (a, tup2 p t1 q t2 c) ∈ news) (hq : 0 < q) (hl : Lg q) :
    Does w 130 2 [.ref a] news (IntBack (if p < 0 then -((-p).fdiv q) else p.fdiv q) news) (fun _ => False) := by
  unfold Does
  k_fill
  intro loose mean mg mb dp un gd cn cs a ccd cl outer A₀ base h₀ L m s Q E B F X N T hk hdp hun hret hexc
  refine wpAny_call ?_
  k_dflt cell_enter
  k_steps
  all_goals first | exact hret _ _ _ _ (by k_asm) (by k_asm) (intBack (if_pos (by assumption)).symm) | exact hret _ _ _ _ (by k_asm) (by k_asm) (intBack (if_neg (by assumption)).symm)

theorem rounded_does (w : World) (a : Addr) (p q : Int) (t1 t2 : Tok) (c : Nat) (news : List (Addr × Obj)) (ha : (a, tup2 p t1 q t2 c) ∈ news) (hq : 0 < q) (hl : Lg (2 * q)) :
    Does w 137 2 [.ref a] news (IntBack (if p < 0 then -((2 * absI p + q).fdiv (2 * q)) else (2 * absI p + q).fdiv (2 * q)) news) (fun _ => False) := by
  unfold Does
  k_fill
  intro loose mean mg mb dp un gd cn cs a ccd cl outer A₀ base h₀ L m s Q E B F X N T hk hdp hun hret hexc
  refine wpAny_call ?_
  k_dflt cell_enter
  k_steps
  all_goals first | exact hret _ _ _ _ (by k_asm) (by k_asm) (intBack (if_pos (by assumption)).symm) | exact hret _ _ _ _ (by k_asm) (by k_asm) (intBack (if_neg (by assumption)).symm)

theorem whole_does (w : World) (a : Addr) (p q : Int) (t1 t2 : Tok) (c : Nat) (news : List (Addr × Obj)) (ha : (a, tup2 p t1 q t2 c) ∈ news) :
    Does w 144 2 [.ref a] news (BoolBack (q == 1) news) (fun _ => False) := by
  unfold Does
  k_fill
  intro loose mean mg mb dp un gd cn cs a ccd cl outer A₀ base h₀ L m s Q E B F X N T hk hdp hun hret hexc
  refine wpAny_call ?_
  k_dflt cell_enter
  k_steps
  all_goals exact hret _ _ _ _ (by k_asm) (by k_asm) ⟨rfl, rfl⟩

def ordI (l r : Int) : Int := if l < r then -1 else if r < l then 1 else 0
theorem ord1 {l r : Int} (h : l < r) : -1 = ordI l r := (if_pos h).symm
theorem ord2 {l r : Int} (h : ¬ l < r) (h' : r < l) : 1 = ordI l r := by unfold ordI; rw [if_neg h, if_pos h']
theorem ord3 {l r : Int} (h : ¬ l < r) (h' : ¬ r < l) : 0 = ordI l r := by unfold ordI; rw [if_neg h, if_neg h']
theorem order_does (w : World) (a b : Addr) (p q p' q' : Int) (t1 t2 t1' t2' : Tok) (c c' : Nat) (news : List (Addr × Obj)) (ha : (a, tup2 p t1 q t2 c) ∈ news) (hb : (b, tup2 p' t1' q' t2' c') ∈ news)
    (s1 : Sz 2400 p) (s2 : Sz 2400 q) (s3 : Sz 2400 p') (s4 : Sz 2400 q') :
    Does w 116 2 [.ref a, .ref b] news (IntBack (ordI (p * q') (p' * q)) news) (fun _ => False) := by
  unfold Does
  k_fill
  intro loose mean mg mb dp un gd cn cs a ccd cl outer A₀ base h₀ L m s Q E B F X N T hk hdp hun hret hexc
  refine wpAny_call ?_
  k_dflt cell_enter
  k_steps
  all_goals first
    | exact hret _ _ _ _ (by k_asm) (by k_asm) (intBack (ord1 (by assumption)))
    | exact hret _ _ _ _ (by k_asm) (by k_asm) (intBack (ord2 (by assumption) (by assumption)))
    | exact hret _ _ _ _ (by k_asm) (by k_asm) (intBack (ord3 (by assumption) (by assumption)))
end Mine

end
section
open PySem PySem.W PyProof.Rows PySem.Spec PySem.Calls
set_option maxRecDepth 100000
set_option maxHeartbeats 1000000
namespace Mine
local macro_rules | `(tactic| walk_at "s9") => `(tactic| omega)
/-- a short list of ints -/
structure Short (items : Array Value) : Prop where
  size : items.size ≤ 8
  anInt : ∀ (j : Nat) (v : Value), items[j]? = some v → ∃ n t, v = .int n t
section
variable {prog : Program} {w : World} {A : Around} {E : Value → Shared → Prop} {s : Shared} {h₀ : Heap} {L l : Addr} {news : List (Addr × Obj)} {items : Array Value} {c : Nat} {Q : Value → Shared → Prop}
theorem my_len (N : News h₀ L s.heap news) (hm : (l, listOf items c) ∈ news) (hs : Short items) (h : Q (.int items.size (s.toks + 1)) { s with toks := s.toks + 1 + 1 }) : wpAny (model prog w) A (call (.builtin "len") [.ref l]) Q E s :=
  len_list (N.isList hm) (by have := hs.size; omega) h
theorem my_item {value slice : PySem.Expr} {k : Int} {u : Tok} (N : News h₀ L s.heap news) (hm : (l, listOf items c) ∈ news) (hs : Short items) (h0 : 0 ≤ k) (hk : k < items.size) (h : ∀ x t, Q (.int x t) s)
    (hsub : subscripted slice false (.ref l) (.int k u) = operate [.ref l, .int k u] (getItem (.ref l) (.int k u)) := by with_unfolding_all rfl) :
    wpAny (model prog w) A (subscriptTail value slice (.ref l) (.int k u)) Q E s := by
  have hl := N.isList hm
  have hs8 := hs.size
  have hlt : k.toNat < items.size := by omega
  obtain ⟨n, t, e⟩ := hs.anInt k.toNat items[k.toNat] (Array.getElem?_eq_getElem hlt)
  exact tail_any hl.typeIs slot_list_getitem.lookup (wpAny_getItem_list hl h0 (by omega) (by rw [Array.getElem?_eq_getElem hlt, e]) (h n t)) hsub
end
local macro_rules | `(tactic| walk_at "call builtin:len") => `(tactic| (k_here; (with_reducible show wpAny _ _ (call (Value.builtin "len") [Value.ref _]) _ _ _); (with_unfolding_all refine' my_len ?k1 ?k2 ?k3 ?_; (case k1 => k_asm); (case k2 => assumption); (case k3 => assumption); k_whole); (try dsimp only)))
local macro_rules | `(tactic| walk_at "subscriptTail") => `(tactic| (k_here; (with_reducible show wpAny _ _ (subscriptTail _ _ (Value.ref _) (Value.int _ _)) _ _ _); (with_unfolding_all refine' my_item ?k1 ?k2 ?k3 ?k4 ?k5 ?_ ?k6; (case k1 => k_asm); (case k2 => assumption); (case k3 => assumption); (case k4 => omega); (case k5 => omega); (case k6 => with_unfolding_all rfl); k_whole); intro x9 t9; (try dsimp only)))

theorem cell_does (w : World) (l : Addr) (i : Int) (tk : Tok) (items : Array Value) (c : Nat) (news : List (Addr × Obj)) (hl : (l, listOf items c) ∈ news) (hs : Short items) (h0 : 0 ≤ i) (h1 : i ≤ 6) :
    Does w 151 2 [.ref l, .int i tk] news (SomeInt news) (fun _ => False) := by
  unfold Does
  k_fill
  intro loose mean mg mb dp un gd cn cs a ccd cl outer A₀ base h₀ L m s Q E B F X N T hk hdp hun hret hexc
  refine wpAny_call ?_
  k_dflt cell_enter
  k_steps
  all_goals exact hret _ _ _ _ (by k_asm) (by k_asm) ⟨rfl, _, _, rfl⟩

theorem cell9 {w : World} {l : Addr} {i : Int} {tk : Tok} {items : Array Value} {c : Nat} {news : List (Addr × Obj)} (hl : (l, listOf items c) ∈ news) (hs : Short items) (h0 : 0 ≤ i) (h1 : i ≤ 6) (_ _ : True) : Does w 151 2 [.ref l, .int i tk] news (SomeInt news) (fun _ => False) := cell_does w l i tk items c news hl hs h0 h1
local macro_rules | `(tactic| walk_at "call ref") => `(tactic| (k_here; (with_reducible show wpAny _ _ (call (Value.ref 151) _) _ _ _); k_dflt (refine' use_int (cell9 ?s1 ?s2 ?s3 ?s4 ?s5 ?s6) ?k1 ?k2 ?k3 ?k4 ?k5 ?kK ?kd ?ku ?_; (case k4 => k_asm); (case s1 => walk_at "s9"); (case s2 => walk_at "s9"); (case s3 => walk_at "s9"); (case s4 => walk_at "s9"); (case s5 => walk_at "s9"); (case s6 => walk_at "z9"); (case k1 => k_asm); (case k2 => k_asm); (case k3 => k_asm); (case k5 => k_asm); (case kK => exact rfl); (case kd => ktr_room); (case ku => ktr_units); k_whole); intros; (try dsimp only); (try k_fold)))
def Part (A B : Int) : Prop := absI A ≤ 10 ^ 16 ∧ B ≠ 0 ∧ absI B ≤ 60
theorem part_top1 (x : Int) : absI (x.fmod 2001 - 1000) ≤ 10 ^ 16 := by
  rw [Int.fmod_eq_emod_of_nonneg _ (by decide)]; unfold absI; split <;> omega
theorem part_top2 (x : Int) : absI (-7 - (x.fmod 2001 - 1000) * 10 ^ Int.toNat 12) ≤ 10 ^ 16 := by
  rw [show Int.toNat 12 = 12 from rfl]
  rw [Int.fmod_eq_emod_of_nonneg _ (by decide)]; unfold absI; split <;> omega
theorem part_bot1 (x : Int) : 1 + x.fmod 60 ≠ 0 ∧ absI (1 + x.fmod 60) ≤ 60 := by
  rw [Int.fmod_eq_emod_of_nonneg _ (by decide)]; unfold absI; refine ⟨by omega, ?_⟩; split <;> omega
theorem part_bot2 (x : Int) : -(1 + x.fmod 60) ≠ 0 ∧ absI (-(1 + x.fmod 60)) ≤ 60 := by
  rw [Int.fmod_eq_emod_of_nonneg _ (by decide)]; unfold absI; refine ⟨by omega, ?_⟩; split <;> omega
theorem part_does (w : World) (l : Addr) (i : Int) (tk : Tok) (items : Array Value) (c : Nat) (news : List (Addr × Obj)) (hl : (l, listOf items c) ∈ news) (hs : Short items) (h0 : 0 ≤ i) (h1 : i ≤ 3) :
    Does w 179 4 [.ref l, .int i tk] news (fun r n => ∃ A B, Part A B ∧ TupBack A B news r n) (fun _ => False) := by
  unfold Does
  k_fill
  intro loose mean mg mb dp un gd cn cs a ccd cl outer A₀ base h₀ L m s Q E B F X N T hk hdp hun hret hexc
  refine wpAny_call ?_
  k_dflt cell_enter
  k_steps
  all_goals exact hret _ _ _ _ (by k_asm) (by k_asm) ⟨_, _, ⟨by first | with_reducible exact part_top1 _ | with_reducible exact part_top2 _, by first | with_reducible exact part_bot1 _ | with_reducible exact part_bot2 _⟩, _, _, _, _, rfl, allLt_of (by assumption), rfl⟩
end Mine

end
section
open PySem PySem.W PyProof.Rows PySem.Spec PySem.Calls
set_option maxRecDepth 100000
set_option maxHeartbeats 1000000
namespace Mine
local macro_rules | `(tactic| walk_at "binaryOp Mult int int") => `(tactic| (k_here; (with_reducible refine' PyProof.Rows.mul_int ?_ (Sz.mulOk ?kma ?kmb ?kmc)); (case kma => assumption); (case kmb => assumption); (case kmc => decide); (try dsimp only)))
theorem least_start {p q : Int} (hq : 1 ≤ q) : GInv q p q (if p < 0 then -p else p) := by
  rw [abs_ite]
  refine ⟨by omega, by omega, ?_⟩
  rfl
theorem least_end {p q a b : Int} (h : GInv q p a b) (hb : ¬ 0 < b) (hg : Int.gcd p q = 1) : (a == 1) = true := by
  have := ginv_end h hb
  rw [Int.gcd_comm, hg] at this
  simp [this]
theorem least_does (w : World) (a : Addr) (p q : Int) (t1 t2 : Tok) (c : Nat) (news : List (Addr × Obj)) (ha : (a, tup2 p t1 q t2 c) ∈ news) (hq : 1 ≤ q) (hg : Int.gcd p q = 1) :
    Does w 158 2 [.ref a] news (BoolBack true news) (fun _ => False) := by
  unfold Does
  k_fill
  intro loose mean mg mb dp un gd cn cs a ccd cl outer A₀ base h₀ L m s Q E B F X N T hk hdp hun hret hexc
  refine wpAny_call ?_
  k_dflt cell_enter
  k_with "exec While Compare cons nil" => k_while (fun _ big low => GInv q p low big) (fun _ big low => big.toNat) "big" "low"
  k_with "state" => (first | exact least_start hq | exact ginv_turn (by assumption) (by simp_all))
  k_with "measure" => (first | exact ginv_less (by simp_all))
  k_steps
  k_with_none
  all_goals exact hret _ _ _ _ (by k_asm) (by k_asm) ⟨rfl, congrArg Value.bool (least_end (by assumption) (by assumption) hg)⟩

theorem least9 {w : World} {a : Addr} {p q : Int} {t1 t2 : Tok} {c : Nat} {news : List (Addr × Obj)} (ha : (a, tup2 p t1 q t2 c) ∈ news) (hq : 1 ≤ q) (hg : Int.gcd p q = 1) (_ _ _ : True) : Does w 158 2 [.ref a] news (BoolBack true news) (fun _ => False) := least_does w a p q t1 t2 c news ha hq hg
local macro_rules | `(tactic| walk_at "call ref") => `(tactic| (k_here; (with_reducible show wpAny _ _ (call (Value.ref 158) _) _ _ _); k_dflt (refine' use_bool (least9 ?s1 ?s2 ?s3 ?s4 ?s5 ?s6) ?k1 ?k2 ?k3 ?k4 ?k5 ?kK ?kd ?ku ?_; (case k4 => k_asm); (case s1 => walk_at "s9"); (case s2 => walk_at "s9"); (case s3 => walk_at "s9"); (case s4 => walk_at "s9"); (case s5 => walk_at "s9"); (case s6 => walk_at "z9"); (case k1 => k_asm); (case k2 => k_asm); (case k3 => k_asm); (case k5 => k_asm); (case kK => exact rfl); (case kd => ktr_room); (case ku => ktr_units); k_whole); intros; (try dsimp only); (try k_fold)))
theorem same_does (w : World) (a : Addr) (p q x y : Int) (t1 t2 t3 t4 : Tok) (c : Nat) (news : List (Addr × Obj)) (ha : (a, tup2 p t1 q t2 c) ∈ news) (hq : 1 ≤ q) (hg : Int.gcd p q = 1) (he : p * y = x * q) (s1 : Sz 2400 p) (s2 : Sz 2400 q) (s3 : Sz 5000 x) (s4 : Sz 5000 y) :
    Does w 165 4 [.ref a, .int x t3, .int y t4] news (BoolBack true news) (fun _ => False) := by
  unfold Does
  k_fill
  intro loose mean mg mb dp un gd cn cs a ccd cl outer A₀ base h₀ L m s Q E B F X N T hk hdp hun hret hexc
  refine wpAny_call ?_
  k_dflt cell_enter
  k_steps
  all_goals exact hret _ _ _ _ (by k_asm) (by k_asm) ⟨rfl, congrArg Value.bool (beq_iff_eq.mpr he)⟩
end Mine

end
section
open PySem PySem.W PyProof.Rows PySem.Spec PySem.Calls
set_option maxRecDepth 100000
set_option maxHeartbeats 2000000
namespace Mine
section
variable {p q : Int}
theorem fd_facts (p : Int) (hq : 0 < q) : p.fdiv q * q ≤ p ∧ p < (p.fdiv q + 1) * q := by
  rw [Int.fdiv_eq_ediv_of_nonneg _ (by omega)]
  exact ⟨Int.ediv_mul_le _ (by omega), Int.lt_ediv_add_one_mul_self _ hq⟩
theorem fd_size {k : Nat} (hq : 0 < q) (h : Sz k p) : Sz k (p.fdiv q) := by
  refine h.of_le ?_
  obtain ⟨h1, h2⟩ := fd_facts p hq
  generalize p.fdiv q = d at *
  by_cases hd : 0 ≤ d
  · have : d * 1 ≤ d * q := Int.mul_le_mul_of_nonneg_left (by omega) hd
    omega
  · have : (d + 1) * q ≤ (d + 1) * 1 := Int.mul_le_mul_of_nonpos_left (by omega) (by omega)
    omega
theorem ite_abs {x : Int} : (if x < 0 then -x else x) = (x.natAbs : Int) := by split <;> omega
theorem Sz.abs {k : Nat} {x : Int} (h : Sz k x) : Sz k (if x < 0 then -x else x) := by
  rw [ite_abs]; exact h.of_le (by omega)
theorem Sz.one {k : Nat} {x : Int} (h : Sz k x) : Sz (k + 1) (x + 1) := by
  refine ⟨?_⟩
  have := h.out
  have h2 : 0 < 2 ^ k := Nat.two_pow_pos k
  rw [Nat.pow_succ]
  omega
/-- what the law asks of the part ahead of the point -/
theorem tz_facts (p : Int) (hq : 0 < q) {d : Int} (e : d = if p < 0 then -((-p).fdiv q) else p.fdiv q) :
    (¬ (if p < 0 then -p else p) < (if d < 0 then -d else d) * q) ∧ (¬ ((if d < 0 then -d else d) + 1) * q ≤ (if p < 0 then -p else p)) ∧ ¬ d * p < 0 := by
  by_cases hp : p < 0
  · rw [if_pos hp] at e
    obtain ⟨h1, h2⟩ := fd_facts (-p) hq
    have h3 : 0 ≤ (-p).fdiv q := by rw [Int.fdiv_eq_ediv_of_nonneg _ (by omega)]; exact Int.ediv_nonneg (by omega) (by omega)
    generalize (-p).fdiv q = k at *
    have e2 : (if d < 0 then -d else d) = k := by split <;> omega
    rw [e2, if_pos hp]
    refine ⟨by omega, by omega, ?_⟩
    have := Int.mul_nonneg_of_nonpos_of_nonpos (a := d) (b := p) (by omega) (by omega)
    omega
  · rw [if_neg hp] at e
    obtain ⟨h1, h2⟩ := fd_facts p hq
    have h3 : 0 ≤ p.fdiv q := by rw [Int.fdiv_eq_ediv_of_nonneg _ (by omega)]; exact Int.ediv_nonneg (by omega) (by omega)
    generalize p.fdiv q = k at *
    have e2 : (if d < 0 then -d else d) = k := by split <;> omega
    rw [e2, if_neg hp]
    refine ⟨by omega, by omega, ?_⟩
    have := Int.mul_nonneg (a := d) (b := p) (by omega) (by omega)
    omega
theorem tz_size {k : Nat} (hq : 0 < q) (h : Sz k p) {d : Int} (e : d = if p < 0 then -((-p).fdiv q) else p.fdiv q) : Sz k d := by
  rw [e]; split
  · exact (fd_size hq h.neg).neg
  · exact fd_size hq h
/-- what the law asks of the nearest whole number -/
theorem rd_facts (p : Int) (hq : 0 < q) {d : Int} (e : d = if p < 0 then -((2 * absI p + q).fdiv (2 * q)) else (2 * absI p + q).fdiv (2 * q)) :
    2 * (if p - d * q < 0 then -(p - d * q) else p - d * q) < q ∨ (2 * (if p - d * q < 0 then -(p - d * q) else p - d * q) = q ∧ (if p < 0 then -p else p) < (if d < 0 then -d else d) * q) := by
  obtain ⟨h1, h2⟩ := fd_facts (q := 2 * q) (2 * absI p + q) (by omega)
  have h3 : 0 ≤ (2 * absI p + q).fdiv (2 * q) := by
    rw [Int.fdiv_eq_ediv_of_nonneg _ (by omega)]
    refine Int.ediv_nonneg ?_ (by omega)
    unfold absI; split <;> omega
  generalize (2 * absI p + q).fdiv (2 * q) = k at *
  have f1 : k * (2 * q) = 2 * (k * q) := by rw [Int.mul_left_comm]
  have f2 : (k + 1) * (2 * q) = 2 * (k * q) + 2 * q := by rw [Int.add_mul, f1]; omega
  rw [f1] at h1
  rw [f2] at h2
  unfold absI at h1 h2
  by_cases hp : p < 0
  · rw [if_pos hp] at e h1 h2 ⊢
    have e2 : (if d < 0 then -d else d) = k := by split <;> omega
    have e3 : d * q = -(k * q) := by rw [e, Int.neg_mul]
    rw [e2, e3]
    generalize k * q = z at *
    split <;> omega
  · rw [if_neg hp] at e h1 h2 ⊢
    have e2 : (if d < 0 then -d else d) = k := by split <;> omega
    have e3 : d * q = k * q := by rw [e]
    rw [e2, e3]
    generalize k * q = z at *
    split <;> omega
theorem rd_size {k : Nat} (hq : 0 < q) (h : Sz k p) {d : Int} (e : d = if p < 0 then -((2 * absI p + q).fdiv (2 * q)) else (2 * absI p + q).fdiv (2 * q)) : Sz (k + 1) d := by
  have hk : ((2 * absI p + q).fdiv (2 * q)).natAbs ≤ p.natAbs + 1 := by
    obtain ⟨h1, h2⟩ := fd_facts (q := 2 * q) (2 * absI p + q) (by omega)
    have h3 : 0 ≤ (2 * absI p + q).fdiv (2 * q) := by
      rw [Int.fdiv_eq_ediv_of_nonneg _ (by omega)]
      refine Int.ediv_nonneg ?_ (by omega)
      unfold absI; split <;> omega
    generalize (2 * absI p + q).fdiv (2 * q) = k at *
    have f1 : k * (2 * q) = 2 * (k * q) := by rw [Int.mul_left_comm]
    rw [f1] at h1
    have f3 : (k - 1) * 1 ≤ (k - 1) * q ∨ k = 0 := by
      by_cases h0 : k = 0
      · exact .inr h0
      · exact .inl (Int.mul_le_mul_of_nonneg_left (by omega) (by omega))
    have f4 : (k - 1) * q = k * q - q := by rw [Int.sub_mul]; omega
    unfold absI at h1
    rcases f3 with f3 | f3
    · rw [f4] at f3
      split at h1 <;> omega
    · omega
  refine ⟨?_⟩
  have := h.out
  have h2 : 0 < 2 ^ k := Nat.two_pow_pos k
  rw [Nat.pow_succ]
  rw [e]
  split <;> omega
end
end Mine

end
section
open PySem PySem.W PyProof.Rows PySem.Spec PySem.Calls
set_option maxRecDepth 100000
set_option maxHeartbeats 1000000
namespace Mine
local macro_rules | `(tactic| walk_at "binaryOp Mult int int") => `(tactic| (k_here; (with_reducible refine' PyProof.Rows.mul_int ?_ (Sz.mulOk ?kma ?kmb ?kmc)); (case kma => assumption); (case kmb => assumption); (case kmc => decide); (try dsimp only)))
theorem floor_law {w : World} {a : Addr} {p q : Int} {t1 t2 : Tok} {c : Nat} {news : List (Addr × Obj)} (ha : (a, tup2 p t1 q t2 c) ∈ news) (hq : 0 < q) (hp : Sz 2400 p) (hl : Sz 2400 q) (_ _ : True) :
    Does w 123 2 [.ref a] news (fun r n => n = news ∧ ∃ d t, r = .int d t ∧ d * q ≤ p ∧ p < (d + 1) * q ∧ Sz 2400 d ∧ Sz 2401 (d + 1)) (fun _ => False) :=
  (floor_does w a p q t1 t2 c news ha hq (hl.lg (by decide))).mono (fun _ _ ⟨e, t, h⟩ => ⟨e, _, t, h, (fd_facts p hq).1, (fd_facts p hq).2, fd_size hq hp, (fd_size hq hp).one⟩) (fun _ h => h)
theorem toward_law {w : World} {a : Addr} {p q : Int} {t1 t2 : Tok} {c : Nat} {news : List (Addr × Obj)} (ha : (a, tup2 p t1 q t2 c) ∈ news) (hq : 0 < q) (hp : Sz 2400 p) (hl : Sz 2400 q) (_ _ : True) :
    Does w 130 2 [.ref a] news (fun r n => n = news ∧ ∃ d t, r = .int d t ∧ (¬ (if p < 0 then -p else p) < (if d < 0 then -d else d) * q) ∧ (¬ ((if d < 0 then -d else d) + 1) * q ≤ (if p < 0 then -p else p)) ∧ (¬ d * p < 0) ∧ Sz 2400 d ∧ Sz 2400 (if d < 0 then -d else d) ∧ Sz 2401 ((if d < 0 then -d else d) + 1)) (fun _ => False) :=
  (toward_does w a p q t1 t2 c news ha hq (hl.lg (by decide))).mono (fun _ _ ⟨e, t, h⟩ => have f := tz_facts p hq rfl; have z := tz_size hq hp rfl; ⟨e, _, t, h, f.1, f.2.1, f.2.2, z, z.abs, z.abs.one⟩) (fun _ h => h)
theorem rounded_law {w : World} {a : Addr} {p q : Int} {t1 t2 : Tok} {c : Nat} {news : List (Addr × Obj)} (ha : (a, tup2 p t1 q t2 c) ∈ news) (hq : 0 < q) (hp : Sz 2400 p) (hl : Sz 2400 q) (_ _ : True) :
    Does w 137 2 [.ref a] news (fun r n => n = news ∧ ∃ d t, r = .int d t ∧ (2 * (if p - d * q < 0 then -(p - d * q) else p - d * q) < q ∨ (2 * (if p - d * q < 0 then -(p - d * q) else p - d * q) = q ∧ (if p < 0 then -p else p) < (if d < 0 then -d else d) * q)) ∧ Sz 2401 d ∧ Sz 2401 (if d < 0 then -d else d)) (fun _ => False) :=
  (rounded_does w a p q t1 t2 c news ha hq ((Sz.mul (k := 2) (l := 2400) ⟨by decide⟩ hl).lg (by decide))).mono (fun _ _ ⟨e, t, h⟩ => ⟨e, _, t, h, rd_facts p hq rfl, rd_size hq hp rfl, (rd_size hq hp rfl).abs⟩) (fun _ h => h)
theorem whole9 {w : World} {a : Addr} {p q : Int} {t1 t2 : Tok} {c : Nat} {news : List (Addr × Obj)} (ha : (a, tup2 p t1 q t2 c) ∈ news) (_ _ _ _ _ : True) : Does w 144 2 [.ref a] news (BoolBack (q == 1) news) (fun _ => False) := whole_does w a p q t1 t2 c news ha
local macro_rules | `(tactic| walk_at "call ref") => `(tactic| (k_here; (with_reducible show wpAny _ _ (call (Value.ref 123) _) _ _ _); k_dflt (refine' use_int4 (floor_law ?s1 ?s2 ?s3 ?s4 ?s5 ?s6) ?k1 ?k2 ?k3 ?k4 ?k5 ?kK ?kd ?ku ?_; (case k4 => k_asm); (case s1 => walk_at "s9"); (case s2 => walk_at "s9"); (case s3 => walk_at "s9"); (case s4 => walk_at "s9"); (case s5 => walk_at "s9"); (case s6 => walk_at "z9"); (case k1 => k_asm); (case k2 => k_asm); (case k3 => k_asm); (case k5 => k_asm); (case kK => exact rfl); (case kd => ktr_room); (case ku => ktr_units); k_whole); intros; (try dsimp only); (try k_fold)))
local macro_rules | `(tactic| walk_at "call ref") => `(tactic| (k_here; (with_reducible show wpAny _ _ (call (Value.ref 130) _) _ _ _); k_dflt (refine' use_int6 (toward_law ?s1 ?s2 ?s3 ?s4 ?s5 ?s6) ?k1 ?k2 ?k3 ?k4 ?k5 ?kK ?kd ?ku ?_; (case k4 => k_asm); (case s1 => walk_at "s9"); (case s2 => walk_at "s9"); (case s3 => walk_at "s9"); (case s4 => walk_at "s9"); (case s5 => walk_at "s9"); (case s6 => walk_at "z9"); (case k1 => k_asm); (case k2 => k_asm); (case k3 => k_asm); (case k5 => k_asm); (case kK => exact rfl); (case kd => ktr_room); (case ku => ktr_units); k_whole); intros; (try dsimp only); (try k_fold)))
local macro_rules | `(tactic| walk_at "call ref") => `(tactic| (k_here; (with_reducible show wpAny _ _ (call (Value.ref 137) _) _ _ _); k_dflt (refine' use_int3 (rounded_law ?s1 ?s2 ?s3 ?s4 ?s5 ?s6) ?k1 ?k2 ?k3 ?k4 ?k5 ?kK ?kd ?ku ?_; (case k4 => k_asm); (case s1 => walk_at "s9"); (case s2 => walk_at "s9"); (case s3 => walk_at "s9"); (case s4 => walk_at "s9"); (case s5 => walk_at "s9"); (case s6 => walk_at "z9"); (case k1 => k_asm); (case k2 => k_asm); (case k3 => k_asm); (case k5 => k_asm); (case kK => exact rfl); (case kd => ktr_room); (case ku => ktr_units); k_whole); intros; (try dsimp only); (try k_fold)))
local macro_rules | `(tactic| walk_at "call ref") => `(tactic| (k_here; (with_reducible show wpAny _ _ (call (Value.ref 144) _) _ _ _); k_dflt (refine' use_bool (whole9 ?s1 ?s2 ?s3 ?s4 ?s5 ?s6) ?k1 ?k2 ?k3 ?k4 ?k5 ?kK ?kd ?ku ?_; (case k4 => k_asm); (case s1 => walk_at "s9"); (case s2 => walk_at "s9"); (case s3 => walk_at "s9"); (case s4 => walk_at "s9"); (case s5 => walk_at "s9"); (case s6 => walk_at "z9"); (case k1 => k_asm); (case k2 => k_asm); (case k3 => k_asm); (case k5 => k_asm); (case kK => exact rfl); (case kd => ktr_room); (case ku => ktr_units); k_whole); intros; (try dsimp only); (try k_fold)))
theorem near_3 {a b : Int} {R : Prop} (h : a < b ∨ (a = b ∧ R)) (h1 : ¬ a < b) : R := (h.resolve_left h1).2
theorem near_4 {a b : Int} {R : Prop} (h : a < b ∨ (a = b ∧ R)) (h1 : ¬ a < b) (h2 : ¬ a = b) : False := h2 (h.resolve_left h1).1
theorem wholes_does (w : World) (a : Addr) (p q : Int) (t1 t2 : Tok) (c : Nat) (news : List (Addr × Obj)) (ha : (a, tup2 p t1 q t2 c) ∈ news) (hq : 0 < q) (hp : Sz 2400 p) (hl : Sz 2400 q) :
    Does w 186 4 [.ref a] news (BoolBack true news) (fun _ => False) := by
  unfold Does
  k_fill
  intro loose mean mg mb dp un gd cn cs a ccd cl outer A₀ base h₀ L m s Q E B F X N T hk hdp hun hret hexc
  refine wpAny_call ?_
  k_dflt cell_enter
  k_steps
  · exact absurd (by assumption) (show ¬ ((q == 1) != (q == 1)) = true by simp)
  · exact hret _ _ _ _ (by k_asm) (by k_asm) ⟨rfl, congrArg Value.bool (decide_eq_true (by assumption))⟩
  · exact hret _ _ _ _ (by k_asm) (by k_asm) ⟨rfl, congrArg Value.bool (decide_eq_true (near_3 (by assumption) (by assumption)))⟩
  · exact (near_4 (by assumption) (by assumption) (by assumption)).elim
end Mine

end
section
open PySem PySem.W PyProof.Rows PySem.Spec PySem.Calls
set_option maxRecDepth 100000
set_option maxHeartbeats 2000000
namespace Mine
section
variable {p q : Int}
theorem gcd_pow (k : Nat) (h : Int.gcd p q = 1) : Int.gcd (p ^ k) (q ^ k) = 1 := by
  show Nat.gcd (p ^ k).natAbs (q ^ k).natAbs = 1
  rw [Int.natAbs_pow, Int.natAbs_pow, Nat.pow_gcd_pow]
  have : Nat.gcd p.natAbs q.natAbs = 1 := h
  rw [this, Nat.one_pow]
theorem rTop_least (h : Int.gcd p q = 1) (hq : 0 < q) : rTop p q = p := by
  unfold rTop
  rw [if_neg (by omega), h]
  exact Int.fdiv_one _
theorem rBot_least (h : Int.gcd p q = 1) (hq : 0 < q) : rBot p q = q := by
  unfold rBot
  rw [if_neg (by omega), h]
  exact Int.fdiv_one _
/-- the k-th power is within the greatest size -/
def PowOk (p q : Int) (k : Nat) : Prop := absI (p ^ k) ≤ 10 ^ 700 ∧ q ^ k ≤ 10 ^ 700
theorem absI_natAbs (x : Int) : absI x = (x.natAbs : Int) := ite_abs
theorem gr_bits : (10 : Nat) ^ 700 < 2 ^ 2400 := by decide +kernel
theorem sz_of_le {x : Int} (h : absI x ≤ 10 ^ 700) : Sz 2400 x := by
  refine ⟨Nat.lt_of_le_of_lt ?_ gr_bits⟩
  rw [absI_natAbs] at h
  have e : ((10 : Int) ^ 700) = (((10 : Nat) ^ 700 : Nat) : Int) := by rw [Int.natCast_pow]; rfl
  rw [e] at h
  exact Int.ofNat_le.mp h
theorem absI_pos {x : Int} (h : 0 < x) : absI x = x := by unfold absI; rw [if_neg (by omega)]
theorem PowOk.sz1 {k : Nat} (h : PowOk p q k) : Sz 2400 (p ^ k) := sz_of_le h.1
theorem PowOk.sz2 {k : Nat} (hq : 0 < q) (h : PowOk p q k) : Sz 2400 (q ^ k) := sz_of_le (by rw [absI_pos (Int.pow_pos hq)]; exact h.2)
theorem powOk_of {i j : Nat} (hg : Int.gcd p q = 1) (hq : 0 < q) : BigOk (p ^ i * p ^ j) (q ^ i * q ^ j) ↔ PowOk p q (i + j) := by
  rw [← Int.pow_add, ← Int.pow_add]
  unfold BigOk PowOk
  rw [rTop_least (gcd_pow _ hg) (Int.pow_pos hq), rBot_least (gcd_pow _ hg) (Int.pow_pos hq)]
theorem rTop_pow {i j : Nat} (hg : Int.gcd p q = 1) (hq : 0 < q) : rTop (p ^ i * p ^ j) (q ^ i * q ^ j) = p ^ (i + j) := by
  rw [← Int.pow_add, ← Int.pow_add, rTop_least (gcd_pow _ hg) (Int.pow_pos hq)]
theorem rBot_pow {i j : Nat} (hg : Int.gcd p q = 1) (hq : 0 < q) : rBot (p ^ i * p ^ j) (q ^ i * q ^ j) = q ^ (i + j) := by
  rw [← Int.pow_add, ← Int.pow_add, rBot_least (gcd_pow _ hg) (Int.pow_pos hq)]
theorem powOk_zero : PowOk p q 0 := by
  unfold PowOk
  rw [Int.pow_zero, Int.pow_zero]
  decide +kernel
/-- one and its powers -/
theorem small_pow {x n : Int} (h : (if x < 0 then -x else x) ≤ 1) (hn : 0 < n) : x ^ (2 - Int.fmod n 2).toNat = x ^ n.toNat := by
  have hx : x = 0 ∨ x = 1 ∨ x = -1 := by split at h <;> omega
  rw [Int.fmod_eq_emod_of_nonneg _ (by decide)]
  have hs : ∃ k r : Nat, n.toNat = 2 * k + r ∧ 0 < n.toNat ∧ r < 2 ∧ (2 - n % 2).toNat = 2 - r := by
    refine ⟨n.toNat / 2, n.toNat % 2, by omega, by omega, by omega, ?_⟩
    omega
  obtain ⟨k, r, e1, h1, h2, e2⟩ := hs
  rw [e2, e1]
  rw [e1] at h1
  rcases hx with rfl | rfl | rfl
  · rw [Int.zero_pow (by omega), Int.zero_pow (by omega)]
  · rw [Int.one_pow, Int.one_pow]
  · rw [Int.pow_add, Int.pow_mul]
    have : ((-1 : Int) ^ 2) = 1 := by decide
    rw [this, Int.one_pow, Int.one_mul]
    have : r = 0 ∨ r = 1 := by omega
    rcases this with rfl | rfl <;> decide
end
end Mine

end
section
open PySem PySem.W PyProof.Rows PySem.Spec PySem.Calls
set_option maxRecDepth 100000
set_option maxHeartbeats 1000000
namespace Mine
local macro_rules | `(tactic| walk_at "leaving ref") => `(tactic| (k_here; k_dflt (refine' thrown_leave ?k1 ?k2 ?k3 ?_; (case k2 => assumption); (case k1 => k_asm); (case k3 => assumption); k_whole); intro h9 TH9 UH9; (try dsimp only); (try k_fold)))
theorem pp_does {w : World} {a b : Addr} {p q : Int} {i j : Nat} {t1 t2 t1' t2' : Tok} {c c' : Nat} {news : List (Addr × Obj)} (ha : (a, tup2 (p ^ i) t1 (q ^ i) t2 c) ∈ news) (hb : (b, tup2 (p ^ j) t1' (q ^ j) t2' c') ∈ news)
    (hg : Int.gcd p q = 1) (hq : 0 < q) (h1 : PowOk p q i) (h2 : PowOk p q j) :
    Does w 88 8 [.ref a, .ref b] news (fun r n => PowOk p q (i + j) ∧ TupBack (p ^ (i + j)) (q ^ (i + j)) news r n) (fun W => ¬ PowOk p q (i + j) ∧ W = Str.ofString "storage_error") := by
  refine (product_does w a b _ _ _ _ t1 t2 t1' t2' c c' news ha hb h1.sz1 (h1.sz2 hq) h2.sz1 (h2.sz2 hq)).mono (fun r n P => ?_) (fun W P => ?_)
  · obtain ⟨_, b1, b2⟩ := P
    rw [rTop_pow hg hq, rBot_pow hg hq] at b2
    exact ⟨(powOk_of hg hq).mp b1, b2⟩
  · rcases P with ⟨z, _⟩ | ⟨_, b1, b2⟩
    · exact absurd z (Int.ne_of_gt (Int.mul_pos (Int.pow_pos hq) (Int.pow_pos hq)))
    · exact ⟨fun z => b1 ((powOk_of hg hq).mpr z), b2⟩

theorem pw_lo (n : Int) : 0 ≤ 2 - Int.fmod n 2 := by rw [Int.fmod_eq_emod_of_nonneg _ (by decide)]; omega
theorem pw_hi (n : Int) : 2 - Int.fmod n 2 ≤ 1000000 := by rw [Int.fmod_eq_emod_of_nonneg _ (by decide)]; omega
theorem pw_abs {x : Int} (h : (if x < 0 then -x else x) ≤ 1) : x.natAbs < 2 ^ 64 := by split at h <;> omega

/-- the loop's state -/
structure PSt where
  n : Int
  tn : Tok
  i : Nat
  j : Nat
  D1 : Addr
  r1 : Int
  u1 : Tok
  r2 : Int
  u2 : Tok
  c1 : Nat
  D2 : Addr
  x1 : Int
  v1 : Tok
  x2 : Int
  v2 : Tok
  c2 : Nat
abbrev pLed (news : List (Addr × Obj)) (c : PSt) : List (Addr × Obj) := (c.D1, tup2 c.r1 c.u1 c.r2 c.u2 c.c1) :: (c.D2, tup2 c.x1 c.v1 c.x2 c.v2 c.c2) :: news
abbrev pPs (c : PSt) : List (Str × Value) := [(Str.ofString "n", .int c.n c.tn), (Str.ofString "result", .ref c.D1), (Str.ofString "x", .ref c.D2)]
def pInv (p q N : Int) (news : List (Addr × Obj)) (c : PSt) : Prop :=
  (c.r1 = p ^ c.i ∧ c.r2 = q ^ c.i) ∧ (c.x1 = p ^ c.j ∧ c.x2 = q ^ c.j) ∧ PowOk p q c.i ∧ PowOk p q c.j ∧ (c.i : Int) + c.j * c.n = N ∧ 0 ≤ c.n ∧ AllLt c.D1 news
theorem pNews {h₀ h : Heap} {L D a : Addr} {news : List (Addr × Obj)} {n : Int} {tn : Tok} {i j : Nat} {r1 r2 x1 x2 : Int} {u1 u2 v1 v2 : Tok} {c1 c2 : Nat} (N : News h₀ L h ((D, tup2 r1 u1 r2 u2 c1) :: news)) (ha : (a, tup2 x1 v1 x2 v2 c2) ∈ news) :
    News h₀ L h (pLed news ⟨n, tn, i, j, D, r1, u1, r2, u2, c1, a, x1, v1, x2, v2, c2⟩) := fun p hp => by
  rcases List.mem_cons.mp hp with rfl | hp
  · exact N _ (.head _)
  · rcases List.mem_cons.mp hp with rfl | hp
    · exact N _ (.tail _ ha)
    · exact N _ (.tail _ hp)
theorem pStart {p q n : Int} {news : List (Addr × Obj)} {D a : Addr} {tn u1 u2 v1 v2 : Tok} {c1 c2 : Nat} (h1 : PowOk p q 1) (hn : 0 ≤ n) (hl : ∀ z ∈ news, z.1 < D) : pInv p q n news ⟨n, tn, 0, 1, D, 1, u1, 1, u2, c1, a, p, v1, q, v2, c2⟩ :=
  ⟨⟨(Int.pow_zero _).symm, (Int.pow_zero _).symm⟩, ⟨by show p = p ^ 1; rw [Int.pow_succ, Int.pow_zero, Int.one_mul], by show q = q ^ 1; rw [Int.pow_succ, Int.pow_zero, Int.one_mul]⟩, powOk_zero, h1, by simp, hn, allLt_of hl⟩

theorem fd2 {n : Int} (h : 0 < n) : n.fdiv 2 = n / 2 := Int.fdiv_eq_ediv_of_nonneg _ (by decide)
theorem fm2 (n : Int) : n.fmod 2 = n % 2 := Int.fmod_eq_emod_of_nonneg _ (by decide)
section
variable {i j : Nat} {n' n : Int}
theorem bnd1 (h : (i : Int) + j * n' = n) (hn : 0 < n') : i + j ≤ n.toNat := by
  have : (j : Int) * 1 ≤ j * n' := Int.mul_le_mul_of_nonneg_left (by omega) (by omega)
  omega
theorem bnd2 (h : (i : Int) + j * n' = n) (hn : 0 < n') (h2 : 0 < n'.fdiv 2) : j + j ≤ n.toNat := by
  rw [fd2 hn] at h2
  have : (j : Int) * 2 ≤ j * n' := Int.mul_le_mul_of_nonneg_left (by omega) (by omega)
  omega
theorem step_odd (h : (i : Int) + j * n' = n) (hn : 0 < n') (h2 : n'.fmod 2 = 1) : ((i + j : Nat) : Int) + ((j + j : Nat) : Int) * n'.fdiv 2 = n := by
  rw [fm2] at h2
  rw [fd2 hn]
  have e : n' = 2 * (n' / 2) + 1 := by omega
  rw [e, Int.mul_add, ← Int.mul_assoc] at h
  have e2 : (((j + j : Nat) : Int)) * (n' / 2) = (j : Int) * 2 * (n' / 2) := by congr 1; omega
  rw [e2]
  omega
theorem step_odd0 (h : (i : Int) + j * n' = n) (hn : 0 < n') (h2 : n'.fmod 2 = 1) (h3 : ¬ 0 < n'.fdiv 2) : ((i + j : Nat) : Int) + (j : Int) * n'.fdiv 2 = n := by
  rw [fm2] at h2
  rw [fd2 hn] at h3 ⊢
  have e : n' / 2 = 0 := by omega
  have e2 : n' = 1 := by omega
  rw [e2] at h
  rw [e]
  omega
theorem step_even (h : (i : Int) + j * n' = n) (hn : 0 < n') (h2 : n'.fmod 2 ≠ 1) : (i : Int) + ((j + j : Nat) : Int) * n'.fdiv 2 = n := by
  rw [fm2] at h2
  rw [fd2 hn]
  have e : n' = 2 * (n' / 2) := by omega
  rw [e, ← Int.mul_assoc] at h
  have e2 : (((j + j : Nat) : Int)) * (n' / 2) = (j : Int) * 2 * (n' / 2) := by congr 1; omega
  rw [e2]
  exact h
theorem fd_nonneg (hn : 0 < n') : 0 ≤ n'.fdiv 2 := by rw [fd2 hn]; omega
theorem fd_even (hn : 0 < n') (h2 : n'.fmod 2 ≠ 1) : 0 < n'.fdiv 2 := by rw [fm2] at h2; rw [fd2 hn]; omega
theorem fd_less (hn : 0 < n') : (n'.fdiv 2).toNat < n'.toNat := by rw [fd2 hn]; omega
theorem pow_end (h : (i : Int) + j * n' = n) (h0 : 0 ≤ n') (hn : ¬ 0 < n') : n.toNat = i := by
  have : n' = 0 := by omega
  rw [this] at h
  omega
end
theorem allLt_less {D : Nat} {l l' : List (Addr × Obj)} (h : AllLt D l) (hs : ∀ p ∈ l', p ∈ l) : AllLt D l' := allLt_of fun p hp => ktn_ltOf h p (hs p hp)
theorem pIn {news n' : List (Addr × Obj)} {n : Int} {tn : Tok} {i j : Nat} {D a : Addr} {r1 r2 x1 x2 : Int} {u1 u2 v1 v2 : Tok} {c1 c2 : Nat} (h1 : (D, tup2 r1 u1 r2 u2 c1) ∈ n') (h2 : (a, tup2 x1 v1 x2 v2 c2) ∈ n') (h3 : ∀ p ∈ news, p ∈ n') :
    ∀ p ∈ pLed news ⟨n, tn, i, j, D, r1, u1, r2, u2, c1, a, x1, v1, x2, v2, c2⟩, p ∈ n' := fun p hp => by
  rcases List.mem_cons.mp hp with rfl | hp
  · exact h1
  · rcases List.mem_cons.mp hp with rfl | hp
    · exact h2
    · exact h3 p hp
theorem pKk {m' : Str → Option Value} {n : Int} {tn : Tok} {i j : Nat} {D a : Addr} {r1 r2 x1 x2 : Int} {u1 u2 v1 v2 : Tok} {c1 c2 : Nat} (h1 : m' (Str.ofString "n") = some (.int n tn)) (h2 : m' (Str.ofString "result") = some (.ref D)) (h3 : m' (Str.ofString "x") = some (.ref a)) :
    ∀ p ∈ pPs ⟨n, tn, i, j, D, r1, u1, r2, u2, c1, a, x1, v1, x2, v2, c2⟩, m' p.1 = some p.2 := fun p hp => by
  rcases List.mem_cons.mp hp with rfl | hp
  · exact h1
  · rcases List.mem_cons.mp hp with rfl | hp
    · exact h2
    · rcases List.mem_cons.mp hp with rfl | hp
      · exact h3
      · exact nomatch hp
theorem quick1 {p q n : Int} {news : List (Addr × Obj)} {D : Addr} {t u : Tok} {c : Nat} (hq : q = 1) (hp : (if p < 0 then -p else p) ≤ 1) (hn : 0 < n) (hl : ∀ z ∈ news, z.1 < D) :
    PowOk p q n.toNat ∧ TupBack (p ^ n.toNat) (q ^ n.toNat) news (.ref D) ((D, tup2 (p ^ (2 - Int.fmod n 2).toNat) t 1 u c) :: news) := by
  have e1 : q ^ n.toNat = 1 := by rw [hq, Int.one_pow]
  rw [small_pow hp hn, e1]
  refine ⟨⟨?_, by rw [e1]; decide +kernel⟩, D, t, u, c, rfl, allLt_of hl, rfl⟩
  rw [absI_natAbs, Int.natAbs_pow]
  have h1 : p.natAbs ^ n.toNat ≤ 1 ^ n.toNat := Nat.pow_le_pow_left (by split at hp <;> omega) _
  rw [Nat.one_pow] at h1
  exact Int.le_trans (b := 1) (by omega) (by decide +kernel)
theorem quick2 {p q n : Int} {news : List (Addr × Obj)} {D : Addr} {t u : Tok} {c : Nat} (h0 : 0 ≤ n) (hn : ¬ 0 < n) (hl : ∀ z ∈ news, z.1 < D) :
    PowOk p q n.toNat ∧ TupBack (p ^ n.toNat) (q ^ n.toNat) news (.ref D) ((D, tup2 1 t 1 u c) :: news) := by
  have e : n.toNat = 0 := by omega
  rw [e, Int.pow_zero, Int.pow_zero]
  exact ⟨powOk_zero, D, t, u, c, rfl, allLt_of hl, rfl⟩

local macro_rules | `(tactic| walk_at "binaryOp Pow int int") => `(tactic| (k_here; (with_reducible refine pow_int_small ?kb1 ?kb2 ?kb3 ?_); (case kb1 => exact pw_lo _); (case kb2 => exact pw_hi _); (case kb3 => exact pw_abs (by assumption)); (try dsimp only)))
local macro_rules | `(tactic| walk_at "call ref") => `(tactic| (k_here; (with_reducible show wpAny _ _ (call (Value.ref 88) _) _ _ _); k_dflt (refine' use_tupx (pp_does ?s1 ?s2 ?s3 ?s4 ?s5 ?s6) ?k1 ?k2 ?k3 ?k4 ?k5 ?kK ?kd ?ku ?_ ?_; (case k4 => k_asm); (case s1 => walk_at "s9"); (case s2 => walk_at "s9"); (case s3 => walk_at "s9"); (case s4 => walk_at "s9"); (case s5 => walk_at "s9"); (case s6 => walk_at "z9"); (case k1 => k_asm); (case k2 => k_asm); (case k3 => k_asm); (case k5 => k_asm); (case kK => exact rfl); (case kd => ktr_room); (case ku => ktr_units)); (all_goals (intros; (try dsimp only); (try k_fold)))))
theorem power_does (w : World) (a : Addr) (p q n : Int) (t1 t2 tn : Tok) (c : Nat) (news : List (Addr × Obj)) (ha : (a, tup2 p t1 q t2 c) ∈ news)
    (hg : Int.gcd p q = 1) (hq : 0 < q) (h1 : PowOk p q 1) (hn : 0 ≤ n) :
    Does w 109 12 [.ref a, .int n tn] news (fun r m => PowOk p q n.toNat ∧ TupBack (p ^ n.toNat) (q ^ n.toNat) news r m) (fun W => (∃ k, k ≤ n.toNat ∧ ¬ PowOk p q k) ∧ W = Str.ofString "storage_error") := by
  unfold Does
  k_fill
  intro loose mean mg mb dp un gd cn cs a' ccd cl outer A₀ base h₀ L m s Q E B F X N T hk hdp hun hret hexc
  refine wpAny_call ?_
  k_dflt cell_enter
  repeat' (first | ((fail_if_success (with_reducible show wpAny _ _ (exec (Stmt.While _ _ _ _) _) _ _ _)); first | (k_unfold; (try dsimp only)) | (k_end; kc_close) | walk1 | (dsimp only; walk1) | (leave1; walk_say "STEP leave1"; (try dsimp only)) | fail "no step"))
  · exact hret _ _ _ _ (by k_asm) (by k_asm) (quick1 (by assumption) (by assumption) (by assumption) (by assumption))
  · exact hret _ _ _ _ (by k_asm) (by k_asm) (quick2 hn (by assumption) (by assumption))
  · rename Fr _ _ _ _ => lF
    rename News _ _ _ _ => lN
    with_unfolding_all refine' ksw_while (σ := PSt) (pLed news) pPs (fun _ => True) [] (pInv p q n news) (fun c => c.n.toNat) ⟨n, tn, 0, 1, _, 1, _, 1, _, _, a, p, t1, q, t2, c⟩ lF (pNews lN ha) True.intro ?k0A ?p0A ?t0A
    (case k0A => kst_all)
    (case p0A => exact pStart h1 hn (by assumption))
    intro st u h tk _ kInv kFr kNews
    obtain ⟨n', tn', i, j, D1, r1, u1, r2, u2, c1, D2, x1, v1, x2, v2, c2⟩ := st
    obtain ⟨⟨e1, e2⟩, ⟨e3, e4⟩, o1, o2, hs, hn', hlt⟩ := kInv
    (try dsimp only at e1 e2 e3 e4 o1 o2 hs hn' hlt)
    subst e1 e2 e3 e4
    (try dsimp only [pPs, kstB] at kFr)
    (try dsimp only [pLed] at kNews)
    clear lF lN
    try k_fold
    k_steps
    · refine' ksw_end (⟨n'.fdiv 2, _, i + j, j + j, _, p ^ (i + j), _, q ^ (i + j), _, _, _, p ^ (j + j), _, q ^ (j + j), _, _⟩ : PSt) ?f1A ?n1A ?i1A True.intro ?k1A ?r1A ?p1A ?m1A
      (case f1A => assumption)
      (case n1A => assumption)
      (case k1A => intro x hx; rcases List.mem_cons.mp hx with rfl | hx; (· with_unfolding_all rfl); rcases List.mem_cons.mp hx with rfl | hx; (· with_unfolding_all rfl); rcases List.mem_cons.mp hx with rfl | hx; (· with_unfolding_all rfl); exact nomatch hx)
      (case i1A => refine' pIn ?x1A ?y1A ?z1A; (case x1A => k_mem); (case y1A => k_mem); (case z1A => exact fun x hx => by repeat' first | exact hx | refine List.mem_cons_of_mem _ ?_))
      (case r1A => ksw_same)
      (case p1A => exact ⟨⟨rfl, rfl⟩, ⟨rfl, rfl⟩, by assumption, by assumption, step_odd hs (by assumption) (by assumption), fd_nonneg (by assumption), by exact allLt_less (by assumption) (fun x hx => by repeat' first | exact hx | refine List.mem_cons_of_mem _ ?_)⟩)
      (case m1A => exact fd_less (by assumption))
    · exact exc_out (hexc _ _ _ _) (Thrown.less (by assumption) (fun x hx => by repeat' first | exact hx | refine List.mem_cons_of_mem _ ?_)) (by assumption) (by assumption) ⟨⟨j + j, bnd2 hs (by assumption) (by assumption), And.left (by assumption)⟩, And.right (by assumption)⟩
    · refine' ksw_end (⟨n'.fdiv 2, _, i + j, j, _, p ^ (i + j), _, q ^ (i + j), _, _, _, p ^ j, _, q ^ j, _, _⟩ : PSt) ?f2A ?n2A ?i2A True.intro ?k2A ?r2A ?p2A ?m2A
      (case f2A => assumption)
      (case n2A => assumption)
      (case k2A => intro x hx; rcases List.mem_cons.mp hx with rfl | hx; (· with_unfolding_all rfl); rcases List.mem_cons.mp hx with rfl | hx; (· with_unfolding_all rfl); rcases List.mem_cons.mp hx with rfl | hx; (· with_unfolding_all rfl); exact nomatch hx)
      (case i2A => refine' pIn ?x2A ?y2A ?z2A; (case x2A => k_mem); (case y2A => k_mem); (case z2A => exact fun x hx => by repeat' first | exact hx | refine List.mem_cons_of_mem _ ?_))
      (case r2A => ksw_same)
      (case p2A => exact ⟨⟨rfl, rfl⟩, ⟨rfl, rfl⟩, by assumption, by assumption, step_odd0 hs (by assumption) (by assumption) (by assumption), fd_nonneg (by assumption), by exact allLt_less (by assumption) (fun x hx => by repeat' first | exact hx | refine List.mem_cons_of_mem _ ?_)⟩)
      (case m2A => exact fd_less (by assumption))
    · exact exc_out (hexc _ _ _ _) (Thrown.less (by assumption) (fun x hx => by repeat' first | exact hx | refine List.mem_cons_of_mem _ ?_)) (by assumption) (by assumption) ⟨⟨i + j, bnd1 hs (by assumption), And.left (by assumption)⟩, And.right (by assumption)⟩
    · refine' ksw_end (⟨n'.fdiv 2, _, i, j + j, _, p ^ i, _, q ^ i, _, _, _, p ^ (j + j), _, q ^ (j + j), _, _⟩ : PSt) ?f3A ?n3A ?i3A True.intro ?k3A ?r3A ?p3A ?m3A
      (case f3A => assumption)
      (case n3A => assumption)
      (case k3A => intro x hx; rcases List.mem_cons.mp hx with rfl | hx; (· with_unfolding_all rfl); rcases List.mem_cons.mp hx with rfl | hx; (· with_unfolding_all rfl); rcases List.mem_cons.mp hx with rfl | hx; (· with_unfolding_all rfl); exact nomatch hx)
      (case i3A => refine' pIn ?x3A ?y3A ?z3A; (case x3A => k_mem); (case y3A => k_mem); (case z3A => exact fun x hx => by repeat' first | exact hx | refine List.mem_cons_of_mem _ ?_))
      (case r3A => ksw_same)
      (case p3A => exact ⟨⟨rfl, rfl⟩, ⟨rfl, rfl⟩, by assumption, by assumption, step_even hs (by assumption) (by assumption), fd_nonneg (by assumption), hlt⟩)
      (case m3A => exact fd_less (by assumption))
    · exact exc_out (hexc _ _ _ _) (Thrown.less (by assumption) (fun x hx => by repeat' first | exact hx | refine List.mem_cons_of_mem _ ?_)) (by assumption) (by assumption) ⟨⟨j + j, bnd2 hs (by assumption) (fd_even (by assumption) (by assumption)), And.left (by assumption)⟩, And.right (by assumption)⟩
    · rw [pow_end hs hn' (by assumption)] at hret
      exact hret _ _ _ _ (by k_asm) (cb_drop (by k_asm) (fun x hx => by rcases List.mem_cons.mp hx with rfl | hx; exact .head _; exact .tail _ (.tail _ hx))) ⟨o1, D1, u1, u2, c1, rfl, hlt, rfl⟩
  · rename Fr _ _ _ _ => lF
    rename News _ _ _ _ => lN
    with_unfolding_all refine' ksw_while (σ := PSt) (pLed news) pPs (fun _ => True) [] (pInv p q n news) (fun c => c.n.toNat) ⟨n, tn, 0, 1, _, 1, _, 1, _, _, a, p, t1, q, t2, c⟩ lF (pNews lN ha) True.intro ?k0B ?p0B ?t0B
    (case k0B => kst_all)
    (case p0B => exact pStart h1 hn (by assumption))
    intro st u h tk _ kInv kFr kNews
    obtain ⟨n', tn', i, j, D1, r1, u1, r2, u2, c1, D2, x1, v1, x2, v2, c2⟩ := st
    obtain ⟨⟨e1, e2⟩, ⟨e3, e4⟩, o1, o2, hs, hn', hlt⟩ := kInv
    (try dsimp only at e1 e2 e3 e4 o1 o2 hs hn' hlt)
    subst e1 e2 e3 e4
    (try dsimp only [pPs, kstB] at kFr)
    (try dsimp only [pLed] at kNews)
    clear lF lN
    try k_fold
    k_steps
    · refine' ksw_end (⟨n'.fdiv 2, _, i + j, j + j, _, p ^ (i + j), _, q ^ (i + j), _, _, _, p ^ (j + j), _, q ^ (j + j), _, _⟩ : PSt) ?f1B ?n1B ?i1B True.intro ?k1B ?r1B ?p1B ?m1B
      (case f1B => assumption)
      (case n1B => assumption)
      (case k1B => intro x hx; rcases List.mem_cons.mp hx with rfl | hx; (· with_unfolding_all rfl); rcases List.mem_cons.mp hx with rfl | hx; (· with_unfolding_all rfl); rcases List.mem_cons.mp hx with rfl | hx; (· with_unfolding_all rfl); exact nomatch hx)
      (case i1B => refine' pIn ?x1B ?y1B ?z1B; (case x1B => k_mem); (case y1B => k_mem); (case z1B => exact fun x hx => by repeat' first | exact hx | refine List.mem_cons_of_mem _ ?_))
      (case r1B => ksw_same)
      (case p1B => exact ⟨⟨rfl, rfl⟩, ⟨rfl, rfl⟩, by assumption, by assumption, step_odd hs (by assumption) (by assumption), fd_nonneg (by assumption), by exact allLt_less (by assumption) (fun x hx => by repeat' first | exact hx | refine List.mem_cons_of_mem _ ?_)⟩)
      (case m1B => exact fd_less (by assumption))
    · exact exc_out (hexc _ _ _ _) (Thrown.less (by assumption) (fun x hx => by repeat' first | exact hx | refine List.mem_cons_of_mem _ ?_)) (by assumption) (by assumption) ⟨⟨j + j, bnd2 hs (by assumption) (by assumption), And.left (by assumption)⟩, And.right (by assumption)⟩
    · refine' ksw_end (⟨n'.fdiv 2, _, i + j, j, _, p ^ (i + j), _, q ^ (i + j), _, _, _, p ^ j, _, q ^ j, _, _⟩ : PSt) ?f2B ?n2B ?i2B True.intro ?k2B ?r2B ?p2B ?m2B
      (case f2B => assumption)
      (case n2B => assumption)
      (case k2B => intro x hx; rcases List.mem_cons.mp hx with rfl | hx; (· with_unfolding_all rfl); rcases List.mem_cons.mp hx with rfl | hx; (· with_unfolding_all rfl); rcases List.mem_cons.mp hx with rfl | hx; (· with_unfolding_all rfl); exact nomatch hx)
      (case i2B => refine' pIn ?x2B ?y2B ?z2B; (case x2B => k_mem); (case y2B => k_mem); (case z2B => exact fun x hx => by repeat' first | exact hx | refine List.mem_cons_of_mem _ ?_))
      (case r2B => ksw_same)
      (case p2B => exact ⟨⟨rfl, rfl⟩, ⟨rfl, rfl⟩, by assumption, by assumption, step_odd0 hs (by assumption) (by assumption) (by assumption), fd_nonneg (by assumption), by exact allLt_less (by assumption) (fun x hx => by repeat' first | exact hx | refine List.mem_cons_of_mem _ ?_)⟩)
      (case m2B => exact fd_less (by assumption))
    · exact exc_out (hexc _ _ _ _) (Thrown.less (by assumption) (fun x hx => by repeat' first | exact hx | refine List.mem_cons_of_mem _ ?_)) (by assumption) (by assumption) ⟨⟨i + j, bnd1 hs (by assumption), And.left (by assumption)⟩, And.right (by assumption)⟩
    · refine' ksw_end (⟨n'.fdiv 2, _, i, j + j, _, p ^ i, _, q ^ i, _, _, _, p ^ (j + j), _, q ^ (j + j), _, _⟩ : PSt) ?f3B ?n3B ?i3B True.intro ?k3B ?r3B ?p3B ?m3B
      (case f3B => assumption)
      (case n3B => assumption)
      (case k3B => intro x hx; rcases List.mem_cons.mp hx with rfl | hx; (· with_unfolding_all rfl); rcases List.mem_cons.mp hx with rfl | hx; (· with_unfolding_all rfl); rcases List.mem_cons.mp hx with rfl | hx; (· with_unfolding_all rfl); exact nomatch hx)
      (case i3B => refine' pIn ?x3B ?y3B ?z3B; (case x3B => k_mem); (case y3B => k_mem); (case z3B => exact fun x hx => by repeat' first | exact hx | refine List.mem_cons_of_mem _ ?_))
      (case r3B => ksw_same)
      (case p3B => exact ⟨⟨rfl, rfl⟩, ⟨rfl, rfl⟩, by assumption, by assumption, step_even hs (by assumption) (by assumption), fd_nonneg (by assumption), hlt⟩)
      (case m3B => exact fd_less (by assumption))
    · exact exc_out (hexc _ _ _ _) (Thrown.less (by assumption) (fun x hx => by repeat' first | exact hx | refine List.mem_cons_of_mem _ ?_)) (by assumption) (by assumption) ⟨⟨j + j, bnd2 hs (by assumption) (fd_even (by assumption) (by assumption)), And.left (by assumption)⟩, And.right (by assumption)⟩
    · rw [pow_end hs hn' (by assumption)] at hret
      exact hret _ _ _ _ (by k_asm) (cb_drop (by k_asm) (fun x hx => by rcases List.mem_cons.mp hx with rfl | hx; exact .head _; exact .tail _ (.tail _ hx))) ⟨o1, D1, u1, u2, c1, rfl, hlt, rfl⟩
end Mine

end
section
open PySem PySem.W PyProof.Rows PySem.Spec PySem.Calls
set_option maxRecDepth 100000
set_option maxHeartbeats 2000000
namespace Mine
section
variable {prog : Program} {w : World} {A A₀ : Around} {E : Value → Shared → Prop} {s : Shared} {K : Frag} {L : Addr} {h₀ base : Heap} {m mg mb : Str → Option Value} {news : List (Addr × Obj)} {p : Program} {loose : List Str} {mean : ExcName → Option Value}

/-- a def is entered; what stands behind it is said of the very state it leaves -/
theorem code_defY {env : Env} {outer : List Env} {R : Result → Shared → Prop} {name qual : Str} {params : Arguments} {body : List Stmt} {scope : Scope} {dV kV doc pm cdv ct oc : Value} {an od : Option Addr} {osl : Array (Option Value)} {f : Addr} {args : Args} {binds : List (Str × Value)}
    (B : Below A₀ base outer h₀) (F : Fr h₀ L s.heap m) (X₀ : K.In h₀) (N : News h₀ L s.heap news) (T : Top p loose mean mg mb h₀) (hA : A.frames = some (env :: outer)) (hf : env.frame = some L) (hke : env.scope.kind = .function)
    (ho : K.lookup f = some ⟨oc, od, .func (fnOf name qual params body scope dV kV doc pm an cdv ct), osl⟩) (hcd : codeIn K cdv qual = true) (hroom : A.depth < recursionLimit)
    (hbind : BindsTo s (fnOf name qual params body scope dV kV doc pm an cdv ct) args binds) (hloc : ∀ y ∈ binds, scope.names.lookup y.1 = some .local)
    (h : ∀ g L' h₁, Fr h₀ L g m → Fr g L' h₁ (fun y => binds.reverse.lookup y) → News g L' h₁ news → Below A base (env :: outer) g → K.In g → Top p loose mean mg mb g →
      wpAny (model prog w) (A.deeper (envOf qual scope L' f cdv)) (execs body (envOf qual scope L' f cdv))
        (fun fl s' => R (.ok (.ret (match fl with | .ret v => v | _ => .none))) s')
        (fun e s' => wpAny (model prog w) (A.deeper (envOf qual scope L' f cdv)) (leaving (envOf qual scope L' f cdv) e) (fun _ s'' => R (.error e) s'') (fun e' s'' => R (.error e') s'') s')
        { s with heap := h₁, toks := s.toks + binds.length })
    (hco : scope.isCoroutine = false) (hgen : scope.isGenerator = false) (hk : scope.kind = .function)
    (hcell : ∀ x ∈ scope.names, x.2 ≠ .cell) : codeAny (model prog w) A (.call (.ref f) args) R s := by
  obtain ⟨FG, BG, st, _⟩ := groundX (R := R) B F N hA hf hke
  refine codeAny_call_def (fd := fnOf name qual params body scope dV kV doc pm an cdv ct) (body := body) (binds := binds) hroom ((X₀.keeps F.keep) _ _ ho) rfl (T.nolimit.keeps F.keep) (codeRec_of (X₀.keeps F.keep) hcd) rfl hbind hcell hloc (fun h₁ hns hk₁ => ?_) hco hgen hk
  exact h _ s.heap.objs.size h₁ FG ⟨hns, fun b o e => hk₁ b o (of_hideAll _ e), Nat.le_of_eq (hideAll_size _ _)⟩
    (fun p hp => ⟨hk₁ _ _ (N p hp).1, Nat.ne_of_lt (Heap.lt_size (N p hp).1), hideAll_none _ (List.mem_map_of_mem hp)⟩) BG (X₀.keeps st) (T.keeps st)
end

section
variable {prog : Program} {w : World} {A₀ : Around} {E : Value → Shared → Prop} {s' : Shared} {base : Heap} {outer : List Env} {L a e : Addr} {m : Str → Option Value} {name : Str} {scope : Scope} {cd : Value}
  {n : Str} {b₀ : Stmt} {suite : List Stmt} {pos np : Pos} {rest : List ExceptHandler} {Q : Flow → Shared → Prop} {news : List (Addr × Obj)} {W : Str}
  {p : Program} {loose : List Str} {mean : ExcName → Option Value} {mg mb : Str → Option Value}

/-- «except AdaRaise as n» takes it -/
theorem caught_ada (hfr : A₀.frames = some outer) (x : Thrown base (envOf name scope L a cd :: outer) news W e s'.heap) (hns : s'.heap.Ns L m) (hab : base.objs.size ≤ L)
    {L₀ : Addr} {m₀ : Str → Option Value} (hns₀ : s'.heap.Ns L₀ m₀) (hLL : L₀ ≠ L) (hb₀ : base.get? L₀ = none)
    (X : (hd.heap_39 w.params).In base) (T : TopRead p loose mg mb base)
    (k : ∀ h' D es c vs sl tk tkw oX, (∀ h : Heap, h.get? L₀ = some oX → h.Ns L₀ m₀) → Fr base L h' (fun y => if y = n then some (.ref e) else m y) → News base L h' ((D, dictOf es c) :: (e, (⟨.ref 51, some D, .fields vs, sl⟩ : Obj)) :: (L₀, oX) :: news) → getL "word" es = some (some (.str W tkw)) →
      wpAny (model prog w) ((A₀.deeper (envOf name scope L a cd)).mark (some (.ref e))) (execs (b₀ :: suite) (envOf name scope L a cd))
        (fun f s₄ => wpAny (model prog w) (A₀.deeper (envOf name scope L a cd)) (do bindName (envOf name scope L a cd) n .none; unbindBehindTheSuite (envOf name scope L a cd) n pos) (fun _ s₅ => Q f s₅) E s₄)
        (AsSuiteRaised (model prog w) ((A₀.deeper (envOf name scope L a cd)).mark (some (.ref e))) (envOf name scope L a cd) n pos (notedBy (model prog w) ((A₀.deeper (envOf name scope L a cd)).mark (some (.ref e))) (envOf name scope L a cd) (cameBackBy (model prog w) (A₀.deeper (envOf name scope L a cd)) (envOf name scope L a cd) E)))
        { s' with heap := h', toks := tk })
    (hk : scope.kind = .function := by rfl) (hlo : (envOf name scope L a cd).kindOf n = some .local := by rfl) (hx : (envOf name scope L a cd).kindOf (Str.ofString "AdaRaise") = some .globalImplicit := by rfl) :
    wpAny (model prog w) (A₀.deeper (envOf name scope L a cd)) (noteFrame (.ref e) (envOf name scope L a cd))
      (fun _ s₂ => wpAny (model prog w) (A₀.deeper (envOf name scope L a cd)) (setFlight (.ref e) none) (fun _ s₃ =>
        wpAny (model prog w) (A₀.deeper (envOf name scope L a cd)) (handleBy (.ref e) (envOf name scope L a cd) (.ExceptHandler (some (.Name (Str.ofString "AdaRaise") np)) (some n) (b₀ :: suite) pos :: rest)) Q E s₃) E s₂) E s' := by
  obtain ⟨B, D, es, c, tkw, hB, hl, hfl, hD, hDb, hw⟩ := x
  refine note_next (Around.frames_deeper hfr) rfl hfl fun h₄ f₄ u₄ => ?_
  refine land (s := { s' with heap := h₄ }) f₄ fun h₅ f₅ u₅ => ?_
  have F₅ : Fr base L h₅ m := ⟨(u₄.trans u₅).ns hns, fun b o q => f₅.1 b o (hB b o q), hab⟩
  obtain ⟨nm, q, bs, sub, dd, k0, k1, k2, k3, k5, ec⟩ := cls51 w
  have hC := (X.keeps F₅.keep) _ _ ec
  obtain ⟨oe, vs, T₅, oT, ts, he, hc, hDe, _⟩ := f₅.2.2.2
  refine wpAny_handleBy_cons (codeAny_handlers_test (name_K F₅ X T (v := .ref 51) (by kernel_rfl) ?_ hk hx (by decide))) (by intro q; cases q)
  refine wpAny_excMatches_sub_self hC he hc (by decide +kernel) (codeAny_handlers_suite_as ?_)
  refine land (s := { s' with heap := h₅ }) f₅ fun h₆ f₆ u₆ => ?_
  have F₆ : Fr base L h₆ m := ⟨((u₄.trans u₅).trans u₆).ns hns, fun b o q => f₆.1 b o (hB b o q), hab⟩
  obtain ⟨oe', vs', T', oT', ts', he', hc', hDe', hd', _⟩ := f₆.2.2.2
  obtain ⟨oc, od, odt, osl⟩ := oe'
  dsimp only at hc' hDe' hd'
  subst hc' hDe' hd'
  have hL : B.get? L = none := by
    obtain ⟨_, ⟨L', _, hf, hn', _⟩, _⟩ := f₆.2.2.1
    obtain rfl : L = L' := Option.some.inj hf
    exact hn'
  have hfresh : ∀ b, B.get? b = none → base.get? b = none := fun b hb => fresh_of_stays hB hb
  obtain ⟨oL, esL, epL, hoL, hLd, hLk, hLf⟩ := hns₀
  obtain ⟨slX, hX⟩ := ((u₄.trans u₅).trans u₆) L₀ oL hoL (fun vs q => by rw [hLd] at q; cases q)
  have N₆ : News base L h₆ ((D, dictOf es c) :: (e, (⟨.ref 51, some D, .fields vs', osl⟩ : Obj)) :: (L₀, { oL with slots := slX }) :: news) := fun y hy => by
    rcases List.mem_cons.mp hy with rfl | hy
    · exact ⟨f₆.1 _ _ hD, ⟨fun z => (by have z' : D = L := z; rw [z', hL] at hD; cases hD), hDb⟩⟩
    · rcases List.mem_cons.mp hy with rfl | hy
      · refine ⟨he', fun z => ?_, hfresh _ f₆.2.1⟩
        obtain ⟨oL, es', ep, hoL, hLd, _⟩ := F₆.ns
        dsimp only at z
        rw [← z, he'] at hoL
        cases hoL
        cases hLd
      · rcases List.mem_cons.mp hy with rfl | hy
        · exact ⟨hX, hLL, hb₀⟩
        exact ⟨f₆.1 _ _ (hl y hy).1, ⟨fun z => (by have := (hl y hy).1; rw [z, hL] at this; cases this), (hl y hy).2⟩⟩
  refine stN (s := { s' with heap := h₆ }) F₆ N₆ (fun h₇ F₇ N₇ => ?_) hk hlo
  exact k h₇ D es c vs' osl _ tkw { oL with slots := slX } (fun h hh => ⟨_, esL, epL, hh, hLd, hLk, hLf⟩) F₇ N₇ hw
end

/-- the caught one's word -/
theorem ada_word_get {w : World} {A : Around} {E : Value → Shared → Prop} {s : Shared} {h₀ : Heap} {L e D : Addr} {m : Str → Option Value} {news : List (Addr × Obj)} {es : List DictEntry} {c : Nat} {vs : Array Value} {sl : Array (Option Value)} {v : Value} {expr : Bool} {Q : Value → Shared → Prop}
    (F : Fr h₀ L s.heap m) (X₀ : (hd.heap_39 w.params).In h₀) (N : News h₀ L s.heap news) (hD : (D, dictOf es c) ∈ news) (he : (e, (⟨.ref 51, some D, .fields vs, sl⟩ : Obj)) ∈ news) (hw : getL "word" es = some (some v)) (hv : handedIn v = true) (h : Q v { s with toks := s.toks + 1 }) :
    wpAny (model PySem.Challenge.rw_pq0001_01.row.prog w) A (getAttr (.ref e) (Str.ofString "word") expr) Q E s := by
  have X := X₀.keeps F.keep
  have I : InstAt s.heap e ⟨.ref 51, some D, .fields vs, sl⟩ 51 (some (dictOf es c)) := ⟨(N _ he).1, rfl, rfl, (N _ hD).1⟩
  refine exc_get X I (ada_ga w) (ada_gx w) (findObj_own (attr := none) ?_ (ada_word w) rfl hw) hv (ada_base w) h
  obtain ⟨cd, hc, hh, _⟩ := ada_cls w
  unfold hasDictIn
  rw [hc]
  exact hh
end Mine

end
section
open PySem PySem.W PyProof.Rows PySem.Spec PySem.Calls
set_option maxRecDepth 100000
set_option maxHeartbeats 1000000
namespace Mine
/-- as Does, of a call from a frame that stands right upon the base; nothing is raised out of it -/
def DoesL (w : World) (f : Addr) (k : Nat) (vs : List Value) (news : List (Addr × Obj)) (Post : Value → List (Addr × Obj) → Prop) : Prop :=
  ∀ (loose : List Str) (mean : ExcName → Option Value) (mg mb : Str → Option Value) (dp un : Nat) (gd : Option (List Code)) (cn : Str) (cs : Scope) (a : Addr) (ccd : Value) (cl : List (Str × Addr)) (outer : List Env) (A₀ : Around) (h₀ : Heap) (L : Addr) (m : Str → Option Value) (s : Shared) (Q E : Value → Shared → Prop),
    Below A₀ h₀ outer h₀ → Fr h₀ L s.heap m → (hd.heap_39 w.params).In h₀ → News h₀ L s.heap news → Top hd.view_39 loose mean mg mb h₀ → cs.kind = .function → dp + k < recursionLimit → un + 8 * k < cLine →
    (∀ r news' h' tk', Fr h₀ L h' m → News h₀ L h' news' → Post r news' → Q r { s with heap := h', toks := tk' }) →
    wpAny (model PySem.Challenge.rw_pq0001_01.row.prog w) (ktrTop dp un gd cn cs L a ccd cl outer) (call (.ref f) vs) Q E s
theorem above2 {h₀ g h : Heap} {L L' : Addr} {m m' : Str → Option Value} (FG : Fr h₀ L g m) (F : Fr g L' h m') : h₀.objs.size ≤ L' ∧ L ≠ L' ∧ h₀.get? L = none := by
  obtain ⟨o, _, _, ho, _⟩ := FG.ns
  have h1 : @LT.lt Nat _ L g.objs.size := Heap.lt_size ho
  have h2 : @LE.le Nat _ h₀.objs.size L := FG.above
  have h3 : @LE.le Nat _ g.objs.size L' := F.above
  exact ⟨Nat.le_trans h2 (Nat.le_of_lt (Nat.lt_of_lt_of_le h1 h3)), Nat.ne_of_lt (Nat.lt_of_lt_of_le h1 h3), Heap.get?_none_of_le h2⟩

local macro_rules | `(tactic| walk_at "a pad") => `(tactic| skip)
local macro_rules | `(tactic| walk_at "b pad") => `(tactic| skip)
local macro_rules | `(tactic| walk_at "call ref") => `(tactic| (k_here; (with_reducible show wpAny _ _ (call (Value.ref _) [_, _]) _ _ _); k_dflt (refine' Does.use (by assumption : Does _ _ _ _ _ _ _) ?k1 ?k2 ?k3 ?k4 ?k5 ?kK ?kd ?ku ?_ ?_; (case k4 => k_asm); (case k1 => k_asm); (case k2 => k_asm); (case k3 => k_asm); (case k5 => k_asm); (case kK => exact rfl); (case kd => ktr_room); (case ku => ktr_units)); (all_goals first | (intro r9 n9 h9 tk9 F9 N9 P9; exact False.elim P9) | (intro e9 W9 h9 tk9 TH9 ns9 UH9 P9; subst P9; (try dsimp only); (try k_fold)))))
local macro_rules | `(tactic| walk_at "noteFrame ref") => `(tactic| (k_here; k_dflt (refine' caught_ada rfl ?k1 ?k2 ?k3 ?k4 ?k5 ?k6 ?k7 ?k8 ?_; (case k1 => assumption); (case k2 => assumption); (case k3 => exact (above2 (by assumption) (by assumption)).1); (case k4 => exact Heap.UpToSlots.ns (by assumption) (Fr.ns (by assumption))); (case k5 => exact (above2 (by assumption) (by assumption)).2.1); (case k6 => exact (above2 (by assumption) (by assumption)).2.2); (case k7 => k_asm); (case k8 => k_asm)); intro h9 D9 es9 c9 vs9 sl9 tk9 tkw9 oX9 hX9 F9 N9 hw9; (try dsimp only); (try k_fold)))
local macro_rules | `(tactic| walk_at "getAttr ref") => `(tactic| (k_here; (with_reducible show wpAny _ _ (getAttr (Value.ref _) (Str.ofString "word") _) _ _ _); k_dflt (refine' ada_word_get ?k1 ?k2 ?k3 ?k4 ?k5 ?k6 ?k7 ?_; (case k1 => k_asm); (case k2 => k_asm); (case k3 => k_asm); (case k4 => k_mem); (case k5 => k_mem); (case k6 => assumption); (case k7 => exact rfl); k_whole)))

theorem back_to {h₀ h h' : Heap} {L L' : Addr} {m m' : Str → Option Value} {news : List (Addr × Obj)} {x1 x2 : Addr × Obj} {oX : Obj} (F₀ : Fr h₀ L h m) (N₀ : News h₀ L h news) (hX : ∀ h : Heap, h.get? L = some oX → h.Ns L m) (F' : Fr h₀ L' h' m') (N' : News h₀ L' h' (x1 :: x2 :: (L, oX) :: news)) :
    Fr h₀ L h' m ∧ News h₀ L h' news :=
  ⟨⟨hX h' (N' (L, oX) (.tail _ (.tail _ (.head _)))).1, F'.keep, F₀.above⟩, fun p hp => ⟨(N' p (.tail _ (.tail _ (.tail _ hp)))).1, (N₀ p hp).2.1, (N₀ p hp).2.2⟩⟩

theorem raised_67 (w : World) (k : Nat) (v1 v2 : Value) (news : List (Addr × Obj)) (W : Str) (C : Does w 67 k [v1, v2] news (fun _ _ => False) (fun W' => W' = W)) :
    DoesL w 172 (k + 2) [.ref 67, v1, v2] news (fun r n => n = news ∧ ∃ t, r = .str W t) := by
  unfold DoesL
  k_fill
  intro loose mean mg mb dp un gd cn cs a' ccd cl outer A₀ h₀ L m s Q E B F X N T hk hdp hun hret
  refine wpAny_call ?_
  k_dflt (refine' code_defY ?k1 ?k2 ?k3 ?k4 ?k5 ?kA ?kF ?kK ?k6 ?k7 ?k8 ?k9 ?kB ?_ ?c2 ?c3 ?c4 ?c5; (case kA => exact rfl); (case kF => exact rfl); (case kK => assumption); (case k1 => k_asm); (case k2 => k_asm); (case k3 => k_asm); (case k4 => k_asm); (case k5 => k_asm); (case k6 => k_is); (case k7 => k_is); (case k8 => ktr_room); (case k9 => exact BindsTo.of_eq rfl); (case c5 => decide); (case kB => exact locs rfl); (case c2 => exact rfl); (case c3 => exact rfl); (case c4 => exact rfl); k_whole)
  intro g' L' h' FG' F' N' B' X' T'
  (try dsimp only)
  (try k_lift B')
  (try k_fold)
  k_steps
  have hb := back_to F N (by assumption) (by assumption : Fr h₀ L' _ _) (by assumption)
  exact hret _ news _ _ hb.1 hb.2 ⟨rfl, _, rfl⟩

theorem raised_95 (w : World) (k : Nat) (v1 v2 : Value) (news : List (Addr × Obj)) (W : Str) (C : Does w 95 k [v1, v2] news (fun _ _ => False) (fun W' => W' = W)) :
    DoesL w 172 (k + 2) [.ref 95, v1, v2] news (fun r n => n = news ∧ ∃ t, r = .str W t) := by
  unfold DoesL
  k_fill
  intro loose mean mg mb dp un gd cn cs a' ccd cl outer A₀ h₀ L m s Q E B F X N T hk hdp hun hret
  refine wpAny_call ?_
  k_dflt (refine' code_defY ?k1 ?k2 ?k3 ?k4 ?k5 ?kA ?kF ?kK ?k6 ?k7 ?k8 ?k9 ?kB ?_ ?c2 ?c3 ?c4 ?c5; (case kA => exact rfl); (case kF => exact rfl); (case kK => assumption); (case k1 => k_asm); (case k2 => k_asm); (case k3 => k_asm); (case k4 => k_asm); (case k5 => k_asm); (case k6 => k_is); (case k7 => k_is); (case k8 => ktr_room); (case k9 => exact BindsTo.of_eq rfl); (case c5 => decide); (case kB => exact locs rfl); (case c2 => exact rfl); (case c3 => exact rfl); (case c4 => exact rfl); k_whole)
  intro g' L' h' FG' F' N' B' X' T'
  (try dsimp only)
  (try k_lift B')
  (try k_fold)
  k_steps
  have hb := back_to F N (by assumption) (by assumption : Fr h₀ L' _ _) (by assumption)
  exact hret _ news _ _ hb.1 hb.2 ⟨rfl, _, rfl⟩

theorem raised_109 (w : World) (k : Nat) (v1 v2 : Value) (news : List (Addr × Obj)) (W : Str) (C : Does w 109 k [v1, v2] news (fun _ _ => False) (fun W' => W' = W)) :
    DoesL w 172 (k + 2) [.ref 109, v1, v2] news (fun r n => n = news ∧ ∃ t, r = .str W t) := by
  unfold DoesL
  k_fill
  intro loose mean mg mb dp un gd cn cs a' ccd cl outer A₀ h₀ L m s Q E B F X N T hk hdp hun hret
  refine wpAny_call ?_
  k_dflt (refine' code_defY ?k1 ?k2 ?k3 ?k4 ?k5 ?kA ?kF ?kK ?k6 ?k7 ?k8 ?k9 ?kB ?_ ?c2 ?c3 ?c4 ?c5; (case kA => exact rfl); (case kF => exact rfl); (case kK => assumption); (case k1 => k_asm); (case k2 => k_asm); (case k3 => k_asm); (case k4 => k_asm); (case k5 => k_asm); (case k6 => k_is); (case k7 => k_is); (case k8 => ktr_room); (case k9 => exact BindsTo.of_eq rfl); (case c5 => decide); (case kB => exact locs rfl); (case c2 => exact rfl); (case c3 => exact rfl); (case c4 => exact rfl); k_whole)
  intro g' L' h' FG' F' N' B' X' T'
  (try dsimp only)
  (try k_lift B')
  (try k_fold)
  k_steps
  have hb := back_to F N (by assumption) (by assumption : Fr h₀ L' _ _) (by assumption)
  exact hret _ news _ _ hb.1 hb.2 ⟨rfl, _, rfl⟩

end Mine

end
section
open PySem PySem.W PyProof.Rows PySem.Spec PySem.Calls
set_option maxRecDepth 100000
set_option maxHeartbeats 2000000
namespace Mine
/-- the least form, its bottom above nought, equal by products across to top over bottom -/
structure Least (P Q top bot : Int) : Prop where
  q1 : 1 ≤ Q
  g : Int.gcd P Q = 1
  eq : P * bot = top * Q
  s1 : Sz 2400 P
  s2 : Sz 2400 Q
/-- (p, q) is what make_ratio makes of a and b -/
structure Rat (p q a b : Int) : Prop where
  q1 : 1 ≤ q
  g : Int.gcd p q = 1
  s1 : Sz 54 p
  s2 : Sz 6 q
  a1 : Sz 54 a
  b1 : Sz 6 b
  k : ∃ k, k ≠ 0 ∧ a = k * p ∧ b = k * q
section
variable {x y : Int}
theorem fd_exact {a b : Int} (hb : 0 < b) (h : b ∣ a) : b * a.fdiv b = a := by
  rw [Int.fdiv_eq_ediv_of_nonneg _ (by omega)]
  exact Int.mul_ediv_cancel' h
theorem mk_facts (hy : y ≠ 0) : 1 ≤ rBot x y ∧ Int.gcd (rTop x y) (rBot x y) = 1 ∧ ∃ k, k ≠ 0 ∧ x = k * rTop x y ∧ y = k * rBot x y := by
  have hg := gcd_pos9 (x := x) hy
  have d1 : (Int.gcd x y : Int) ∣ x := Int.gcd_dvd_left _ _
  have d2 : (Int.gcd x y : Int) ∣ y := Int.gcd_dvd_right _ _
  have key : ∀ a b : Int, 0 < b → (Int.gcd x y : Int) ∣ a → (Int.gcd x y : Int) ∣ b → Int.gcd a b = Int.gcd x y → 1 ≤ b.fdiv (Int.gcd x y) ∧ Int.gcd (a.fdiv (Int.gcd x y)) (b.fdiv (Int.gcd x y)) = 1 ∧ (a = Int.gcd x y * a.fdiv (Int.gcd x y) ∧ b = Int.gcd x y * b.fdiv (Int.gcd x y)) := by
    intro a b hb da db hab
    have e1 := fd_exact hg da
    have e2 := fd_exact hg db
    refine ⟨?_, ?_, e1.symm, e2.symm⟩
    · have : 0 < b.fdiv (Int.gcd x y) := by
        rw [← e2, Int.mul_comm] at hb
        exact Int.pos_of_mul_pos_left hb hg
      omega
    · have h3 : Int.gcd (Int.gcd x y * a.fdiv (Int.gcd x y)) (Int.gcd x y * b.fdiv (Int.gcd x y)) = Int.gcd x y := by rw [e1, e2, hab]
      rw [Int.gcd_mul_left] at h3
      have h4 : ((Int.gcd x y : Int)).natAbs = Int.gcd x y := by simp
      rw [h4] at h3
      have h5 : 0 < Int.gcd x y := by omega
      exact Nat.eq_of_mul_eq_mul_left h5 (by rw [h3, Nat.mul_one])
  unfold rTop rBot
  by_cases hn : y < 0
  · rw [if_pos hn, if_pos hn]
    obtain ⟨h1, h2, h3, h4⟩ := key (-x) (-y) (by omega) (Int.dvd_neg.mpr d1) (Int.dvd_neg.mpr d2) (gcd_negs x y)
    refine ⟨h1, h2, -(Int.gcd x y : Int), by omega, ?_, ?_⟩
    · rw [Int.neg_mul]; omega
    · rw [Int.neg_mul]; omega
  · rw [if_neg hn, if_neg hn]
    obtain ⟨h1, h2, h3, h4⟩ := key x y (by omega) d1 d2 rfl
    exact ⟨h1, h2, (Int.gcd x y : Int), by omega, h3, h4⟩
theorem natAbs_of_mul {a k p : Int} (hk : k ≠ 0) (e : a = k * p) : p.natAbs ≤ a.natAbs := by
  rw [e, Int.natAbs_mul]
  exact Nat.le_mul_of_pos_left _ (by omega)
theorem top_le (hy : y ≠ 0) : (rTop x y).natAbs ≤ x.natAbs := by
  obtain ⟨_, _, k, hk, e, _⟩ := mk_facts (x := x) hy
  exact natAbs_of_mul hk e
theorem bot_le (hy : y ≠ 0) : (rBot x y).natAbs ≤ y.natAbs := by
  obtain ⟨_, _, k, hk, _, e⟩ := mk_facts (x := x) hy
  exact natAbs_of_mul hk e
theorem two_gr : (2 : Nat) ^ 2300 ≤ 10 ^ 700 := by decide +kernel
theorem le_gr {z : Int} (h : z.natAbs ≤ 10 ^ 700) : (z.natAbs : Int) ≤ 10 ^ 700 := by
  have e : ((10 : Int) ^ 700) = (((10 : Nat) ^ 700 : Nat) : Int) := by rw [Int.natCast_pow]; rfl
  rw [e]
  exact Int.ofNat_le.mpr h
theorem bigOk_of (hy : y ≠ 0) (h1 : Sz 2300 x) (h2 : Sz 2300 y) : BigOk x y := by
  have a1 : (rTop x y).natAbs ≤ 10 ^ 700 := Nat.le_trans (Nat.le_of_lt (Nat.lt_of_le_of_lt (top_le hy) h1.out)) two_gr
  have a2 : (rBot x y).natAbs ≤ 10 ^ 700 := Nat.le_trans (Nat.le_of_lt (Nat.lt_of_le_of_lt (bot_le hy) h2.out)) two_gr
  have b1 := le_gr a1
  have b2 := le_gr a2
  refine ⟨by rw [absI_natAbs]; exact b1, Int.le_trans ?_ b2⟩
  omega
theorem least_of {t top bot : Int} (hy : y ≠ 0) (hb : BigOk x y) (ht : top = t * x) (hb' : bot = t * y) : Least (rTop x y) (rBot x y) top bot := by
  obtain ⟨h1, h2, k, hk, e1, e2⟩ := mk_facts (x := x) hy
  refine ⟨h1, h2, ?_, sz_of_le hb.1, sz_of_le (by rw [absI_pos (by omega)]; exact hb.2)⟩
  rw [ht, hb']
  generalize rTop x y = P at *
  generalize rBot x y = Q at *
  rw [e1, e2]
  simp only [Int.mul_comm, Int.mul_left_comm, Int.mul_assoc]
theorem rat_of {a b : Int} (ha : Sz 54 a) (hb : Sz 6 b) (h0 : b ≠ 0) : Rat (rTop a b) (rBot a b) a b := by
  obtain ⟨h1, h2, k, hk, e1, e2⟩ := mk_facts (x := a) h0
  exact ⟨h1, h2, ha.of_le (top_le h0), hb.of_le (bot_le h0), ha, hb, k, hk, e1, e2⟩
end
theorem part_sz1 {A : Int} (h : absI A ≤ 10 ^ 16) : Sz 54 A := by
  refine ⟨?_⟩
  rw [absI_natAbs] at h
  have : (10 : Int) ^ 16 = 10000000000000000 := by decide
  have : (2 : Nat) ^ 54 = 18014398509481984 := by decide
  omega
theorem part_sz2 {A : Int} (h : absI A ≤ 60) : Sz 6 A := by
  refine ⟨?_⟩
  rw [absI_natAbs] at h
  have : (2 : Nat) ^ 6 = 64 := by decide
  omega
section
variable {p q a b p' q' c d : Int}
theorem Rat.least (r : Rat p q a b) : Least p q a b := by
  obtain ⟨k, hk, e1, e2⟩ := r.k
  refine ⟨r.q1, r.g, ?_, r.s1.mono (by decide), r.s2.mono (by decide)⟩
  rw [e1, e2]
  simp only [Int.mul_comm, Int.mul_left_comm]
theorem Rat.neg (r : Rat p q a b) : Least (-p) q (-a) b := by
  have l := r.least
  refine ⟨l.q1, by rw [Int.neg_gcd]; exact l.g, ?_, l.s1.neg, l.s2⟩
  rw [Int.neg_mul, Int.neg_mul, l.eq]
theorem Rat.sum (r : Rat p q a b) (r' : Rat p' q' c d) : q * q' ≠ 0 ∧ BigOk (p * q' + p' * q) (q * q') ∧ Least (rTop (p * q' + p' * q) (q * q')) (rBot (p * q' + p' * q) (q * q')) (a * d + c * b) (b * d) := by
  have h0 : q * q' ≠ 0 := Int.ne_of_gt (Int.mul_pos (by have := r.q1; omega) (by have := r'.q1; omega))
  have hb : BigOk (p * q' + p' * q) (q * q') := bigOk_of h0 ((Sz.add (r.s1.mul r'.s2) (r'.s1.mul r.s2)).mono (by decide)) ((r.s2.mul r'.s2).mono (by decide))
  refine ⟨h0, hb, ?_⟩
  obtain ⟨k, hk, e1, e2⟩ := r.k
  obtain ⟨k', hk', e1', e2'⟩ := r'.k
  refine least_of (t := k * k') h0 hb ?_ ?_
  · rw [e1, e2, e1', e2', Int.mul_add]
    simp only [Int.mul_comm, Int.mul_left_comm, Int.mul_assoc]
  · rw [e2, e2']
    simp only [Int.mul_left_comm, Int.mul_assoc]
theorem Rat.diff (r : Rat p q a b) (r' : Rat p' q' c d) : q * q' ≠ 0 ∧ BigOk (p * q' - p' * q) (q * q') ∧ Least (rTop (p * q' - p' * q) (q * q')) (rBot (p * q' - p' * q) (q * q')) (a * d - c * b) (b * d) := by
  have h0 : q * q' ≠ 0 := Int.ne_of_gt (Int.mul_pos (by have := r.q1; omega) (by have := r'.q1; omega))
  have hb : BigOk (p * q' - p' * q) (q * q') := bigOk_of h0 ((Sz.sub (r.s1.mul r'.s2) (r'.s1.mul r.s2)).mono (by decide)) ((r.s2.mul r'.s2).mono (by decide))
  refine ⟨h0, hb, ?_⟩
  obtain ⟨k, hk, e1, e2⟩ := r.k
  obtain ⟨k', hk', e1', e2'⟩ := r'.k
  refine least_of (t := k * k') h0 hb ?_ ?_
  · rw [e1, e2, e1', e2', Int.mul_sub]
    simp only [Int.mul_comm, Int.mul_left_comm, Int.mul_assoc]
  · rw [e2, e2']
    simp only [Int.mul_left_comm, Int.mul_assoc]
theorem Rat.prod (r : Rat p q a b) (r' : Rat p' q' c d) : q * q' ≠ 0 ∧ BigOk (p * p') (q * q') ∧ Least (rTop (p * p') (q * q')) (rBot (p * p') (q * q')) (a * c) (b * d) := by
  have h0 : q * q' ≠ 0 := Int.ne_of_gt (Int.mul_pos (by have := r.q1; omega) (by have := r'.q1; omega))
  have hb : BigOk (p * p') (q * q') := bigOk_of h0 ((r.s1.mul r'.s1).mono (by decide)) ((r.s2.mul r'.s2).mono (by decide))
  refine ⟨h0, hb, ?_⟩
  obtain ⟨k, hk, e1, e2⟩ := r.k
  obtain ⟨k', hk', e1', e2'⟩ := r'.k
  refine least_of (t := k * k') h0 hb ?_ ?_
  · rw [e1, e1']
    simp only [Int.mul_left_comm, Int.mul_assoc]
  · rw [e2, e2']
    simp only [Int.mul_left_comm, Int.mul_assoc]
theorem Rat.top_zero (r : Rat p q a b) : a = 0 ↔ p = 0 := by
  obtain ⟨k, hk, e1, e2⟩ := r.k
  rw [e1]
  constructor
  · intro h
    exact (Int.mul_eq_zero.mp h).resolve_left hk
  · intro h; rw [h, Int.mul_zero]
theorem Rat.quot (r : Rat p q a b) (r' : Rat p' q' c d) (hc : c ≠ 0) : q * p' ≠ 0 ∧ BigOk (p * q') (q * p') ∧ Least (rTop (p * q') (q * p')) (rBot (p * q') (q * p')) (a * d) (b * c) := by
  have hp : p' ≠ 0 := fun h => hc (r'.top_zero.mpr h)
  have h0 : q * p' ≠ 0 := Int.mul_ne_zero (by have := r.q1; omega) hp
  have hb : BigOk (p * q') (q * p') := bigOk_of h0 ((r.s1.mul r'.s2).mono (by decide)) ((r.s2.mul r'.s1).mono (by decide))
  refine ⟨h0, hb, ?_⟩
  obtain ⟨k, hk, e1, e2⟩ := r.k
  obtain ⟨k', hk', e1', e2'⟩ := r'.k
  refine least_of (t := k * k') h0 hb ?_ ?_
  · rw [e1, e2']
    simp only [Int.mul_left_comm, Int.mul_assoc]
  · rw [e2, e1']
    simp only [Int.mul_left_comm, Int.mul_assoc]
end
section
variable {p q a b p' q' c d : Int}
/-- the order, as the law reckons it -/
theorem Rat.order (r : Rat p q a b) (r' : Rat p' q' c d) : (b * d < 0 → (0 < -(a * d - c * b) ↔ p' * q < p * q') ∧ (-(a * d - c * b) < 0 ↔ p * q' < p' * q)) ∧ (¬ b * d < 0 → (0 < a * d - c * b ↔ p' * q < p * q') ∧ (a * d - c * b < 0 ↔ p * q' < p' * q)) := by
  obtain ⟨k, hk, e1, e2⟩ := r.k
  obtain ⟨k', hk', e1', e2'⟩ := r'.k
  have h1 : b * d = (k * k') * (q * q') := by rw [e2, e2']; simp only [Int.mul_left_comm, Int.mul_assoc]
  have h2 : a * d - c * b = (k * k') * (p * q' - p' * q) := by
    rw [e1, e2, e1', e2', Int.mul_sub]
    simp only [Int.mul_comm, Int.mul_left_comm]
  have h3 : 0 < q * q' := Int.mul_pos (by have := r.q1; omega) (by have := r'.q1; omega)
  have h4 : k * k' ≠ 0 := Int.mul_ne_zero hk hk'
  rw [h1, h2]
  generalize k * k' = t at *
  generalize q * q' = z at *
  have hx : ∀ x : Int, (0 < t → (0 < t * x ↔ 0 < x) ∧ (t * x < 0 ↔ x < 0)) ∧ (t < 0 → (0 < t * x ↔ x < 0) ∧ (t * x < 0 ↔ 0 < x)) := by
    intro x
    refine ⟨fun ht => ?_, fun ht => ?_⟩
    · rcases Int.lt_trichotomy x 0 with h | h | h
      · have := Int.mul_neg_of_pos_of_neg ht h; omega
      · rw [h, Int.mul_zero]; omega
      · have := Int.mul_pos ht h; omega
    · rcases Int.lt_trichotomy x 0 with h | h | h
      · have := Int.mul_pos_of_neg_of_neg ht h; omega
      · rw [h, Int.mul_zero]; omega
      · have := Int.mul_neg_of_neg_of_pos ht h; omega
  have ht : t < 0 ∨ 0 < t := by omega
  refine ⟨fun hn => ?_, fun hn => ?_⟩
  · have t0 : t < 0 := by
      rcases ht with h | h
      · exact h
      · have := ((hx z).1 h).1; omega
    have := (hx (p * q' - p' * q)).2 t0
    omega
  · have t0 : 0 < t := by
      rcases ht with h | h
      · have := ((hx z).2 h).2; omega
      · exact h
    have := (hx (p * q' - p' * q)).1 t0
    omega

theorem pow_natAbs_le {k : Nat} {x : Int} (h : Sz k x) (n : Nat) : (x ^ n).natAbs ≤ 2 ^ (k * n) := by
  rw [Int.natAbs_pow, Nat.pow_mul]
  exact Nat.pow_le_pow_left (Nat.le_of_lt h.out) n
theorem two_small : (2 : Nat) ^ 432 ≤ 10 ^ 700 := by decide +kernel
theorem powOk_small {k : Nat} (h1 : Sz 54 p) (h2 : Sz 54 q) (hq : 0 < q) (hk : k ≤ 8) : PowOk p q k := by
  have le : ∀ x : Int, Sz 54 x → (x ^ k).natAbs ≤ 10 ^ 700 := fun x hx => Nat.le_trans (Nat.le_trans (pow_natAbs_le hx k) (Nat.pow_le_pow_right (by decide) (by omega))) two_small
  have b1 := le_gr (le p h1)
  have b2 := le_gr (le q h2)
  have hp := Int.pow_pos (n := q) (m := k) hq
  refine ⟨by rw [absI_natAbs]; exact b1, Int.le_trans ?_ b2⟩
  omega
theorem least_pow {top bot : Int} (hg : Int.gcd p q = 1) (hq : 0 < q) (he : p * bot = top * q) {n : Nat} (ho : PowOk p q n) : Least (p ^ n) (q ^ n) (top ^ n) (bot ^ n) := by
  have hp := Int.pow_pos (n := q) (m := n) hq
  refine ⟨by omega, gcd_pow n hg, ?_, ho.sz1, ho.sz2 hq⟩
  rw [← Int.mul_pow, ← Int.mul_pow, he]
/-- the other way up -/
theorem Rat.inv (r : Rat p q a b) (ha : p ≠ 0) : 1 * p ≠ 0 ∧ BigOk (1 * q) (1 * p) ∧ Int.gcd (rTop (1 * q) (1 * p)) (rBot (1 * q) (1 * p)) = 1 ∧ 0 < rBot (1 * q) (1 * p) ∧ rTop (1 * q) (1 * p) * a = b * rBot (1 * q) (1 * p) ∧ Sz 54 (rTop (1 * q) (1 * p)) ∧ Sz 54 (rBot (1 * q) (1 * p)) := by
  have h0 : 1 * p ≠ 0 := by rw [Int.one_mul]; exact ha
  have z1 : Sz 54 (1 * q) := by rw [Int.one_mul]; exact r.s2.mono (by decide)
  have z2 : Sz 54 (1 * p) := by rw [Int.one_mul]; exact r.s1
  have hb : BigOk (1 * q) (1 * p) := bigOk_of h0 (z1.mono (by decide)) (z2.mono (by decide))
  obtain ⟨h1, h2, k, hk, e1, e2⟩ := mk_facts (x := 1 * q) h0
  obtain ⟨k', hk', e1', e2'⟩ := r.k
  refine ⟨h0, hb, h2, by omega, ?_, z1.of_le (top_le h0), z2.of_le (bot_le h0)⟩
  generalize rTop (1 * q) (1 * p) = P at *
  generalize rBot (1 * q) (1 * p) = Q at *
  rw [Int.one_mul] at e1 e2
  rw [e1', e2', e1, e2]
  simp only [Int.mul_comm, Int.mul_left_comm]
end
/-- three halves grow too great -/
theorem three_big {k : Nat} (h : 2000 ≤ k) : ¬ PowOk 3 2 k := fun z => by
  have h1 := z.1
  rw [absI_pos (Int.pow_pos (by decide))] at h1
  have e : ((3 : Int) ^ k) = (((3 : Nat) ^ k : Nat) : Int) := by rw [Int.natCast_pow]; rfl
  have e2 : ((10 : Int) ^ 700) = (((10 : Nat) ^ 700 : Nat) : Int) := by rw [Int.natCast_pow]; rfl
  rw [e, e2] at h1
  have h2 : (3 : Nat) ^ k ≤ 10 ^ 700 := Int.ofNat_le.mp h1
  have h3 : (3 : Nat) ^ 2000 ≤ 3 ^ k := Nat.pow_le_pow_right (by decide) h
  exact absurd (Nat.le_trans h3 h2) (by decide +kernel)
/-- ten to the seven hundred and first over a small odd number is too great -/
theorem ten_big {z : Int} (h0 : 0 ≤ z) (h8 : z ≤ 8) : 1 + 2 * z ≠ 0 ∧ ¬ BigOk (10 ^ 701) (1 + 2 * z) := by
  have hz : z = 0 ∨ z = 1 ∨ z = 2 ∨ z = 3 ∨ z = 4 ∨ z = 5 ∨ z = 6 ∨ z = 7 ∨ z = 8 := by omega
  refine ⟨by omega, ?_⟩
  unfold BigOk
  rcases hz with rfl | rfl | rfl | rfl | rfl | rfl | rfl | rfl | rfl <;> decide +kernel
theorem sign_pow {z n : Int} (h0 : 0 ≤ z) (e : n = 10 ^ 40 + z) : (-1 : Int) ^ n.toNat = (-1) ^ z.toNat := by
  have h : n.toNat = 2 * 5000000000000000000000000000000000000000 + z.toNat := by
    have : (10 : Int) ^ 40 = 10000000000000000000000000000000000000000 := by decide +kernel
    omega
  rw [h, Int.pow_add, Int.pow_mul]
  have h2 : (-1 : Int) ^ 2 = 1 := by decide
  rw [h2, Int.one_pow, Int.one_mul]
end Mine

end
section
open PySem PySem.W PyProof.Rows PySem.Spec PySem.Calls
set_option maxRecDepth 100000
set_option maxHeartbeats 1000000
namespace Mine
local macro_rules | `(tactic| walk_at "s9") => `(tactic| omega)
local macro_rules | `(tactic| walk_at "leaving ref") => `(tactic| (k_here; k_dflt (refine' thrown_leave ?k1 ?k2 ?k3 ?_; (case k2 => assumption); (case k1 => k_asm); (case k3 => assumption); k_whole); intro h9 TH9 UH9; (try dsimp only); (try k_fold)))
/-- (1, 1) over the fraction -/
theorem flip_does {w : World} {a b : Addr} {p q x y : Int} {t1 t2 t1' t2' : Tok} {c c' : Nat} {news : List (Addr × Obj)} (ha : (a, tup2 1 t1 1 t2 c) ∈ news) (hb : (b, tup2 p t1' q t2' c') ∈ news) (r : Rat p q x y) (_ _ _ : True) :
    Does w 95 8 [.ref a, .ref b] news (fun r n => p ≠ 0 ∧ TupBack (rTop (1 * q) (1 * p)) (rBot (1 * q) (1 * p)) news r n) (fun W => p = 0 ∧ W = Str.ofString "constraint_error") := by
  refine (quotient_does w a b 1 1 p q t1 t2 t1' t2' c c' news ha hb ⟨by decide⟩ ⟨by decide⟩ (r.s1.mono (by decide)) (r.s2.mono (by decide))).mono (fun r n P => ?_) (fun W P => ?_)
  · obtain ⟨h0, _, h2⟩ := P
    exact ⟨fun h => h0 (by rw [h, Int.mul_zero]), h2⟩
  · rcases P with ⟨z, h⟩ | ⟨h0, h1, _⟩
    · rw [Int.one_mul] at z; exact ⟨z, h⟩
    · exact absurd (r.inv (fun h => h0 (by rw [h, Int.mul_zero]))).2.1 h1
/-- the power of the flipped one -/
theorem flipped_pow {w : World} {D : Addr} {p q x y n : Int} {t1 t2 tn : Tok} {c : Nat} {news : List (Addr × Obj)} (hD : (D, tup2 (rTop (1 * q) (1 * p)) t1 (rBot (1 * q) (1 * p)) t2 c) ∈ news) (r : Rat p q x y) (hp : p ≠ 0) (h0 : 0 ≤ n) (h8 : n ≤ 8) (_ : True) :
    Does w 109 12 [.ref D, .int n tn] news (fun r m => TupBack (rTop (1 * q) (1 * p) ^ n.toNat) (rBot (1 * q) (1 * p) ^ n.toNat) news r m) (fun _ => False) := by
  obtain ⟨_, _, hg, hq, _, z1, z2⟩ := r.inv hp
  refine (power_does w D _ _ n t1 t2 tn c news hD hg hq (powOk_small z1 z2 hq (by decide)) h0).mono (fun r n P => P.2) (fun W P => ?_)
  obtain ⟨⟨k, hk, ho⟩, _⟩ := P
  exact ho (powOk_small z1 z2 hq (by omega))
local macro_rules | `(tactic| walk_at "call ref") => `(tactic| (k_here; (with_reducible show wpAny _ _ (call (Value.ref 95) _) _ _ _); k_dflt (refine' use_tupx (flip_does ?s1 ?s2 ?s3 ?s4 ?s5 ?s6) ?k1 ?k2 ?k3 ?k4 ?k5 ?kK ?kd ?ku ?_ ?_; (case k4 => k_asm); (case s1 => walk_at "s9"); (case s2 => walk_at "s9"); (case s3 => walk_at "s9"); (case s4 => walk_at "s9"); (case s5 => walk_at "s9"); (case s6 => walk_at "z9"); (case k1 => k_asm); (case k2 => k_asm); (case k3 => k_asm); (case k5 => k_asm); (case kK => exact rfl); (case kd => ktr_room); (case ku => ktr_units)); (all_goals (intros; (try dsimp only); (try k_fold)))))
local macro_rules | `(tactic| walk_at "call ref") => `(tactic| (k_here; (with_reducible show wpAny _ _ (call (Value.ref 109) _) _ _ _); k_dflt (refine' use_tup0 (flipped_pow ?s1 ?s2 ?s3 ?s4 ?s5 ?s6) ?k1 ?k2 ?k3 ?k4 ?k5 ?kK ?kd ?ku ?_; (case k4 => k_asm); (case s1 => walk_at "s9"); (case s2 => walk_at "s9"); (case s3 => walk_at "s9"); (case s4 => walk_at "s9"); (case s5 => walk_at "s9"); (case s6 => walk_at "z9"); (case k1 => k_asm); (case k2 => k_asm); (case k3 => k_asm); (case k5 => k_asm); (case kK => exact rfl); (case kd => ktr_room); (case ku => ktr_units); k_whole); intros; (try dsimp only); (try k_fold)))
theorem power_neg (w : World) (a : Addr) (p q x y n : Int) (t1 t2 tn : Tok) (c : Nat) (news : List (Addr × Obj)) (ha : (a, tup2 p t1 q t2 c) ∈ news) (r : Rat p q x y) (h0 : n < 0) (h8 : -8 ≤ n) :
    Does w 109 20 [.ref a, .int n tn] news (fun r m => p ≠ 0 ∧ TupBack (rTop (1 * q) (1 * p) ^ (-n).toNat) (rBot (1 * q) (1 * p) ^ (-n).toNat) news r m) (fun W => p = 0 ∧ W = Str.ofString "constraint_error") := by
  unfold Does
  k_fill
  intro loose mean mg mb dp un gd cn cs a' ccd cl outer A₀ base h₀ L m s Q E B F X N T hk hdp hun hret hexc
  refine wpAny_call ?_
  k_dflt cell_enter
  k_steps
  · exact hret _ _ _ _ (by k_asm) (cb_drop (by k_asm) (fun x hx => by rcases List.mem_cons.mp hx with rfl | hx; exact .head _; exact .tail _ (.tail _ (.tail _ hx)))) ⟨by assumption, _, _, _, _, rfl, by exact allLt_less (by assumption) (fun x hx => .tail _ (.tail _ hx)), rfl⟩
  · exact exc_out (hexc _ _ _ _) (Thrown.less (by assumption) (fun x hx => .tail _ hx)) (by assumption) (by assumption) (by assumption)

/-- Least, and the law's own top and bottom are not too great -/
structure Fit5 (P Q top bot : Int) : Prop where
  l : Least P Q top bot
  s3 : Sz 5000 top
  s4 : Sz 5000 bot
theorem Rat.fit {p q a b : Int} (r : Rat p q a b) : Fit5 p q a b := ⟨r.least, r.a1.mono (by decide), r.b1.mono (by decide)⟩
theorem Rat.fitN {p q a b : Int} (r : Rat p q a b) : Fit5 (-p) q (-a) b := ⟨r.neg, r.a1.neg.mono (by decide), r.b1.mono (by decide)⟩
theorem sz20 {x : Int} (h1 : -1000 ≤ x) (h2 : x ≤ 1000) : Sz 20 x := ⟨by
  have : (2 : Nat) ^ 20 = 1048576 := by decide
  omega⟩
theorem sz_pow {x z : Int} (h : Sz 54 x) (h8 : z ≤ 8) : Sz 5000 (x ^ z.toNat) :=
  ⟨Nat.lt_of_le_of_lt (Nat.le_trans (pow_natAbs_le h _) (Nat.pow_le_pow_right (by decide) (by omega : 54 * z.toNat ≤ 432))) (Nat.pow_lt_pow_right (by decide) (by decide))⟩
theorem mk_out {x y : Int} {W : Str} (h : MkExc x y W) (h0 : y ≠ 0) (hb : BigOk x y) : False := h.elim (fun z => h0 z.1) (fun z => z.2.1 hb)
theorem same_law {w : World} {a : Addr} {p q x y : Int} {t1 t2 t3 t4 : Tok} {c : Nat} {news : List (Addr × Obj)} (ha : (a, tup2 p t1 q t2 c) ∈ news) (f : Fit5 p q x y) (_ _ _ _ : True) :
    Does w 165 4 [.ref a, .int x t3, .int y t4] news (BoolBack true news) (fun _ => False) :=
  same_does w a p q x y t1 t2 t3 t4 c news ha f.l.q1 f.l.g f.l.eq f.l.s1 f.l.s2 f.s3 f.s4
theorem part_law {w : World} {l : Addr} {i : Int} {tk : Tok} {items : Array Value} {c : Nat} {news : List (Addr × Obj)} (hl : (l, listOf items c) ∈ news) (hs : Short items) (h0 : 0 ≤ i) (h1 : i ≤ 3) (_ _ : True) :
    Does w 179 4 [.ref l, .int i tk] news (fun r n => ∃ A B, (Sz 54 A ∧ Sz 6 B ∧ B ≠ 0) ∧ TupBack A B news r n) (fun _ => False) :=
  (part_does w l i tk items c news hl hs h0 h1).mono (fun _ _ ⟨A, B, ⟨p1, p2, p3⟩, h⟩ => ⟨A, B, ⟨part_sz1 p1, part_sz2 p3, p2⟩, h⟩) (fun _ h => h)
theorem cell_law {w : World} {l : Addr} {i : Int} {tk : Tok} {items : Array Value} {c : Nat} {news : List (Addr × Obj)} (hl : (l, listOf items c) ∈ news) (hs : Short items) (h0 : 0 ≤ i) (h1 : i ≤ 6) (_ _ : True) : Does w 151 2 [.ref l, .int i tk] news (SomeInt news) (fun _ => False) := cell_does w l i tk items c news hl hs h0 h1
theorem make_law {w : World} {a b : Int} {ta tb : Tok} {news : List (Addr × Obj)} (h1 : Sz 54 a) (h2 : Sz 6 b) (h0 : b ≠ 0) (_ _ _ : True) :
    Does w 67 6 [.int a ta, .int b tb] news (fun r n => ∃ p q, (Rat p q a b ∧ Fit5 p q a b) ∧ TupBack p q news r n) (fun _ => False) :=
  (make_does w a b ta tb news (h2.mono (by decide))).mono (fun _ _ P => have r := rat_of h1 h2 h0; ⟨_, _, ⟨r, r.fit⟩, P.2.2⟩) (fun _ P => mk_out P h0 (bigOk_of h0 (h1.mono (by decide)) (h2.mono (by decide))))
theorem make_half {w : World} {x : Int} {ta tb : Tok} {news : List (Addr × Obj)} (h1 : -1000 ≤ x) (h2 : x ≤ 1000) (_ _ _ _ : True) :
    Does w 67 6 [.int x ta, .int 2 tb] news (fun r n => ∃ p q, (0 < q ∧ Sz 2400 p ∧ Sz 2400 q) ∧ TupBack p q news r n) (fun _ => False) :=
  have hx := sz20 h1 h2
  have h2 : Sz 20 2 := ⟨by decide⟩
  have h0 : (2 : Int) ≠ 0 := by decide
  (make_does w x 2 ta tb news (h2.mono (by decide))).mono (fun _ _ P => ⟨_, _, ⟨by have := (mk_facts (x := x) h0).1; omega, (hx.of_le (top_le h0)).mono (by decide), (h2.of_le (bot_le h0)).mono (by decide)⟩, P.2.2⟩) (fun _ P => mk_out P h0 (bigOk_of h0 (hx.mono (by decide)) (h2.mono (by decide))))
theorem sum_law {w : World} {X Y : Addr} {p q a b p' q' c d : Int} {t1 t2 t1' t2' : Tok} {k k' : Nat} {news : List (Addr × Obj)} (hX : (X, tup2 p t1 q t2 k) ∈ news) (hY : (Y, tup2 p' t1' q' t2' k') ∈ news) (r : Rat p q a b) (r' : Rat p' q' c d) (_ _ : True) : Does w 74 8 [.ref X, .ref Y] news (fun r n => ∃ P Q, Fit5 P Q (a * d + c * b) (b * d) ∧ TupBack P Q news r n) (fun _ => False) :=
  have z := r.sum r'
  (sum_does w _ _ p q p' q' t1 t2 t1' t2' k k' news hX hY (r.s1.mono (by decide)) (r.s2.mono (by decide)) (r'.s1.mono (by decide)) (r'.s2.mono (by decide))).mono (fun _ _ P => ⟨_, _, ⟨z.2.2, (Sz.add (r.a1.mul r'.b1) (r'.a1.mul r.b1)).mono (by decide), (r.b1.mul r'.b1).mono (by decide)⟩, P.2.2⟩) (fun _ P => mk_out P z.1 z.2.1)
theorem diff_law {w : World} {X Y : Addr} {p q a b p' q' c d : Int} {t1 t2 t1' t2' : Tok} {k k' : Nat} {news : List (Addr × Obj)} (hX : (X, tup2 p t1 q t2 k) ∈ news) (hY : (Y, tup2 p' t1' q' t2' k') ∈ news) (r : Rat p q a b) (r' : Rat p' q' c d) (_ _ : True) : Does w 81 8 [.ref X, .ref Y] news (fun r n => ∃ P Q, Fit5 P Q (a * d - c * b) (b * d) ∧ TupBack P Q news r n) (fun _ => False) :=
  have z := r.diff r'
  (difference_does w _ _ p q p' q' t1 t2 t1' t2' k k' news hX hY (r.s1.mono (by decide)) (r.s2.mono (by decide)) (r'.s1.mono (by decide)) (r'.s2.mono (by decide))).mono (fun _ _ P => ⟨_, _, ⟨z.2.2, (Sz.sub (r.a1.mul r'.b1) (r'.a1.mul r.b1)).mono (by decide), (r.b1.mul r'.b1).mono (by decide)⟩, P.2.2⟩) (fun _ P => mk_out P z.1 z.2.1)
theorem prod_law {w : World} {X Y : Addr} {p q a b p' q' c d : Int} {t1 t2 t1' t2' : Tok} {k k' : Nat} {news : List (Addr × Obj)} (hX : (X, tup2 p t1 q t2 k) ∈ news) (hY : (Y, tup2 p' t1' q' t2' k') ∈ news) (r : Rat p q a b) (r' : Rat p' q' c d) (_ _ : True) : Does w 88 8 [.ref X, .ref Y] news (fun r n => ∃ P Q, Fit5 P Q (a * c) (b * d) ∧ TupBack P Q news r n) (fun _ => False) :=
  have z := r.prod r'
  (product_does w _ _ p q p' q' t1 t2 t1' t2' k k' news hX hY (r.s1.mono (by decide)) (r.s2.mono (by decide)) (r'.s1.mono (by decide)) (r'.s2.mono (by decide))).mono (fun _ _ P => ⟨_, _, ⟨z.2.2, (r.a1.mul r'.a1).mono (by decide), (r.b1.mul r'.b1).mono (by decide)⟩, P.2.2⟩) (fun _ P => mk_out P z.1 z.2.1)
theorem quot_law {w : World} {X Y : Addr} {p q a b p' q' c d : Int} {t1 t2 t1' t2' : Tok} {k k' : Nat} {news : List (Addr × Obj)} (hX : (X, tup2 p t1 q t2 k) ∈ news) (hY : (Y, tup2 p' t1' q' t2' k') ∈ news) (r : Rat p q a b) (r' : Rat p' q' c d) (_ : True) (hc : c ≠ 0) : Does w 95 8 [.ref X, .ref Y] news (fun r n => ∃ P Q, Fit5 P Q (a * d) (b * c) ∧ TupBack P Q news r n) (fun _ => False) :=
  have z := r.quot r' hc
  (quotient_does w _ _ p q p' q' t1 t2 t1' t2' k k' news hX hY (r.s1.mono (by decide)) (r.s2.mono (by decide)) (r'.s1.mono (by decide)) (r'.s2.mono (by decide))).mono (fun _ _ P => ⟨_, _, ⟨z.2.2, (r.a1.mul r'.b1).mono (by decide), (r.b1.mul r'.a1).mono (by decide)⟩, P.2.2⟩) (fun _ P => mk_out P z.1 z.2.1)
theorem order_law {w : World} {X Y : Addr} {p q a b p' q' c d : Int} {t1 t2 t1' t2' : Tok} {k k' : Nat} {news : List (Addr × Obj)} (hX : (X, tup2 p t1 q t2 k) ∈ news) (hY : (Y, tup2 p' t1' q' t2' k') ∈ news) (r : Rat p q a b) (r' : Rat p' q' c d) (_ _ : True) : Does w 116 2 [.ref X, .ref Y] news (IntBack (ordI (p * q') (p' * q)) news) (fun _ => False) :=
  order_does w _ _ p q p' q' t1 t2 t1' t2' k k' news hX hY (r.s1.mono (by decide)) (r.s2.mono (by decide)) (r'.s1.mono (by decide)) (r'.s2.mono (by decide))
theorem wholes_law {w : World} {X : Addr} {p q a b : Int} {t1 t2 : Tok} {k : Nat} {news : List (Addr × Obj)} (hX : (X, tup2 p t1 q t2 k) ∈ news) (r : Rat p q a b) (_ _ _ _ : True) : Does w 186 4 [.ref X] news (BoolBack true news) (fun _ => False) :=
  wholes_does w X p q t1 t2 k news hX (by have := r.q1; omega) (r.s1.mono (by decide)) (r.s2.mono (by decide))
theorem wholes_half {w : World} {a : Addr} {p q : Int} {t1 t2 : Tok} {c : Nat} {news : List (Addr × Obj)} (ha : (a, tup2 p t1 q t2 c) ∈ news) (hq : 0 < q) (hp : Sz 2400 p) (hl : Sz 2400 q) (_ _ : True) : Does w 186 4 [.ref a] news (BoolBack true news) (fun _ => False) :=
  wholes_does w a p q t1 t2 c news ha hq hp hl
theorem negated_law {w : World} {X : Addr} {p q a b : Int} {t1 t2 : Tok} {k : Nat} {news : List (Addr × Obj)} (hX : (X, tup2 p t1 q t2 k) ∈ news) (r : Rat p q a b) (_ _ _ _ : True) : Does w 102 2 [.ref X] news (fun r n => ∃ P Q, Fit5 P Q (-a) (b) ∧ TupBack P Q news r n) (fun _ => False) :=
  (negated_does w _ p q t1 t2 k news hX).mono (fun _ _ P => ⟨_, _, r.fitN, P⟩) (fun _ h => h)
theorem pow_law {z : Int} {tz : Tok} {w : World} {X : Addr} {p q a b : Int} {t1 t2 : Tok} {k : Nat} {news : List (Addr × Obj)} (hX : (X, tup2 p t1 q t2 k) ∈ news) (r : Rat p q a b) (h0 : 0 ≤ z) (h8 : z ≤ 8) (_ _ : True) : Does w 109 12 [.ref X, .int z tz] news (fun r n => ∃ P Q, Fit5 P Q (a ^ z.toNat) (b ^ z.toNat) ∧ TupBack P Q news r n) (fun _ => False) :=
  have hq : 0 < q := by have := r.q1; omega
  have ok : ∀ k, k ≤ 8 → PowOk p q k := fun k hk => powOk_small r.s1 (r.s2.mono (by decide)) hq hk
  (power_does w _ p q z t1 t2 tz k news hX r.g hq (ok 1 (by decide)) h0).mono (fun _ _ P => ⟨_, _, ⟨least_pow r.g hq r.least.eq P.1, sz_pow r.a1 h8, sz_pow (r.b1.mono (by decide)) h8⟩, P.2⟩) (fun _ ⟨⟨k, hk, ho⟩, _⟩ => ho (ok k (by omega)))
theorem inv_law {z : Int} {tz : Tok} {w : World} {X : Addr} {p q a b : Int} {t1 t2 : Tok} {k : Nat} {news : List (Addr × Obj)} (hX : (X, tup2 p t1 q t2 k) ∈ news) (r : Rat p q a b) (h0 : 0 ≤ z) (h8 : z ≤ 8) (_ : True) (ha : a ≠ 0) : Does w 109 20 [.ref X, .int (-z) tz] news (fun r n => ∃ P Q, Fit5 P Q (b ^ z.toNat) (a ^ z.toNat) ∧ TupBack P Q news r n) (fun _ => False) := by
  have hq : 0 < q := by have := r.q1; omega
  have sa := sz_pow r.a1 h8
  have sb := sz_pow (r.b1.mono (by decide)) h8
  by_cases hz : z = 0
  · subst hz
    refine ((power_does w _ p q (-0) t1 t2 tz k news hX r.g hq (powOk_small r.s1 (r.s2.mono (by decide)) hq (by decide)) (by decide)).up (by decide)).mono (fun r9 n P => ⟨_, _, ⟨?_, sb, sa⟩, P.2⟩) (fun W P => ?_)
    · simp only [Int.neg_zero, Int.toNat_zero, Int.pow_zero]
      exact ⟨by decide, by decide, by decide, ⟨by decide +kernel⟩, ⟨by decide +kernel⟩⟩
    · obtain ⟨⟨k, hk, ho⟩, _⟩ := P
      exact ho (powOk_small r.s1 (r.s2.mono (by decide)) hq (by have : k ≤ 0 := hk; omega))
  · have hp : p ≠ 0 := fun h => ha (r.top_zero.mpr h)
    obtain ⟨_, _, hg', hq', he, z1, z2⟩ := r.inv hp
    refine (power_neg w _ p q a b (-z) t1 t2 tz k news hX r (by omega) (by omega)).mono (fun r9 n P => ⟨_, _, ⟨?_, sb, sa⟩, P.2⟩) (fun W P => (hp P.1).elim)
    rw [Int.neg_neg]
    exact least_pow hg' hq' he (powOk_small z1 z2 hq' (by omega))
theorem unit_ok {p : Int} (hp : p.natAbs ≤ 1) (k : Nat) : PowOk p 1 k := by
  refine ⟨?_, by rw [Int.one_pow]; decide +kernel⟩
  rw [absI_natAbs, Int.natAbs_pow]
  have h1 : p.natAbs ^ k ≤ 1 ^ k := Nat.pow_le_pow_left hp _
  rw [Nat.one_pow] at h1
  exact Int.le_trans (b := 1) (by omega) (by decide +kernel)
section
variable {w : World} {X : Addr} {y z : Int} {t1 t2 tz : Tok} {k : Nat} {news : List (Addr × Obj)}
theorem minus_law (hX : (X, tup2 (-1) t1 1 t2 k) ∈ news) (hy : y = 10 ^ 40) (h0 : 0 ≤ z) (_ _ _ : True) : Does w 109 12 [.ref X, .int (y + z) tz] news (fun r n => TupBack ((-1) ^ z.toNat) 1 news r n) (fun _ => False) := by
  have h1 : (0 : Int) ≤ y := by rw [hy]; decide +kernel
  refine (power_does w _ (-1) 1 (y + z) t1 t2 tz k news hX (by decide) (by decide) (unit_ok (by decide) _) (by omega)).mono (fun r9 n P => ?_) (fun W ⟨⟨k, _, ho⟩, _⟩ => ho (unit_ok (by decide) _))
  have := P.2
  rw [sign_pow h0 (by rw [hy] : y + z = 10 ^ 40 + z), Int.one_pow] at this
  exact this
theorem nought_law (hX : (X, tup2 0 t1 1 t2 k) ∈ news) (hy : y = 10 ^ 40) (_ _ _ _ : True) : Does w 109 12 [.ref X, .int y tz] news (fun r n => TupBack 0 1 news r n) (fun _ => False) := by
  have h1 : (1 : Int) ≤ y := by rw [hy]; decide +kernel
  clear hy
  refine (power_does w _ 0 1 y t1 t2 tz k news hX (by decide) (by decide) (unit_ok (by decide) _) (by omega)).mono (fun r9 n P => ?_) (fun W ⟨⟨k, _, ho⟩, _⟩ => ho (unit_ok (by decide) _))
  have := P.2
  rw [Int.zero_pow (by omega), Int.one_pow] at this
  exact this
end
/-- what «_law_raised» says -/
abbrev Said (w : World) (f : Addr) (k : Nat) (vs : List Value) (news : List (Addr × Obj)) (W : Str) : Prop := DoesL w 172 k (.ref f :: vs) news (fun r n => n = news ∧ ∃ t, r = .str W t)
theorem said_quot {w : World} {X Y : Addr} {p q a b p' q' c d : Int} {t1 t2 t1' t2' : Tok} {k k' : Nat} {news : List (Addr × Obj)} (hX : (X, tup2 p t1 q t2 k) ∈ news) (hY : (Y, tup2 p' t1' q' t2' k') ∈ news) (r : Rat p q a b) (r' : Rat p' q' c d) (_ : True) (hc : c = 0) : Said w 95 10 [.ref X, .ref Y] news (Str.ofString "constraint_error") :=
  have hp : q * p' = 0 := by rw [r'.top_zero.mp hc, Int.mul_zero]
  raised_95 w 8 _ _ news _ ((quotient_does w _ _ p q p' q' t1 t2 t1' t2' k k' news hX hY (r.s1.mono (by decide)) (r.s2.mono (by decide)) (r'.s1.mono (by decide)) (r'.s2.mono (by decide))).mono (fun _ _ P => P.1 hp) (fun _ P => P.elim (fun z => z.2) (fun z => (z.1 hp).elim)))
theorem said_neg {tz : Tok} {w : World} {X : Addr} {p q a b : Int} {t1 t2 : Tok} {k : Nat} {news : List (Addr × Obj)} (hX : (X, tup2 p t1 q t2 k) ∈ news) (r : Rat p q a b) (_ _ _ : True) (ha : a = 0) : Said w 109 22 [.ref X, .int (-1) tz] news (Str.ofString "constraint_error") :=
  raised_109 w 20 _ _ news _ ((power_neg w _ p q a b (-1) t1 t2 tz k news hX r (by decide) (by decide)).mono (fun _ _ P => P.1 (r.top_zero.mp ha)) (fun _ P => P.2))
section
variable {w : World} {X : Addr} {y z a : Int} {t1 t2 tz ta tb : Tok} {k : Nat} {news : List (Addr × Obj)}
theorem said_zero (_ _ _ _ _ _ : True) : Said w 67 8 [.int a ta, .int 0 tb] news (Str.ofString "constraint_error") :=
  raised_67 w 6 _ _ news _ ((make_does w a 0 ta tb news ⟨Nat.two_pow_pos _⟩).mono (fun _ _ P => P.1 rfl) (fun _ P => P.elim (fun z => z.2) (fun z => (z.1 rfl).elim)))
theorem said_great (hy : y = 10 ^ 701) (h0 : 0 ≤ z) (h8 : z ≤ 8) (_ _ _ : True) : Said w 67 8 [.int y ta, .int (1 + 2 * z) tb] news (Str.ofString "storage_error") := by
  have hb := ten_big h0 h8
  rw [← hy] at hb
  exact raised_67 w 6 _ _ news _ ((make_does w y (1 + 2 * z) ta tb news ((sz20 (by omega) (by omega)).mono (by decide))).mono (fun _ _ P => hb.2 P.2.1) (fun _ P => P.elim (fun z => (hb.1 z.1).elim) (fun z => z.2.2)))
theorem said_three (hX : (X, tup2 3 t1 2 t2 k) ∈ news) (hy : y = 10 ^ 30) (h0 : 0 ≤ z) (_ _ _ : True) : Said w 109 14 [.ref X, .int (y + z) tz] news (Str.ofString "storage_error") :=
  have h1 : (2000 : Int) ≤ y := by rw [hy]; decide +kernel
  raised_109 w 12 _ _ news _ ((power_does w _ 3 2 (y + z) t1 t2 tz k news hX (by decide) (by decide) (powOk_small ⟨by decide⟩ ⟨by decide⟩ (by decide) (by decide)) (by omega)).mono (fun _ _ P => three_big (by omega) P.1) (fun _ P => P.2))
end
end Mine

end
section
open PySem PySem.W PyProof.Rows PySem.Spec PySem.Calls
set_option maxRecDepth 100000
set_option maxHeartbeats 8000000
namespace Mine
theorem fm9 (x : Int) : 0 ≤ x.fmod 9 ∧ x.fmod 9 ≤ 8 := by rw [Int.fmod_eq_emod_of_nonneg _ (by decide)]; omega
theorem fm9m (x : Int) : x.fmod 9 ≤ 1000000 := Int.le_trans (fm9 x).2 (by decide)
theorem fm9a (x : Int) : -1000 ≤ 2 * x.fmod 9 + 1 ∧ 2 * x.fmod 9 + 1 ≤ 1000 := by have := fm9 x; omega
theorem fm9b (x : Int) : -1000 ≤ -2 * x.fmod 9 - 1 ∧ -2 * x.fmod 9 - 1 ≤ 1000 := by have := fm9 x; omega
theorem sz54p {x : Int} (h : Sz 54 x) : x.natAbs < 2 ^ 64 := Nat.lt_trans h.out (by decide)
theorem sz6p {x : Int} (h : Sz 6 x) : x.natAbs < 2 ^ 64 := Nat.lt_trans h.out (by decide)
theorem ten30 : (10 : Int) ^ Int.toNat 30 = 10 ^ 30 := by rw [show Int.toNat 30 = 30 from rfl]
theorem ten40 : (10 : Int) ^ Int.toNat 40 = 10 ^ 40 := by rw [show Int.toNat 40 = 40 from rfl]
theorem ten701 : (10 : Int) ^ Int.toNat 701 = 10 ^ 701 := by rw [show Int.toNat 701 = 701 from rfl]
theorem ints_at : ∀ {vs : List Value} {ns : List Int}, IntsAre vs ns → ∀ (j : Nat) (v : Value), vs[j]? = some v → ∃ n t, v = .int n t
  | _, _, .nil, j, v, h => by simp at h
  | _, _, .cons n t r, 0, v, h => ⟨n, t, by simpa using h.symm⟩
  | _, _, .cons n t r, j + 1, v, h => ints_at r j v (by simpa using h)
theorem short_of {vs : List Value} {ns : List Int} (h : IntsAre vs (ns.take 8)) : Short vs.toArray :=
  ⟨by have := h.length; rw [List.length_take] at this; simp only [List.size_toArray]; omega, fun j v e => ints_at h j v (by simpa using e)⟩
theorem order_self (x : Int) : ordI x x = 0 := by unfold ordI; rw [if_neg (Int.lt_irrefl x), if_neg (Int.lt_irrefl x)]
theorem ord_b2i {l r g : Int} (h1 : 0 < g ↔ r < l) (h2 : g < 0 ↔ l < r) : ordI l r = b2i (decide (0 < g)) - b2i (decide (g < 0)) := by
  unfold ordI b2i
  by_cases a : l < r
  · have b : g < 0 := h2.mpr a
    have c : ¬ 0 < g := by omega
    simp [a, b, c]
  · by_cases b : r < l
    · have c : 0 < g := h1.mpr b
      have d : ¬ g < 0 := by omega
      simp [a, b, c, d]
    · have c : ¬ 0 < g := fun x => b (h1.mp x)
      have d : ¬ g < 0 := fun x => a (h2.mp x)
      simp [a, b, c, d]
section
variable {p q a b p' q' c d : Int}
theorem order_neg (r : Rat p q a b) (r' : Rat p' q' c d) (h : b * d < 0) : ordI (p * q') (p' * q) = b2i (decide (0 < -(a * d - c * b))) - b2i (decide (-(a * d - c * b) < 0)) :=
  ord_b2i ((r.order r').1 h).1 ((r.order r').1 h).2
theorem order_pos (r : Rat p q a b) (r' : Rat p' q' c d) (h : ¬ b * d < 0) : ordI (p * q') (p' * q) = b2i (decide (0 < a * d - c * b)) - b2i (decide (a * d - c * b < 0)) :=
  ord_b2i ((r.order r').2 h).1 ((r.order r').2 h).2
end
theorem ne_known {prog : Program} {w : World} {A : Around} {E : Value → Shared → Prop} {Q : Value → Shared → Prop} {s : Shared} {a b : Int} {t u : Tok} (e : a = b) (h : Q (.bool false) s) : wpAny (model prog w) A (compareOp .NotEq (.int a t) (.int b u)) Q E s :=
  ne_int (by rw [e, show (b != b) = false by simp]; exact h)
theorem order_any {p q a b p' q' c d g : Int} (r : Rat p q a b) (r' : Rat p' q' c d) (h : (b * d < 0 ∧ g = -(a * d - c * b)) ∨ (¬ b * d < 0 ∧ g = a * d - c * b)) : ordI (p * q') (p' * q) = b2i (decide (0 < g)) - b2i (decide (g < 0)) := by
  rcases h with ⟨h, e⟩ | ⟨h, e⟩
  · rw [e]; exact order_neg r r' h
  · rw [e]; exact order_pos r r' h
/-- the ways of an if meet: the frame's names and the ledger are as before it -/
def CutW (h₀ : Heap) (L : Addr) (m : Str → Option Value) (news : List (Addr × Obj)) (s : Shared) (f : Flow) (s' : Shared) : Prop :=
  f = .next ∧ ∃ (h : Heap) (tk : Nat), s' = { s with heap := h, toks := tk } ∧ Fr h₀ L h m ∧ News h₀ L h news
theorem cut_if {M : Model} {A : Around} {E : Value → Shared → Prop} {s : Shared} {env : Env} {h₀ : Heap} {L : Addr} {m : Str → Option Value} {news : List (Addr × Obj)} {test : PySem.Expr} {b1 b2 : List Stmt} {pos : Pos} {Q : Flow → Shared → Prop}
    (_F : Fr h₀ L s.heap m) (_N : News h₀ L s.heap news)
    (hc : wpAny M A (exec (.If test b1 b2 pos) env) (fun f s₂ => CutW h₀ L m news s f s₂) E s)
    (hk : ∀ (h : Heap) (tk : Nat), Fr h₀ L h m → News h₀ L h news → Q .next { s with heap := h, toks := tk }) : wpAny M A (exec (.If test b1 b2 pos) env) Q E s := by
  refine wpAny_mono hc (fun f s₂ h => ?_) (fun _ _ h => h)
  obtain ⟨e, h, tk, e2, F, N⟩ := h
  subst e
  subst e2
  exact hk h tk F N
theorem news_tail {h₀ h : Heap} {L : Addr} {x : Addr × Obj} {news : List (Addr × Obj)} (N : News h₀ L h (x :: news)) : News h₀ L h news := fun p hp => N p (List.mem_cons_of_mem _ hp)
theorem DoesL.use {w : World} {f : Addr} {k : Nat} {vs : List Value} {news : List (Addr × Obj)} {Post : Value → List (Addr × Obj) → Prop}
    {loose : List Str} {mean : ExcName → Option Value} {mg mb : Str → Option Value} {dp un : Nat} {gd : Option (List Code)} {cn : Str} {cs : Scope} {a : Addr} {ccd : Value} {cl : List (Str × Addr)} {outer : List Env} {A₀ : Around} {h₀ : Heap} {L : Addr} {m : Str → Option Value} {s : Shared} {Q E : Value → Shared → Prop}
    (C : DoesL w f k vs news Post) (B : Below A₀ h₀ outer h₀) (F : Fr h₀ L s.heap m) (X : (hd.heap_39 w.params).In h₀) (N : News h₀ L s.heap news) (T : Top hd.view_39 loose mean mg mb h₀) (hk : cs.kind = .function) (hd : dp + k < recursionLimit) (hu : un + 8 * k < cLine)
    (ret : ∀ r news' h' tk', Fr h₀ L h' m → News h₀ L h' news' → Post r news' → Q r { s with heap := h', toks := tk' }) :
    wpAny (model PySem.Challenge.rw_pq0001_01.row.prog w) (ktrTop dp un gd cn cs L a ccd cl outer) (call (.ref f) vs) Q E s := C _ _ _ _ _ _ _ _ _ _ _ _ _ _ _ _ _ _ _ _ B F X N T hk hd hu ret
theorem use_str {w : World} {f : Addr} {k : Nat} {vs : List Value} {news : List (Addr × Obj)}
    {loose : List Str} {mean : ExcName → Option Value} {mg mb : Str → Option Value} {dp un : Nat} {gd : Option (List Code)} {cn : Str} {cs : Scope} {a : Addr} {ccd : Value} {cl : List (Str × Addr)} {outer : List Env} {A₀ : Around} {h₀ : Heap} {L : Addr} {m : Str → Option Value} {s : Shared} {R E : Value → Shared → Prop} {W : Str}
    (C : DoesL w f k vs news (fun r n => n = news ∧ ∃ t, r = .str W t)) (B : Below A₀ h₀ outer h₀) (F : Fr h₀ L s.heap m) (X : (hd.heap_39 w.params).In h₀) (N : News h₀ L s.heap news) (T : Top hd.view_39 loose mean mg mb h₀) (hk : cs.kind = .function) (hd : dp + k < recursionLimit) (hu : un + 8 * k < cLine)
    (ret : ∀ t h' tk', Fr h₀ L h' m → News h₀ L h' news → R (.str W t) { s with heap := h', toks := tk' }) : wpAny (model PySem.Challenge.rw_pq0001_01.row.prog w) (ktrTop dp un gd cn cs L a ccd cl outer) (call (.ref f) vs) R E s := by
  refine DoesL.use C B F X N T hk hd hu (fun r n h' tk' F' N' P => ?_)
  obtain ⟨en, t, e⟩ := P
  subst e; subst en
  exact ret t h' tk' F' N'

local macro_rules | `(tactic| walk_at "s9") => `(tactic| first | with_reducible exact (fm9 _).1 | with_reducible exact (fm9 _).2 | with_reducible exact (fm9a _).1 | with_reducible exact (fm9a _).2 | with_reducible exact (fm9b _).1 | with_reducible exact (fm9b _).2 | with_reducible exact ten30 | with_reducible exact ten40 | with_reducible exact ten701 | exact short_of (by with_reducible assumption) | decide)
local macro_rules | `(tactic| walk_at "call ref") => `(tactic| (k_here; (with_reducible show wpAny _ _ (call (Value.ref 179) _) _ _ _); k_dflt (refine' use_tup3 (part_law ?s1 ?s2 ?s3 ?s4 ?s5 ?s6) ?k1 ?k2 ?k3 ?k4 ?k5 ?kK ?kd ?ku ?_; (case k4 => k_asm); (case s1 => walk_at "s9"); (case s2 => walk_at "s9"); (case s3 => walk_at "s9"); (case s4 => walk_at "s9"); (case s5 => walk_at "s9"); (case s6 => walk_at "z9"); (case k1 => k_asm); (case k2 => k_asm); (case k3 => k_asm); (case k5 => k_asm); (case kK => exact rfl); (case kd => ktr_room); (case ku => ktr_units); k_whole); intros; (try dsimp only); (try k_fold)))
local macro_rules | `(tactic| walk_at "call ref") => `(tactic| (k_here; (with_reducible show wpAny _ _ (call (Value.ref 67) _) _ _ _); k_dflt (refine' use_tup2 (make_law ?s1 ?s2 ?s3 ?s4 ?s5 ?s6) ?k1 ?k2 ?k3 ?k4 ?k5 ?kK ?kd ?ku ?_; (case k4 => k_asm); (case s1 => walk_at "s9"); (case s2 => walk_at "s9"); (case s3 => walk_at "s9"); (case s4 => walk_at "s9"); (case s5 => walk_at "s9"); (case s6 => walk_at "z9"); (case k1 => k_asm); (case k2 => k_asm); (case k3 => k_asm); (case k5 => k_asm); (case kK => exact rfl); (case kd => ktr_room); (case ku => ktr_units); k_whole); intros; (try dsimp only); (try k_fold)))
local macro_rules | `(tactic| walk_at "call ref") => `(tactic| (k_here; (with_reducible show wpAny _ _ (call (Value.ref 67) [Value.int _ _, Value.int 2 _]) _ _ _); k_dflt (refine' use_tup3 (make_half ?s1 ?s2 ?s3 ?s4 ?s5 ?s6) ?k1 ?k2 ?k3 ?k4 ?k5 ?kK ?kd ?ku ?_; (case k4 => k_asm); (case s1 => walk_at "s9"); (case s2 => walk_at "s9"); (case s3 => walk_at "s9"); (case s4 => walk_at "s9"); (case s5 => walk_at "s9"); (case s6 => walk_at "z9"); (case k1 => k_asm); (case k2 => k_asm); (case k3 => k_asm); (case k5 => k_asm); (case kK => exact rfl); (case kd => ktr_room); (case ku => ktr_units); k_whole); intros; (try dsimp only); (try k_fold)))
local macro_rules | `(tactic| walk_at "call ref") => `(tactic| (k_here; (with_reducible show wpAny _ _ (call (Value.ref 165) _) _ _ _); k_dflt (refine' use_bool (same_law ?s1 ?s2 ?s3 ?s4 ?s5 ?s6) ?k1 ?k2 ?k3 ?k4 ?k5 ?kK ?kd ?ku ?_; (case k4 => k_asm); (case s1 => walk_at "s9"); (case s2 => walk_at "s9"); (case s3 => walk_at "s9"); (case s4 => walk_at "s9"); (case s5 => walk_at "s9"); (case s6 => walk_at "z9"); (case k1 => k_asm); (case k2 => k_asm); (case k3 => k_asm); (case k5 => k_asm); (case kK => exact rfl); (case kd => ktr_room); (case ku => ktr_units); k_whole); intros; (try dsimp only); (try k_fold)))
local macro_rules | `(tactic| walk_at "call ref") => `(tactic| (k_here; (with_reducible show wpAny _ _ (call (Value.ref 186) _) _ _ _); k_dflt (refine' use_bool (wholes_half ?s1 ?s2 ?s3 ?s4 ?s5 ?s6) ?k1 ?k2 ?k3 ?k4 ?k5 ?kK ?kd ?ku ?_; (case k4 => k_asm); (case s1 => walk_at "s9"); (case s2 => walk_at "s9"); (case s3 => walk_at "s9"); (case s4 => walk_at "s9"); (case s5 => walk_at "s9"); (case s6 => walk_at "z9"); (case k1 => k_asm); (case k2 => k_asm); (case k3 => k_asm); (case k5 => k_asm); (case kK => exact rfl); (case kd => ktr_room); (case ku => ktr_units); k_whole); intros; (try dsimp only); (try k_fold)))
local macro_rules | `(tactic| walk_at "call ref") => `(tactic| (k_here; (with_reducible show wpAny _ _ (call (Value.ref 186) _) _ _ _); k_dflt (refine' use_bool (wholes_law ?s1 ?s2 ?s3 ?s4 ?s5 ?s6) ?k1 ?k2 ?k3 ?k4 ?k5 ?kK ?kd ?ku ?_; (case k4 => k_asm); (case s1 => walk_at "s9"); (case s2 => walk_at "s9"); (case s3 => walk_at "s9"); (case s4 => walk_at "s9"); (case s5 => walk_at "s9"); (case s6 => walk_at "z9"); (case k1 => k_asm); (case k2 => k_asm); (case k3 => k_asm); (case k5 => k_asm); (case kK => exact rfl); (case kd => ktr_room); (case ku => ktr_units); k_whole); intros; (try dsimp only); (try k_fold)))
local macro_rules | `(tactic| walk_at "call ref") => `(tactic| (k_here; (with_reducible show wpAny _ _ (call (Value.ref 74) _) _ _ _); k_dflt (refine' use_tup (sum_law ?s1 ?s2 ?s3 ?s4 ?s5 ?s6) ?k1 ?k2 ?k3 ?k4 ?k5 ?kK ?kd ?ku ?_; (case k4 => k_asm); (case s1 => walk_at "s9"); (case s2 => walk_at "s9"); (case s3 => walk_at "s9"); (case s4 => walk_at "s9"); (case s5 => walk_at "s9"); (case s6 => walk_at "z9"); (case k1 => k_asm); (case k2 => k_asm); (case k3 => k_asm); (case k5 => k_asm); (case kK => exact rfl); (case kd => ktr_room); (case ku => ktr_units); k_whole); intros; (try dsimp only); (try k_fold)))
local macro_rules | `(tactic| walk_at "call ref") => `(tactic| (k_here; (with_reducible show wpAny _ _ (call (Value.ref 81) _) _ _ _); k_dflt (refine' use_tup (diff_law ?s1 ?s2 ?s3 ?s4 ?s5 ?s6) ?k1 ?k2 ?k3 ?k4 ?k5 ?kK ?kd ?ku ?_; (case k4 => k_asm); (case s1 => walk_at "s9"); (case s2 => walk_at "s9"); (case s3 => walk_at "s9"); (case s4 => walk_at "s9"); (case s5 => walk_at "s9"); (case s6 => walk_at "z9"); (case k1 => k_asm); (case k2 => k_asm); (case k3 => k_asm); (case k5 => k_asm); (case kK => exact rfl); (case kd => ktr_room); (case ku => ktr_units); k_whole); intros; (try dsimp only); (try k_fold)))
local macro_rules | `(tactic| walk_at "call ref") => `(tactic| (k_here; (with_reducible show wpAny _ _ (call (Value.ref 88) _) _ _ _); k_dflt (refine' use_tup (prod_law ?s1 ?s2 ?s3 ?s4 ?s5 ?s6) ?k1 ?k2 ?k3 ?k4 ?k5 ?kK ?kd ?ku ?_; (case k4 => k_asm); (case s1 => walk_at "s9"); (case s2 => walk_at "s9"); (case s3 => walk_at "s9"); (case s4 => walk_at "s9"); (case s5 => walk_at "s9"); (case s6 => walk_at "z9"); (case k1 => k_asm); (case k2 => k_asm); (case k3 => k_asm); (case k5 => k_asm); (case kK => exact rfl); (case kd => ktr_room); (case ku => ktr_units); k_whole); intros; (try dsimp only); (try k_fold)))
local macro_rules | `(tactic| walk_at "call ref") => `(tactic| (k_here; (with_reducible show wpAny _ _ (call (Value.ref 95) _) _ _ _); k_dflt (refine' use_tup (quot_law ?s1 ?s2 ?s3 ?s4 ?s5 ?s6) ?k1 ?k2 ?k3 ?k4 ?k5 ?kK ?kd ?ku ?_; (case k4 => k_asm); (case s1 => walk_at "s9"); (case s2 => walk_at "s9"); (case s3 => walk_at "s9"); (case s4 => walk_at "s9"); (case s5 => walk_at "s9"); (case s6 => walk_at "z9"); (case k1 => k_asm); (case k2 => k_asm); (case k3 => k_asm); (case k5 => k_asm); (case kK => exact rfl); (case kd => ktr_room); (case ku => ktr_units); k_whole); intros; (try dsimp only); (try k_fold)))
local macro_rules | `(tactic| walk_at "call ref") => `(tactic| (k_here; (with_reducible show wpAny _ _ (call (Value.ref 102) _) _ _ _); k_dflt (refine' use_tup (negated_law ?s1 ?s2 ?s3 ?s4 ?s5 ?s6) ?k1 ?k2 ?k3 ?k4 ?k5 ?kK ?kd ?ku ?_; (case k4 => k_asm); (case s1 => walk_at "s9"); (case s2 => walk_at "s9"); (case s3 => walk_at "s9"); (case s4 => walk_at "s9"); (case s5 => walk_at "s9"); (case s6 => walk_at "z9"); (case k1 => k_asm); (case k2 => k_asm); (case k3 => k_asm); (case k5 => k_asm); (case kK => exact rfl); (case kd => ktr_room); (case ku => ktr_units); k_whole); intros; (try dsimp only); (try k_fold)))
local macro_rules | `(tactic| walk_at "call ref") => `(tactic| (k_here; (with_reducible show wpAny _ _ (call (Value.ref 116) _) _ _ _); k_dflt (refine' use_ord (order_law ?s1 ?s2 ?s3 ?s4 ?s5 ?s6) ?k1 ?k2 ?k3 ?k4 ?k5 ?kK ?kd ?ku ?_; (case k4 => k_asm); (case s1 => walk_at "s9"); (case s2 => walk_at "s9"); (case s3 => walk_at "s9"); (case s4 => walk_at "s9"); (case s5 => walk_at "s9"); (case s6 => walk_at "z9"); (case k1 => k_asm); (case k2 => k_asm); (case k3 => k_asm); (case k5 => k_asm); (case kK => exact rfl); (case kd => ktr_room); (case ku => ktr_units); k_whole); intros; (try dsimp only); (try k_fold)))
local macro_rules | `(tactic| walk_at "call ref") => `(tactic| (k_here; (with_reducible show wpAny _ _ (call (Value.ref 109) _) _ _ _); k_dflt (refine' use_tup (pow_law ?s1 ?s2 ?s3 ?s4 ?s5 ?s6) ?k1 ?k2 ?k3 ?k4 ?k5 ?kK ?kd ?ku ?_; (case k4 => k_asm); (case s1 => walk_at "s9"); (case s2 => walk_at "s9"); (case s3 => walk_at "s9"); (case s4 => walk_at "s9"); (case s5 => walk_at "s9"); (case s6 => walk_at "z9"); (case k1 => k_asm); (case k2 => k_asm); (case k3 => k_asm); (case k5 => k_asm); (case kK => exact rfl); (case kd => ktr_room); (case ku => ktr_units); k_whole); intros; (try dsimp only); (try k_fold)))
local macro_rules | `(tactic| walk_at "call ref") => `(tactic| (k_here; (with_reducible show wpAny _ _ (call (Value.ref 109) [Value.ref _, Value.int (-_) _]) _ _ _); k_dflt (refine' use_tup (inv_law ?s1 ?s2 ?s3 ?s4 ?s5 ?s6) ?k1 ?k2 ?k3 ?k4 ?k5 ?kK ?kd ?ku ?_; (case k4 => k_asm); (case s1 => walk_at "s9"); (case s2 => walk_at "s9"); (case s3 => walk_at "s9"); (case s4 => walk_at "s9"); (case s5 => walk_at "s9"); (case s6 => walk_at "z9"); (case k1 => k_asm); (case k2 => k_asm); (case k3 => k_asm); (case k5 => k_asm); (case kK => exact rfl); (case kd => ktr_room); (case ku => ktr_units); k_whole); intros; (try dsimp only); (try k_fold)))
local macro_rules | `(tactic| walk_at "call ref") => `(tactic| (k_here; (with_reducible show wpAny _ _ (call (Value.ref 109) [Value.ref _, Value.int (_ + _) _]) _ _ _); k_dflt (refine' use_tup0 (minus_law ?s1 ?s2 ?s3 ?s4 ?s5 ?s6) ?k1 ?k2 ?k3 ?k4 ?k5 ?kK ?kd ?ku ?_; (case k4 => k_asm); (case s1 => walk_at "s9"); (case s2 => walk_at "s9"); (case s3 => walk_at "s9"); (case s4 => walk_at "s9"); (case s5 => walk_at "s9"); (case s6 => walk_at "z9"); (case k1 => k_asm); (case k2 => k_asm); (case k3 => k_asm); (case k5 => k_asm); (case kK => exact rfl); (case kd => ktr_room); (case ku => ktr_units); k_whole); intros; (try dsimp only); (try k_fold)))
local macro_rules | `(tactic| walk_at "call ref") => `(tactic| (k_here; (with_reducible show wpAny _ _ (call (Value.ref 109) [Value.ref _, Value.int (_ ^ _) _]) _ _ _); k_dflt (refine' use_tup0 (nought_law ?s1 ?s2 ?s3 ?s4 ?s5 ?s6) ?k1 ?k2 ?k3 ?k4 ?k5 ?kK ?kd ?ku ?_; (case k4 => k_asm); (case s1 => walk_at "s9"); (case s2 => walk_at "s9"); (case s3 => walk_at "s9"); (case s4 => walk_at "s9"); (case s5 => walk_at "s9"); (case s6 => walk_at "z9"); (case k1 => k_asm); (case k2 => k_asm); (case k3 => k_asm); (case k5 => k_asm); (case kK => exact rfl); (case kd => ktr_room); (case ku => ktr_units); k_whole); intros; (try dsimp only); (try k_fold)))
local macro_rules | `(tactic| walk_at "call ref") => `(tactic| (k_here; (with_reducible show wpAny _ _ (call (Value.ref 172) [Value.ref 95, Value.ref _, Value.ref _]) _ _ _); k_dflt (refine' use_str (said_quot ?s1 ?s2 ?s3 ?s4 ?s5 ?s6) ?k1 ?k2 ?k3 ?k4 ?k5 ?kK ?kd ?ku ?_; (case k4 => k_asm); (case s1 => walk_at "s9"); (case s2 => walk_at "s9"); (case s3 => walk_at "s9"); (case s4 => walk_at "s9"); (case s5 => walk_at "s9"); (case s6 => walk_at "z9"); (case k1 => k_asm); (case k2 => k_asm); (case k3 => k_asm); (case k5 => k_asm); (case kK => exact rfl); (case kd => ktr_room); (case ku => ktr_units); k_whole); intros; (try dsimp only); (try k_fold)))
local macro_rules | `(tactic| walk_at "call ref") => `(tactic| (k_here; (with_reducible show wpAny _ _ (call (Value.ref 172) [Value.ref 109, Value.ref _, Value.int (-1) _]) _ _ _); k_dflt (refine' use_str (said_neg ?s1 ?s2 ?s3 ?s4 ?s5 ?s6) ?k1 ?k2 ?k3 ?k4 ?k5 ?kK ?kd ?ku ?_; (case k4 => k_asm); (case s1 => walk_at "s9"); (case s2 => walk_at "s9"); (case s3 => walk_at "s9"); (case s4 => walk_at "s9"); (case s5 => walk_at "s9"); (case s6 => walk_at "z9"); (case k1 => k_asm); (case k2 => k_asm); (case k3 => k_asm); (case k5 => k_asm); (case kK => exact rfl); (case kd => ktr_room); (case ku => ktr_units); k_whole); intros; (try dsimp only); (try k_fold)))
local macro_rules | `(tactic| walk_at "call ref") => `(tactic| (k_here; (with_reducible show wpAny _ _ (call (Value.ref 172) [Value.ref 109, Value.ref _, Value.int (_ + _) _]) _ _ _); k_dflt (refine' use_str (said_three ?s1 ?s2 ?s3 ?s4 ?s5 ?s6) ?k1 ?k2 ?k3 ?k4 ?k5 ?kK ?kd ?ku ?_; (case k4 => k_asm); (case s1 => walk_at "s9"); (case s2 => walk_at "s9"); (case s3 => walk_at "s9"); (case s4 => walk_at "s9"); (case s5 => walk_at "s9"); (case s6 => walk_at "z9"); (case k1 => k_asm); (case k2 => k_asm); (case k3 => k_asm); (case k5 => k_asm); (case kK => exact rfl); (case kd => ktr_room); (case ku => ktr_units); k_whole); intros; (try dsimp only); (try k_fold)))
local macro_rules | `(tactic| walk_at "call ref") => `(tactic| (k_here; (with_reducible show wpAny _ _ (call (Value.ref 172) [Value.ref 67, Value.int _ _, Value.int 0 _]) _ _ _); k_dflt (refine' use_str (said_zero ?s1 ?s2 ?s3 ?s4 ?s5 ?s6) ?k1 ?k2 ?k3 ?k4 ?k5 ?kK ?kd ?ku ?_; (case k4 => k_asm); (case s1 => walk_at "s9"); (case s2 => walk_at "s9"); (case s3 => walk_at "s9"); (case s4 => walk_at "s9"); (case s5 => walk_at "s9"); (case s6 => walk_at "z9"); (case k1 => k_asm); (case k2 => k_asm); (case k3 => k_asm); (case k5 => k_asm); (case kK => exact rfl); (case kd => ktr_room); (case ku => ktr_units); k_whole); intros; (try dsimp only); (try k_fold)))
local macro_rules | `(tactic| walk_at "call ref") => `(tactic| (k_here; (with_reducible show wpAny _ _ (call (Value.ref 172) [Value.ref 67, Value.int _ _, Value.int (1 + _) _]) _ _ _); k_dflt (refine' use_str (said_great ?s1 ?s2 ?s3 ?s4 ?s5 ?s6) ?k1 ?k2 ?k3 ?k4 ?k5 ?kK ?kd ?ku ?_; (case k4 => k_asm); (case s1 => walk_at "s9"); (case s2 => walk_at "s9"); (case s3 => walk_at "s9"); (case s4 => walk_at "s9"); (case s5 => walk_at "s9"); (case s6 => walk_at "z9"); (case k1 => k_asm); (case k2 => k_asm); (case k3 => k_asm); (case k5 => k_asm); (case kK => exact rfl); (case kd => ktr_room); (case ku => ktr_units); k_whole); intros; (try dsimp only); (try k_fold)))
local macro_rules | `(tactic| walk_at "call ref") => `(tactic| (k_here; (with_reducible show wpAny _ _ (call (Value.ref 151) _) _ _ _); k_dflt (refine' use_int (cell_law ?s1 ?s2 ?s3 ?s4 ?s5 ?s6) ?k1 ?k2 ?k3 ?k4 ?k5 ?kK ?kd ?ku ?_; (case k4 => k_asm); (case s1 => walk_at "s9"); (case s2 => walk_at "s9"); (case s3 => walk_at "s9"); (case s4 => walk_at "s9"); (case s5 => walk_at "s9"); (case s6 => walk_at "z9"); (case k1 => k_asm); (case k2 => k_asm); (case k3 => k_asm); (case k5 => k_asm); (case kK => exact rfl); (case kd => ktr_room); (case ku => ktr_units); k_whole); intros; (try dsimp only); (try k_fold)))
local macro_rules | `(tactic| walk_at "binaryOp Mult int int") => `(tactic| (k_here; (with_reducible refine' PyProof.Rows.mul_int ?_ (Sz.mulOk ?kma ?kmb ?kmc)); (case kma => assumption); (case kmb => assumption); (case kmc => decide); (try dsimp only)))
local macro_rules | `(tactic| walk_at "binaryOp Pow int int") => `(tactic| (k_here; (with_reducible refine pow_int_small ?kb1 ?kb2 ?kb3 ?_); (case kb1 => exact (fm9 _).1); (case kb2 => exact fm9m _); (case kb3 => first | exact sz54p (by assumption) | exact sz6p (by assumption) | decide); (try dsimp only)))
local macro_rules | `(tactic| walk_at "KCj") => `(tactic| ((refine kcj_end ?kce (by with_unfolding_all rfl) rfl (by assumption) (by assumption) (by kcj_all)); (case kce => exact rfl)))
local macro_rules | `(tactic| walk_at "compareOp NotEq int int") => `(tactic| (k_here; (first | (with_reducible refine ne_known (order_self _) ?_) | (with_reducible refine' ne_known (order_any ?kr ?ks ?kh) ?_; (case kr => assumption); (case ks => assumption); (case kh => assumption)) | (with_reducible refine' ne_known (order_pos ?kr ?ks ?kh) ?_; (case kr => assumption); (case ks => assumption); (case kh => assumption))); (try dsimp only)))
local macro_rules | `(tactic| walk_at "exec If") => `(tactic| (k_here; (with_reducible show wpAny _ _ (exec (Stmt.If (Expr.Compare (Expr.Name _ _) _ _ _) _ (_ :: _) _) _) _ _ _); (fail_if_success (with_reducible show wpAny _ _ _ (fun f s => CutW _ _ _ _ _ f s) _ _)); (rename Fr _ _ _ _ => F'); (rename News _ _ _ _ => N'); refine cut_if F' N' ?_ (fun h9 tk9 F9 N9 => ?_)))
local macro_rules | `(tactic| walk_at "exec If") => `(tactic| (k_here; (with_reducible show wpAny _ _ (exec (Stmt.If (Expr.Compare (Expr.BinOp _ _ _ _) _ _ _) _ [] _) _) _ _ _); kj_step))
local macro_rules | `(tactic| walk_at "CutW") => `(tactic| exact ⟨rfl, _, _, rfl, by assumption, by first | assumption | exact news_tail (by assumption)⟩)
theorem law_holds : PySem.Challenge.rw_pq0001_01.Holds := hd (by
  k_go0
  all_goals (try k_fold)
  k_steps)
end Mine


end
theorem PySem.Challenge.cw_pq0001_01_holds : PySem.Challenge.rw_pq0001_01.Holds := by
  exact Mine.law_holds
