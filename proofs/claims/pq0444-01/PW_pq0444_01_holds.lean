import PyProof.Rows.All
import Wide.All
import OpenK.AllK
import Wide.FinOn
import PySem.Challenge.RW_pq0444_01
open PySem PySem.W PyProof.Rows
set_option Elab.async false
set_option maxRecDepth 100000
namespace Mine
set_option maxHeartbeats 8000000 in
open_top hd for PySem.Challenge.rw_pq0444_01
end Mine

namespace Mine
open PySem.Calls PySem.Spec


abbrev lawM (w : World) : Model := model PySem.Challenge.rw_pq0444_01.row.prog w
abbrev lawTop (mean : ExcName → Option Value) (mg mb : Str → Option Value) (h : Heap) : Prop := Top hd.view_39 (looseW hd.view_39 [Str.ofString "GateloomError"]) mean mg mb h

section
variable {prog : Program} {w : World} {A : Around} {E : Value → Shared → Prop} {s : Shared} {h₀ : Heap} {L D : Addr} {m : Str → Option Value} {news news' : List (Addr × Obj)} {n : Nat}
/-- pop(0) of a list whose first item is known -/
theorem pop0 {y : Value} {us : List Value} {u : Tok} {Q : Value → Shared → Prop} (F : Fr h₀ L s.heap m) (N : News h₀ L s.heap news) (U : Upd D (listOf (y :: us).toArray n) (listOf us.toArray (n + 1)) news news')
    (hz : (y :: us).length ≤ sizeLine) (h : ∀ h', Fr h₀ L h' m → News h₀ L h' news' → Q y { s with heap := h' }) : wpAny (model prog w) A (call (.builtin "list.pop") [.ref D, .int 0 u]) Q E s :=
  kl_popAt F N (k := 0) (p := []) (q := us) (y := y) rfl (by unfold seqIndex?; simp) (by simp [kl_cut]) U (by simpa using hz) h
end
local macro_rules | `(tactic| walk_at "call builtin:list.pop") => `(tactic| (k_here; (with_reducible show wpAny _ _ (call (Value.builtin _) [Value.ref _, Value.int 0 _]) _ _ _); k_dflt (refine' pop0 ?F ?N ?U ?z ?_; (case F => k_asm); (case N => k_asm); (case U => first | k_upd | (refine' Upd.tail ?a (Upd.head ?b); (case a => k_ne); (case b => assumption)) | exact Upd.head (by assumption)); (case z => assumption)); (intro h' F' N'; (try dsimp only [List.nil_append, List.cons_append] at N'))))


theorem fm_lt (x : Int) {m : Int} (h : 0 < m) : 0 ≤ x.fmod m ∧ x.fmod m < m := by
  refine ⟨Int.fmod_nonneg_of_pos _ h, Int.fmod_lt_of_pos _ h⟩
section
local macro_rules | `(tactic| walk_at "compareOp NotEq ref ref") => `(tactic| (k_here; (with_reducible show wpAny _ _ (compareOp CmpOp.NotEq (Value.ref _) (Value.ref _)) _ _ _); k_dflt (refine' ne_intsK (vs := _ :: _) (us := []) (ms := []) ?k1 ?k2 ?k3 ?k4 ?k5 ?_; (case k1 => exact News.isList (by k_asm) (by k_mem)); (case k2 => assumption); (case k3 => exact News.isList (by k_asm) (by k_mem)); (case k4 => exact IntsAre.nil); (case k5 => ktr_units))))
set_option maxHeartbeats 4000000 in
/-- _law_card on a deck that is not empty -/
theorem card_cons {w : World} {mean mg mb} {dp un : Nat} {gd : Option (List Code)} {cn : Str} {cs : Scope} {a : Addr} {ccd : Value} {cl : List (Str × Addr)} {outer : List Env} {A₀ : Around} {base h₀ : Heap} {L : Addr} {m : Str → Option Value} {s : Shared} {l : Addr} {rest : List (Addr × Obj)} {nn : Nat} {x : Int} {xt : Tok} {vs : List Value} {ns : List Int} {most : Int} {tk : Tok} {Q E : Value → Shared → Prop}
    (B : Below A₀ base outer h₀) (F : Fr h₀ L s.heap m) (X : (hd.heap_39 w.params).In h₀) (N : News h₀ L s.heap ((l, listOf (.int x xt :: vs).toArray nn) :: rest)) (hrest : ∀ p ∈ rest, p.1 ≠ l) (T : lawTop mean mg mb h₀) (hk : cs.kind = .function)
    (hi : IntsAre vs ns) (hlen : (Value.int x xt :: vs).length ≤ sizeLine) (hm : 0 < most) (hd : dp + 1 < recursionLimit) (hu : un + 200 < cLine)
    (hret : ∀ v t h' tk', 0 ≤ v → v < most → Fr h₀ L h' m → News h₀ L h' ((l, listOf vs.toArray (nn + 1)) :: rest) → Q (.int v t) { s with heap := h', toks := tk' }) :
    wpAny (lawM w) (ktrTop dp un gd cn cs L a ccd cl outer) (call (.ref (nat_lit 122)) [.ref l, .int most tk]) Q E s := by
  have hi2 : IntsAre (.int x xt :: vs) (x :: ns) := .cons x xt hi
  w_top off
  refine wpAny_call ?_
  k_dflt cell_enter
  k_steps
  · exfalso; simp_all
  · exact hret _ _ _ _ (fm_lt x hm).1 (fm_lt x hm).2 (by assumption) (fun p hp => (by assumption : News h₀ L _ (_ :: _ :: rest)) p (List.mem_cons_of_mem _ hp))
end
section
local macro_rules | `(tactic| walk_at "no C 0") => `(tactic| fail)
local macro_rules | `(tactic| walk_at "compareOp NotEq ref ref") => `(tactic| (k_here; (with_reducible show wpAny _ _ (compareOp CmpOp.NotEq (Value.ref _) (Value.ref _)) _ _ _); k_dflt (refine' ne_intsK (vs := []) (ns := []) (us := []) (ms := []) ?k1 ?k2 ?k3 ?k4 ?k5 ?_; (case k1 => exact News.isList (by k_asm) (by k_mem)); (case k2 => exact IntsAre.nil); (case k3 => exact News.isList (by k_asm) (by k_mem)); (case k4 => exact IntsAre.nil); (case k5 => ktr_units))))
set_option maxHeartbeats 4000000 in
/-- _law_card on an empty deck -/
theorem card_nil {w : World} {mean mg mb} {dp un : Nat} {gd : Option (List Code)} {cn : Str} {cs : Scope} {a : Addr} {ccd : Value} {cl : List (Str × Addr)} {outer : List Env} {A₀ : Around} {base h₀ : Heap} {L : Addr} {m : Str → Option Value} {s : Shared} {l : Addr} {rest : List (Addr × Obj)} {nn : Nat} {most : Int} {tk : Tok} {Q E : Value → Shared → Prop}
    (B : Below A₀ base outer h₀) (F : Fr h₀ L s.heap m) (X : (hd.heap_39 w.params).In h₀) (N : News h₀ L s.heap ((l, listOf ([] : List Value).toArray nn) :: rest)) (T : lawTop mean mg mb h₀) (hk : cs.kind = .function)
    (hd : dp + 1 < recursionLimit) (hu : un + 200 < cLine)
    (hret : ∀ t h' tk', Fr h₀ L h' m → News h₀ L h' ((l, listOf ([] : List Value).toArray nn) :: rest) → Q (.int 0 t) { s with heap := h', toks := tk' }) :
    wpAny (lawM w) (ktrTop dp un gd cn cs L a ccd cl outer) (call (.ref (nat_lit 122)) [.ref l, .int most tk]) Q E s := by
  w_top off
  refine wpAny_call ?_
  k_dflt cell_enter
  k_steps
  all_goals first
    | (exfalso; simp_all; done)
    | exact hret _ _ _ (by assumption) (fun p hp => (by assumption : News h₀ L _ (_ :: _ :: rest)) p (List.mem_cons_of_mem _ hp))
end
/-- _law_card on a deck of ints: a number from 0 to most - 1, and the deck is a deck of ints again, no longer than before -/
theorem card {w : World} {mean mg mb} {dp un : Nat} {gd : Option (List Code)} {cn : Str} {cs : Scope} {a : Addr} {ccd : Value} {cl : List (Str × Addr)} {outer : List Env} {A₀ : Around} {base h₀ : Heap} {L : Addr} {m : Str → Option Value} {s : Shared} {l : Addr} {news : List (Addr × Obj)} {g : Obj → List (Addr × Obj)} {nn : Nat} {vs : List Value} {ns : List Int} {most : Int} {tk : Tok} {Q E : Value → Shared → Prop}
    (B : Below A₀ base outer h₀) (F : Fr h₀ L s.heap m) (X : (hd.heap_39 w.params).In h₀) (N : News h₀ L s.heap news) (T : lawTop mean mg mb h₀) (hk : cs.kind = .function) (U : UpdF l (listOf vs.toArray nn) news g)
    (hi : IntsAre vs ns) (hlen : ns.length ≤ 1000000) (hm : 0 < most) (hd : dp + 1 < recursionLimit) (hu : un + 200 < cLine)
    (hret : ∀ v t vs' ns' nn' h' tk', 0 ≤ v → v < most → IntsAre vs' ns' → ns'.length ≤ 1000000 → Fr h₀ L h' m → News h₀ L h' (g (listOf vs'.toArray nn')) → Q (.int v t) { s with heap := h', toks := tk' }) :
    wpAny (lawM w) (ktrTop dp un gd cn cs L a ccd cl outer) (call (.ref (nat_lit 122)) [.ref l, .int most tk]) Q E s := by
  obtain ⟨pre, post, rfl, hg, a1, a2⟩ := U.split
  have hrest : ∀ p ∈ pre ++ post, p.1 ≠ l := fun p hp => (List.mem_append.mp hp).elim (a1 p) (a2 p)
  have N1 : News h₀ L s.heap ((l, listOf vs.toArray nn) :: (pre ++ post)) := fun p hp => N p (by
    rcases List.mem_cons.mp hp with rfl | hp
    · exact List.mem_append.mpr (.inr (.head _))
    · exact (List.mem_append.mp hp).elim (fun h => List.mem_append.mpr (.inl h)) fun h => List.mem_append.mpr (.inr (.tail _ h)))
  have back : ∀ {h' : Heap} {o : Obj}, News h₀ L h' ((l, o) :: (pre ++ post)) → News h₀ L h' (g o) := fun {h'} {o} N2 p hp => N2 p (by
    rw [hg] at hp
    rcases List.mem_append.mp hp with h | h
    · exact .tail _ (List.mem_append.mpr (.inl h))
    · rcases List.mem_cons.mp h with rfl | h
      · exact .head _
      · exact .tail _ (List.mem_append.mpr (.inr h)))
  cases hi with
  | nil => exact card_nil B F X N1 T hk hd hu fun t h' tk' F' N' => hret 0 t [] [] nn h' tk' (Int.le_refl _) hm .nil (Nat.zero_le _) F' (back N')
  | cons x xt r =>
    rename_i vs ns
    refine card_cons B F X N1 hrest T hk r ?_ hm hd hu fun v t h' tk' h0 h1 F' N' => hret v t _ _ (nn + 1) h' tk' h0 h1 r ?_ F' (back N')
    · have e := r.length
      rw [sizeLine_eq, List.length_cons, e]
      rw [List.length_cons] at hlen
      omega
    · rw [List.length_cons] at hlen
      omega
end Mine

namespace Mine
open PySem.Calls PySem.Spec

theorem dict_mapFields (o : Obj) (f : Array Value → Array Value) : (o.mapFields f).dict = o.dict := by
  obtain ⟨c, d, dt, sl⟩ := o
  cases dt <;> rfl

/-- an exception of an own class in flight (fl: the frame that holds it, or none), with the dict that bears its attributes -/
structure Fly (B h : Heap) (l : List Env) (e C dx : Addr) (fl : Value) : Prop where
  st : B.StaysIn h
  ne : B.get? e = none
  fr : h.FunFrames B l
  ob : ∃ oe vs T oT ts, h.get? e = some oe ∧ oe.cls = .ref C ∧ oe.dict = some dx ∧ oe.data = .fields vs ∧ vs[1]? = some (.ref T) ∧ B.get? T = none ∧ T ≠ e ∧ h.get? T = some oT ∧ oT.data = .fields ts ∧ ts[3]? = some fl

section
variable {M : Model} {A : Around} {E : Value → Shared → Prop} {s : Shared} {B : Heap} {env : Env} {outer : List Env} {L e C dx : Addr}

/-- the traceback's new entry, the exception's dict kept in sight -/
theorem fly_entry {oe : Obj} {vs : Array Value} {head : Value} {had : Bool} {Q : Unit → Shared → Prop}
    (hfr : A.frames = some (env :: outer)) (hl : s.heap.FunFrames B (env :: outer)) (hf : env.frame = some L)
    (he : s.heap.get? e = some oe) (hst : B.StaysIn s.heap) (hne : B.get? e = none) (hc : oe.cls = .ref C) (hx : oe.dict = some dx) (hd : oe.data = .fields vs) (hsz : 1 < vs.size)
    (h : ∀ h', Fly B h' (env :: outer) e C dx (rawInt L) → s.heap.UpToSlots h' → Q () { s with heap := h' }) :
    wpAny M A (do let a ← frameOf env; let pl ← entryPlaceOf L had; let b ← EntryCells.newEntry head a .none (rawInt L) .none pl; setField (.ref e) 1 b) Q E s := by
  have off : e ∉ (env :: outer).filterMap (·.frame) := fun hm => by
    obtain ⟨_, o, ho, hnf⟩ := hl.mem hm
    rw [he] at ho
    cases ho
    exact hnf vs hd
  refine wpAny_bind (wpAny_frameOf_fun hfr hl hf fun h₁ hs₁ => wpAny_bind (wpAny_entryPlaceOf fun pl hpl => ?_))
  unfold EntryCells.newEntry newFields
  refine wpAny_bind (wpAny_newObj_type ?_ (hpl.sizeOk5 _ _ _ _ _))
  have he₁ : h₁.get? e = some oe := (hs₁.2.1 e off).trans he
  have st₁ : B.StaysIn h₁ := fun b o q => (hs₁.2.1 b fun hm => by rw [(hl.mem hm).1] at q; cases q).trans (hst b o q)
  generalize hO : ({ cls := .type "traceback", dict := none, data := .fields ([head, .ref L, .none, rawInt L, .none] ++ (if pl.isEmpty then List.replicate 6 Value.none else pl)).toArray } : Obj) = O
  have hOd : O.data = .fields ([head, .ref L, .none, rawInt L, .none] ++ (if pl.isEmpty then List.replicate 6 Value.none else pl)).toArray := by rw [← hO]
  have he₂ : (h₁.push O).get? e = some oe := Heap.get?_push_of_some _ he₁
  refine wpAny_setField he₂ hd hsz (h _ ?_ ?_)
  · have hTe : h₁.objs.size ≠ e := Nat.ne_of_gt (Heap.lt_size he₁)
    have up : ∀ b o, b ≠ e → h₁.get? b = some o → ((h₁.push O).update e (Obj.mapFields (·.setIfInBounds 1 (Value.ref h₁.objs.size)))).get? b = some o := fun b o hb q => by
      rw [Heap.get?_update_other _ _ (Ne.symm hb)]
      exact Heap.get?_push_of_some _ q
    refine ⟨fun b o q => up b o (fun z => by rw [z, hne] at q; cases q) (st₁ b o q), hne, hl.of_keeps fun b o q hnf => ?_, ?_⟩
    · obtain ⟨sl, hs⟩ := hs₁.2.2 b o q
      exact ⟨_, up b _ (fun z => by rw [z, he] at q; cases q; exact hnf vs hd) hs, rfl⟩
    · refine ⟨_, _, h₁.objs.size, O, _, Heap.get?_update_self _ he₂ (Obj.isFreed_of_fields (Obj.data_mapFields hd _)), (Obj.cls_mapFields _ _).trans hc, (dict_mapFields _ _).trans hx, Obj.data_mapFields hd _, by simp [hsz], st₁.fresh, hTe, ?_, hOd, ?_⟩
      · exact (Heap.get?_update_other _ _ (Ne.symm hTe)).trans (Heap.get?_push_size h₁ (Obj.isFreed_of_fields hOd))
      · rcases hpl with rfl | ⟨_, _, _, _, _, _, _, rfl⟩ <;> simp
  · intro b o q hnf
    obtain ⟨sl, hs⟩ := hs₁.2.2 b o q
    refine ⟨sl, ?_⟩
    rw [Heap.get?_update_other _ _ (fun z : e = b => by rw [← z, he] at q; cases q; exact hnf vs hd)]
    exact Heap.get?_push_of_some _ hs

/-- the first frame that notes it -/
theorem fly_first {oe : Obj} {vs : Array Value} {Q : Unit → Shared → Prop}
    (hfr : A.frames = some (env :: outer)) (hl : s.heap.FunFrames B (env :: outer)) (hf : env.frame = some L)
    (he : s.heap.get? e = some oe) (hst : B.StaysIn s.heap) (hne : B.get? e = none) (hc : oe.cls = .ref C) (hx : oe.dict = some dx) (hd : oe.data = .fields vs) (h1 : vs[1]? = some .none)
    (h : ∀ h', Fly B h' (env :: outer) e C dx (rawInt L) → s.heap.UpToSlots h' → Q () { s with heap := h' }) : wpAny M A (noteFrame (.ref e) env) Q E s := by
  unfold noteFrame
  simp only [hf]
  refine wpAny_bind (wpAny_field he hd h1 ?_)
  rw [if_neg (by decide)]
  exact fly_entry hfr hl hf he hst hne hc hx hd (Array.getElem?_eq_some_iff.mp h1).1 h

/-- a further frame that notes it -/
theorem fly_note {Q : Unit → Shared → Prop} (hfr : A.frames = some (env :: outer)) (hf : env.frame = some L) (R : Fly B s.heap (env :: outer) e C dx .none)
    (h : ∀ h', Fly B h' (env :: outer) e C dx (rawInt L) → s.heap.UpToSlots h' → Q () { s with heap := h' }) : wpAny M A (noteFrame (.ref e) env) Q E s := by
  obtain ⟨hst, hne, hl, oe, vs, T, oT, ts, he, hc, hx, hd, h1, hnT, hTe, hT, hdT, h3⟩ := R
  unfold noteFrame
  simp only [hf]
  refine wpAny_bind (wpAny_field he hd h1 ?_)
  rw [if_pos (show (Value.ref T != Value.none) = true from by simp)]
  refine wpAny_bind (wpAny_field hT hdT h3 ?_)
  rw [if_neg (show ¬ ((Value.none == rawInt L) = true) from by simp [rawInt])]
  refine wpAny_bind (wpAny_setField hT hdT (Array.getElem?_eq_some_iff.mp h3).1 ?_)
  have other : ∀ b, b ≠ T → (s.heap.update T (Obj.mapFields (·.setIfInBounds 3 Value.none))).get? b = s.heap.get? b := fun b hb => Heap.get?_update_other _ _ (Ne.symm hb)
  have noT : ∀ b o, s.heap.get? b = some o → (∀ vs, o.data ≠ .fields vs) → b ≠ T := fun b o q hnf z => by
    rw [z, hT] at q
    cases q
    exact hnf ts hdT
  refine fly_entry hfr (hl.of_keeps fun b o q hnf => ⟨o, (other b (noT b o q hnf)).trans q, rfl⟩) hf ((other e (Ne.symm hTe)).trans he)
    (fun b o q => (other b fun z => by rw [z, hnT] at q; cases q).trans (hst b o q)) hne hc hx hd (Array.getElem?_eq_some_iff.mp h1).1 fun h' F' U' => h h' F' fun b o q hnf => U' b o ((other b (noT b o q hnf)).trans q) hnf

/-- it lands, or leaves its frame -/
theorem fly_land {fl : Value} {l : List Env} {Q : Unit → Shared → Prop} (R : Fly B s.heap l e C dx fl)
    (h : ∀ h', Fly B h' l e C dx .none → s.heap.UpToSlots h' → Q () { s with heap := h' }) : wpAny M A (setFlight (.ref e) none) Q E s := by
  obtain ⟨hst, hne, hl, oe, vs, T, oT, ts, he, hc, hx, hd, h1, hnT, hTe, hT, hdT, h3⟩ := R
  have hsz : 3 < ts.size := (Array.getElem?_eq_some_iff.mp h3).1
  unfold setFlight
  refine wpAny_bind (wpAny_field he hd h1 ?_)
  rw [if_pos (show (Value.ref T != Value.none) = true from by simp)]
  have other : ∀ b, b ≠ T → (s.heap.update T (Obj.mapFields (·.setIfInBounds 3 ((none : Option Addr).elim Value.none fun f => rawInt f)))).get? b = s.heap.get? b :=
    fun b hb => Heap.get?_update_other _ _ (Ne.symm hb)
  have noT : ∀ b o, s.heap.get? b = some o → (∀ vs, o.data ≠ .fields vs) → b ≠ T := fun b o q hnf z => by
    rw [z, hT] at q
    cases q
    exact hnf ts hdT
  refine wpAny_setField hT hdT hsz (h _ ⟨fun b o q => (other b fun z => by rw [z, hnT] at q; cases q).trans (hst b o q), hne, hl.of_keeps fun b o q hnf => ⟨o, (other b (noT b o q hnf)).trans q, rfl⟩,
    oe, vs, T, _, _, (other e (Ne.symm hTe)).trans he, hc, hx, hd, h1, hnT, hTe, Heap.get?_update_self _ hT (Obj.isFreed_of_fields (Obj.data_mapFields hdT _)), Obj.data_mapFields hdT _, ?_⟩ fun b o q hnf => ⟨o.slots, (other b (noT b o q hnf)).trans q⟩)
  simp [hsz]
theorem Fly.pop {h : Heap} {fl : Value} (R : Fly B h (env :: outer) e C dx fl) : Fly B h outer e C dx fl := ⟨R.st, R.ne, R.fr.2.2, R.ob⟩
theorem Fly.there {h : Heap} {fl : Value} {l : List Env} (R : Fly B h l e C dx fl) : ∃ ob, h.get? e = some ob ∧ ob.cls = .ref C := by
  obtain ⟨oe, _, _, _, _, he, hc, _⟩ := R.ob
  exact ⟨oe, he, hc⟩
end
end Mine

namespace Mine
open PySem.Calls PySem.Spec

/-- raised, and out of the frames behind it: what the ledger bore stands (news), the exception's own object apart -/
def RaisedD (base G : Heap) (l : List Env) (e C dx : Addr) (news : List (Addr × Obj)) (h : Heap) : Prop :=
  ∃ B, base.StaysIn B ∧ (∀ b o, G.get? b = some o → b ∉ l.filterMap (·.frame) → B.get? b = some o) ∧ (∀ q ∈ news, B.get? q.1 = some q.2 ∧ G.get? q.1 = none ∧ base.get? q.1 = none) ∧ Fly B h l e C dx .none

theorem leave_D {M : Model} {A : Around} {E : Value → Shared → Prop} {s' : Shared} {base g : Heap} {outer : List Env} {L a e C dx : Addr} {m : Str → Option Value} {name : Str} {scope : Scope} {cd : Value} {Q : Unit → Shared → Prop} {news : List (Addr × Obj)} {oe : Obj} {vs : Array Value}
    (K : Below A base outer g) (F : Fr g L s'.heap m) (N : News g L s'.heap ((e, oe) :: news)) (off : ∀ q ∈ news, q.1 ≠ e) (hc : oe.cls = .ref C) (hx : oe.dict = some dx) (hd : oe.data = .fields vs) (h1 : vs[1]? = some .none)
    (hQ : ∀ h', RaisedD base g outer e C dx news h' → g.UpToSlots h' → Q () { s' with heap := h' }) (hk : scope.kind = .function := by rfl) :
    wpAny M (A.deeper (envOf name scope L a cd)) (leaving (envOf name scope L a cd) (.ref e)) Q E s' := by
  have K' := K.push (name := name) (a := a) (cd := cd) F hk
  have ze := N (e, oe) (.head _)
  have be : base.get? e = none := fresh_of_stays K.stays ze.2.2
  have offFrames : ∀ {b : Addr}, b ∈ (envOf name scope L a cd :: outer).filterMap (·.frame) → b = L ∨ (∃ o, g.get? b = some o) := fun {b} hm => by
    rcases kts_mem hm with z | z
    · exact .inl z
    · obtain ⟨_, o, ho, _⟩ := K.frames.mem z
      exact .inr ⟨o, ho⟩
  have st : base.StaysIn (hideAll s'.heap (e :: (envOf name scope L a cd :: outer).filterMap (·.frame))) := fun b o q => hideAll_get _ (K'.stays b o q) fun hm => by
    rcases List.mem_cons.mp hm with z | z
    · rw [z, be] at q; cases q
    · rw [(K'.frames.mem z).1] at q; cases q
  have sg : ∀ b o, g.get? b = some o → b ∉ outer.filterMap (·.frame) → (hideAll s'.heap (e :: (envOf name scope L a cd :: outer).filterMap (·.frame))).get? b = some o := fun b o q nm => hideAll_get _ (F.keep b o q) fun hm => by
    rcases List.mem_cons.mp hm with z | z
    · rw [z, ze.2.2] at q; cases q
    · rcases kts_mem z with z | z
      · rw [z, kts_self F] at q; cases q
      · exact nm z
  have hl : ∀ q ∈ news, (hideAll s'.heap (e :: (envOf name scope L a cd :: outer).filterMap (·.frame))).get? q.1 = some q.2 ∧ g.get? q.1 = none ∧ base.get? q.1 = none := fun q hq => by
    have zq := N q (.tail _ hq)
    refine ⟨hideAll_get _ zq.1 fun hm => ?_, zq.2.2, fresh_of_stays K.stays zq.2.2⟩
    rcases List.mem_cons.mp hm with z | z
    · exact off q hq z
    · rcases offFrames z with z | ⟨o, ho⟩
      · exact zq.2.1 z
      · rw [zq.2.2] at ho; cases ho
  have hfun := funFrames_hide (as := e :: (envOf name scope L a cd :: outer).filterMap (·.frame)) K'.frames fun env he b hb => List.mem_cons_of_mem _ (List.mem_filterMap.mpr ⟨env, he, hb⟩)
  unfold leaving
  refine wpAny_bind (fly_first K'.stack hfun rfl ze.1 (fun b o q => of_hideAll _ q) (hideAll_none _ (.head _)) hc hx hd h1 fun h₁ R₁ U₁ => ?_)
  exact fly_land R₁ fun h₂ R₂ U₂ => hQ h₂ ⟨_, st, sg, hl, R₂.pop⟩ ((Heap.UpToSlots.of_keeps F.keep).trans (U₁.trans U₂))

section
variable {prog : Program} {w : World} {A₀ : Around} {E : Value → Shared → Prop} {s' : Shared} {base g g₀ G : Heap} {outer : List Env} {L a e C dx : Addr} {m : Str → Option Value} {name : Str} {scope : Scope} {cd : Value}
  {n : Str} {b₀ : Stmt} {suite : List Stmt} {pos np : Pos} {rest : List ExceptHandler} {Q : Flow → Shared → Prop} {news : List (Addr × Obj)} {KF : Frag}
  {p : Program} {loose : List Str} {mean : ExcName → Option Value} {mg mb : Str → Option Value} {x : Str}

/-- caught by the class's own name, under a name, in a called def -/
theorem caught_D (R : RaisedD base G (envOf name scope L a cd :: outer) e C dx news s'.heap) (F : Fr g L G m) (K : Below A₀ base outer g) (hsm : G.UpToSlots s'.heap) (XB : KF.In base) (TB : Top p loose mean mg mb base)
    (D : KtsDicts (outer.filterMap (·.frame)) g) (T0 : KtsTurn (outer.filterMap (·.frame)) g₀ g)
    (ex : nsIn KF mainGlobals x = some (some (.ref C))) (q : ktsIn KF C "BaseException" = true)
    (k : ∀ h' g' oe vs tk, KtsTurn (outer.filterMap (·.frame)) g₀ g' → Fr g' L h' (fun y => if y = n then some (.ref e) else m y) → News g' L h' ((e, oe) :: news) → oe.cls = .ref C → oe.dict = some dx → oe.data = .fields vs → Below A₀ base outer g' → KF.In g' → Top p loose mean mg mb g' → KtsDicts (outer.filterMap (·.frame)) g' →
      wpAny (model prog w) ((A₀.deeper (envOf name scope L a cd)).mark (some (.ref e))) (execs (b₀ :: suite) (envOf name scope L a cd))
        (fun f s₄ => wpAny (model prog w) (A₀.deeper (envOf name scope L a cd)) (do bindName (envOf name scope L a cd) n .none; unbindBehindTheSuite (envOf name scope L a cd) n pos) (fun _ s₅ => Q f s₅) E s₄)
        (AsSuiteRaised (model prog w) ((A₀.deeper (envOf name scope L a cd)).mark (some (.ref e))) (envOf name scope L a cd) n pos (notedBy (model prog w) ((A₀.deeper (envOf name scope L a cd)).mark (some (.ref e))) (envOf name scope L a cd) (cameBackBy (model prog w) (A₀.deeper (envOf name scope L a cd)) (envOf name scope L a cd) E)))
        { s' with heap := h', toks := tk })
    (hk : scope.kind = .function := by rfl) (hlo : (envOf name scope L a cd).kindOf n = some .local := by rfl) (hx : (envOf name scope L a cd).kindOf x = some .globalImplicit := by rfl) (hd : (x == ("__debug__" : Str)) = false := by decide) :
    wpAny (model prog w) (A₀.deeper (envOf name scope L a cd)) (noteFrame (.ref e) (envOf name scope L a cd))
      (fun _ s₂ => wpAny (model prog w) (A₀.deeper (envOf name scope L a cd)) (setFlight (.ref e) none) (fun _ s₃ =>
        wpAny (model prog w) (A₀.deeper (envOf name scope L a cd)) (handleBy (.ref e) (envOf name scope L a cd) (.ExceptHandler (some (.Name x np)) (some n) (b₀ :: suite) pos :: rest)) Q E s₃) E s₂) E s' := by
  obtain ⟨B, hB, hBG, hl, hfl⟩ := R
  have hL : B.get? L = none := by
    obtain ⟨_, ⟨L', _, hf, hn', _⟩, _⟩ := hfl.fr
    obtain rfl : L = L' := Option.some.inj hf
    exact hn'
  refine fly_note (Around.frames_deeper K.stack) rfl hfl fun h₄ R₄ U₄ => ?_
  refine fly_land R₄ fun h₅ R₅ U₅ => ?_
  have sm₅ := hsm.trans (U₄.trans U₅)
  obtain ⟨g₅, T₅, F₅, K₅⟩ := kts_ground K F hBG R₅.st sm₅
  have X₅ : KF.In g₅ := XB.keeps K₅.stays
  have P₅ : TopRead p loose mg mb g₅ := topRead_of (TB.keeps K₅.stays)
  obtain ⟨ob, hob, hobc⟩ := R₅.there
  obtain ⟨nm, q', N, bs, bm, hdct, sn, sub, ab, col, dd, k0, k1, k2, k3, k5, newId, hC, hbase, _⟩ := kts_cls X₅ q
  refine wpAny_handleBy_cons (codeAny_handlers_test (name_K F₅ X₅ P₅ ex ?_ hk hx hd)) (by intro q; cases q)
  refine wpAny_excMatches_sub_self (F₅.keep _ _ hC) hob hobc hbase (codeAny_handlers_suite_as ?_)
  refine fly_land R₅ fun h₆ R₆ U₆ => ?_
  have sm₆ := sm₅.trans U₆
  obtain ⟨g₆, T₆, F₆, K₆⟩ := kts_ground K F hBG R₆.st sm₆
  obtain ⟨oe, vs, T, oT, ts, hoe, hoec, hoex, hoed, _⟩ := R₆.ob
  have ne₆ : g₆.get? e = none := T₆.none_ _ (kts_fresh F hBG R₆.ne fun o ho hm => by
    obtain ⟨_, o', ho', hd'⟩ := K.frames.mem hm
    rw [ho] at ho'
    cases ho'
    obtain ⟨sl, hs⟩ := sm₆ _ _ (F.keep _ _ ho) hd'
    rw [hoe] at hs
    cases hs
    exact hd' _ hoed)
  have N₆ := News.more F₆ News.nil hoe (fun es n q => by rw [hoed] at q; cases q) ne₆
  have Nl : News g₆ L h₆ news := fun q hq => ⟨R₆.st _ _ (hl q hq).1, (fun z => by have := (hl q hq).1; rw [z, hL] at this; cases this), T₆.none_ _ (kts_none F.keep (hl q hq).2.1)⟩
  have X₆ : KF.In g₆ := XB.keeps K₆.stays
  have P₆ : Top p loose mean mg mb g₆ := TB.keeps K₆.stays
  have D₆ : KtsDicts (outer.filterMap (·.frame)) g₆ := D.turn T₆
  refine stN F₆ (news := (e, oe) :: news) (fun q hq => (List.mem_cons.mp hq).elim (fun z => N₆ q (z ▸ .head _)) (Nl q)) (fun h₇ F₇ N₇ => ?_) hk hlo
  exact k h₇ g₆ oe vs _ (T0.trans T₆) F₇ N₇ hoec hoex hoed K₆ X₆ P₆ D₆
end

/-- what a raise asks of the value that it raises -/
def RaiseD (C : Addr) (E : Value → Shared → Prop) (v : Value) (s : Shared) : Prop :=
  ∃ e dd vs sl nm q N bs bm hdct sn sub ab col d5 k0 k1 k2 k3 k5 newId, v = .ref e ∧ s.heap.get? C = some (excClassObj nm q C N bs bm hdct sn sub ab col d5 k0 k1 k2 k3 k5 newId) ∧ bm.contains (.type "BaseException") = true ∧
    s.heap.get? e = some ⟨.ref C, dd, .fields #[vs, .none, .none, .none, .bool false, .none], sl⟩ ∧ E (.ref e) s
theorem raise_stmt_D {M : Model} {A : Around} {E : Value → Shared → Prop} {s : Shared} {env : Env} {C : Addr} {x : Sem Value} {Q : Flow → Shared → Prop} (hh : A.handled = none)
    (h : wpAny M A x (RaiseD C E) E s) : wpAny M A (raiseStmt env (some x) none) Q E s := by
  unfold raiseStmt
  refine wpAny_bind (wpAny_mono h (fun v s₁ h₁ => ?_) fun _ _ x => x)
  obtain ⟨e, dd, vs, sl, nm, q, N, bs, bm, hdct, sn, sub, ab, col, d5, k0, k1, k2, k3, k5, newId, rfl, hC, hbase, he, hE⟩ := h₁
  have hcB : (Value.ref C :: bm).contains (.type "BaseException") = true := by rw [List.contains_cons, hbase, Bool.or_true]
  obtain ⟨hp, g, d, tk, os⟩ := s₁
  repeat (first | with_reducible refine wpAny_loadPart_at he ?_ | with_reducible refine wpAny_loadPart_at hC ?_ | (with_reducible refine wpAny_isSubtype_exc hC ?_; rw [hcB]) | wp_step)
  exact wpAny_raiseNew_none hh hE
theorem raise_D {M : Model} {A : Around} {E : Value → Shared → Prop} {s : Shared} {env : Env} (C : Addr) {x : Expr} {pos : Pos} {Q : Flow → Shared → Prop} (hh : A.handled = none)
    (h : wpAny M A (eval x env) (RaiseD C E) E s) : wpAny M A (exec (.Raise (some x) none pos) env) Q E s := by
  rw [arm_exec_Raise]
  first
    | refine wpAny_bind (wpAny_standAt (raise_stmt_D (C := C) hh (wpAny_bind (wpAny_mono h (fun v s₃ h₃ => wpAny_bind (wpAny_standAt (wpAny_pure h₃))) fun _ _ x => x))))
    | (simp only [evalOpt, Option.map]; refine wpAny_bind (wpAny_standAt (raise_stmt_D (C := C) hh (wpAny_bind (wpAny_mono h (fun v s₃ h₃ => wpAny_bind (wpAny_standAt (wpAny_pure h₃))) fun _ _ x => x)))))
    | (refine wpAny_bind (wpAny_standAt (raise_stmt_D (C := C) hh ?_)); exact h)
end Mine

namespace Mine
open PySem.Calls PySem.Spec

/-- a def called out of the lowest frame, whatever that frame's cells; behind the call the frame's object may bear other slots -/
theorem code_X0 {prog : Program} {w : World} {A₀ A : Around} {s : Shared} {base h₀ : Heap} {L : Addr} {m : Str → Option Value} {env : Env} {news : List (Addr × Obj)} {K : Frag} {p : Program} {loose : List Str} {mean : ExcName → Option Value} {mg mb : Str → Option Value}
    {R : Result → Shared → Prop} {name qual : Str} {params : Arguments} {body : List Stmt} {scope : Scope} {dV kV doc pm cdv ct oc : Value} {an od : Option Addr} {osl : Array (Option Value)} {f : Addr} {args : Args} {binds : List (Str × Value)}
    (B : Below A₀ base [] h₀) (F : Fr h₀ L s.heap m) (X₀ : K.In h₀) (N : News h₀ L s.heap news) (T : Top p loose mean mg mb h₀) (hA : A.frames = some [env]) (hf : env.frame = some L) (hke : env.scope.kind = .function)
    (ho : K.lookup f = some ⟨oc, od, .func (fnOf name qual params body scope dV kV doc pm an cdv ct), osl⟩) (hcd : codeIn K cdv qual = true) (hroom : A.depth < recursionLimit)
    (hbind : BindsTo s (fnOf name qual params body scope dV kV doc pm an cdv ct) args binds) (hloc : ∀ y ∈ binds, scope.names.lookup y.1 = some .local)
    (h : ∀ g L' h₁, Fr h₀ L g m → Fr g L' h₁ (fun y => binds.reverse.lookup y) → News g L' h₁ news → Below A base [env] g → K.In g → Top p loose mean mg mb g → KtsDicts ([env].filterMap (·.frame)) g →
      wpAny (model prog w) (A.deeper (envOf qual scope L' f cdv)) (execs body (envOf qual scope L' f cdv))
        (fun fl s' => LeaveS0 ([env].filterMap (·.frame)) h₀ L m g R (match fl with | .ret v => v | _ => .none) s')
        (fun e s' => wpAny (model prog w) (A.deeper (envOf qual scope L' f cdv)) (leaving (envOf qual scope L' f cdv) e) (fun _ s'' => R (.error e) s'') (fun e' s'' => R (.error e') s'') s')
        { s with heap := h₁, toks := s.toks + binds.length })
    (hco : scope.isCoroutine = false) (hgen : scope.isGenerator = false) (hk : scope.kind = .function)
    (hcell : ∀ x ∈ scope.names, x.2 ≠ .cell) : codeAny (model prog w) A (.call (.ref f) args) R s := by
  have X := X₀.keeps F.keep
  obtain ⟨FG, BG, st, _⟩ := groundX (R := R) B F N hA hf hke
  obtain ⟨oL, es, ep, hLg, hLd, hLk, hLf⟩ := FG.ns
  have fs : [env].filterMap (·.frame) = [L] := by simp [hf]
  refine codeAny_call_def (fd := fnOf name qual params body scope dV kV doc pm an cdv ct) (body := body) (binds := binds) hroom (X _ _ ho) rfl (T.nolimit.keeps F.keep) (codeRec_of X hcd) rfl hbind hcell hloc (fun h₁ hns hk₁ => ?_) hco hgen hk
  refine wpAny_mono (h _ s.heap.objs.size h₁ FG ⟨hns, fun b o e => hk₁ b o (of_hideAll _ e), Nat.le_of_eq (hideAll_size _ _)⟩
    (fun p hp => ⟨hk₁ _ _ (N p hp).1, Nat.ne_of_lt (Heap.lt_size (N p hp).1), hideAll_none _ (List.mem_map_of_mem hp)⟩) BG (X₀.keeps st) (T.keeps st) (fun b hb => by
      rw [fs] at hb
      rw [List.mem_singleton.mp hb]
      exact ⟨oL, es, ep, hLg, hLd⟩)) (fun fl s' hl => ?_) fun _ _ y => y
  obtain ⟨g', L', m', news', T', F', N', k⟩ := hl
  have nL₀ : h₀.get? L = none := kts_self F
  obtain ⟨sl, hs⟩ := T'.up hLg
  refine k ⟨⟨_, es, ep, F'.keep _ _ hs, hLd, hLk, hLf⟩, fun b o e => F'.keep b o (T'.other b o (st b o e) (fun q => by
    rw [fs] at q
    rw [List.mem_singleton.mp q, nL₀] at e
    cases e)), F.above⟩ fun p hp => ⟨(N' p hp).1, fun q => ?_, ?_⟩
  · have := (N' p hp).2.2; rw [q, hs] at this; cases this
  · cases q : h₀.get? p.1 with
    | none => rfl
    | some o =>
      obtain ⟨sl', hs'⟩ := T'.up (st _ _ q)
      have := (N' p hp).2.2
      rw [hs'] at this
      cases this
end Mine

namespace Mine
open PySem.Calls PySem.Spec
open PySem.W.X PySem.W.XRun

structure MadeD (h h' : Heap) (e dx t : Addr) (kind place : Value) : Prop where
  keeps : ∀ b o, h.get? b = some o → h'.get? b = some o
  newE : h.get? e = none
  newX : h.get? dx = none
  newT : h.get? t = none
  ex : e < dx
  te : t < e
  atE : h'.get? e = some ⟨.ref 52, some dx, .fields #[.ref t, .none, .none, .none, .bool false, .none], #[]⟩
  atX : ∃ es n, h'.get? dx = some (dictOf es n) ∧ getL (Str.ofString "kind") es = some (some kind) ∧ getL (Str.ofString "at") es = some (some place)
def MkRet (s : Shared) (Q : Value → Shared → Prop) (kind place : Value) : Prop := ∀ e dx t h' tk', MadeD s.heap h' e dx t kind place → Q (.ref e) { s with heap := h', toks := tk' }
theorem mkret_use {s : Shared} {Q : Value → Shared → Prop} {kind place : Value} {h' : Heap} {e dx t fr : Addr} {ox oe of ot : Obj} {tk' : Nat} {es : List DictEntry} {n : Nat}
    (hret : MkRet s Q kind place) (D : Mem s.heap h' [] [(dx, ox), (fr, of), (e, oe), (t, ot)]) (h1 : oe = ⟨.ref 52, some dx, .fields #[.ref t, .none, .none, .none, .bool false, .none], #[]⟩) (h2 : ox = dictOf es n)
    (h3 : getL (Str.ofString "kind") es = some (some kind)) (h4 : getL (Str.ofString "at") es = some (some place)) : Q (.ref e) { heap := h', gens := s.gens, drawn := s.drawn, toks := tk', os := s.os } := by
  subst h1 h2
  have o := D.ord
  simp only [List.map_cons, List.map_nil, List.pairwise_cons, List.mem_cons, List.not_mem_nil, or_false, forall_eq_or_imp, forall_eq] at o
  have xe := D.nw (e, _) (.tail _ (.tail _ (.head _)))
  have xx := D.nw (dx, _) (.head _)
  have xt := D.nw (t, _) (.tail _ (.tail _ (.tail _ (.head _))))
  exact hret e dx t h' tk' ⟨fun b ob q => D.keep b ob q (by simp [away]), xe.2, xx.2, xt.2, o.1.2.1, o.2.2.1, xe.1, es, n, xx.1, h3, h4⟩
local macro_rules | `(tactic| x_close) => `(tactic| (refine' mkret_use (by assumption) (by assumption) ?h1 ?h2 ?h3 ?h4; (case h1 => with_unfolding_all exact rfl); (case h2 => with_unfolding_all exact rfl); (case h3 => k_get); (case h4 => k_get)))
set_option maxHeartbeats 4000000 in
theorem mkexc {w : World} {s : Shared} {e1 e2 e3 : Env} {mean mg mb} {Q E : Value → Shared → Prop} {kv : Str} {one : Int} {t1 t2 : Tok}
    (KX : (hd.heap_39 w.params).In s.heap) (T : lawTop mean mg mb s.heap) (hret : MkRet s Q (.str kv t1) (.int one t2)) :
    wpAny (model PySem.Challenge.rw_pq0444_01.row.prog w) (((callerA.deeper e3).deeper e2).deeper e1) (call (.ref (nat_lit 52)) [.str kv t1, .int one t2]) Q E s := by
  w_top off
  x_run
end Mine

namespace Mine
open PySem.Calls PySem.Spec
/-- an attribute in the dict of an exception of an own class -/
theorem get_exc {prog : Program} {w : World} {A : Around} {E : Value → Shared → Prop} {s : Shared} {K : Frag} {x C : Addr} {ox : Obj} {od : Option Obj} {name : Str} {expr : Bool} {Q : Value → Shared → Prop} {v : Value}
    (X : K.In s.heap) (I : InstAt s.heap x ox C od) (hga : findIn K (.ref C) "__getattribute__" = some (some (.builtin "BaseException.__getattribute__"))) (hgt : findIn K (.ref C) "__getattr__" = some none)
    (hsub : mroIn K C (.type "BaseException") = some true) (hf : findObj K C od name = some (.value v)) (hh : handedIn v = true) (h : Q v { s with toks := s.toks + 1 }) : wpAny (model prog w) A (getAttr (.ref x) name expr) Q E s := by
  obtain ⟨hp, g, d, t, os⟩ := s
  have L0 := I.type (M := model prog w)
  have L1 := looks_findIn (M := model prog w) X hga
  have L2 := looks_findIn (M := model prog w) X hgt
  have L3 := looks_mroIn (M := model prog w) X hsub
  have L4 := looks_find (M := model prog w) X I hf
  have hx0 : (expr && onTheHeap (Value.builtin "BaseException.__getattribute__")) = false := by cases expr <;> rfl
  have hx2 : (Value.builtin "BaseException.__getattribute__" == Value.builtin "object.__getattribute__") = false := by decide +kernel
  have hx1 : (onTheHeap (Value.ref C) && Value.builtin "BaseException.__getattribute__" == Value.builtin "object.__getattribute__") = false := by rw [hx2]; rfl
  have hk : builtinKind "BaseException.__getattribute__" = some .slot := by decide +kernel
  have hsplit : splitId "BaseException.__getattribute__" = some ("BaseException", "__getattribute__") := by decide +kernel
  have ha := F.args_bexc_ga (.ref x) (.str name t)
  unfold getAttr getAttrBy
  refine wpAny_bind (wpAny_mkText (wpAny_holding (wpAny_bind (L0.at (wpAny_bind (L1.at ?_))))))
  dsimp only
  rw [hx1]
  simp only [Bool.false_eq_true, if_false]
  unfold getAttrByItsOwn hookBefore
  refine wpAny_bind ?_
  rw [if_pos (show onTheHeap (Value.ref C) = true from rfl)]
  refine L2.at ?_
  refine wpAny_bind (wpAny_attempt (wpAny_holding ?_))
  unfold callGetattribute
  rw [hx0]
  simp only [Bool.false_eq_true, if_false]
  unfold boundAndCalled
  refine wpAny_bind (wpAny_of_eq (PySem.F.attr_Exception.ga.bind (.ref x)) ?_)
  dsimp only [List.append, List.nil_append, List.cons_append]
  refine wpAny_call (codeAny_call_builtin PySem.F.attr_Exception.ga.plain F.entry_bexc_ga ?_)
  have chk : ∀ {A : Around} {E : Value → Shared → Prop} {Q : Unit → Shared → Prop} {t' : Nat}, Q () ⟨hp, g, d, t', os⟩ → wpAny (model prog w) A (checkBuiltinCall "BaseException.__getattribute__" ⟨[.ref x, .str name t], []⟩) Q E ⟨hp, g, d, t', os⟩ := by
    intro A E Q t' hq
    simp only [checkBuiltinCall, hk, hsplit]
    refine wpAny_bind ?_
    unfold isInstance
    refine wpAny_bind (L0.at (L3.at ?_))
    repeat (first | assumption | wp_step)
  refine chk ?_
  unfold Builtin.«object.__getattribute__»
  refine wpAny_bind (wpAny_pure (wpAny_bind (wpAny_pure (wpAny_bind (L0.at (wpAny_bind (L4.at ?_)))))))
  refine wpAny_pure ?_
  show wpAny _ _ (handedOut v) _ _ _
  rw [handedOut_of hh]
  exact wpAny_pure h
theorem excAt {h₀ h : Heap} {L x C dx : Addr} {news : List (Addr × Obj)} {od : Obj} {vs : Array Value} {sl : Array (Option Value)} (N : News h₀ L h news) (h1 : (x, (⟨.ref C, some dx, .fields vs, sl⟩ : Obj)) ∈ news) (h2 : (dx, od) ∈ news) :
    InstAt h x ⟨.ref C, some dx, .fields vs, sl⟩ C (some od) := ⟨(N _ h1).1, rfl, rfl, (N _ h2).1⟩
end Mine

namespace Mine
open PySem.Calls PySem.Spec

/-- the exception made by the class's call, on the ledger -/
theorem mkexcN {w : World} {s : Shared} {e1 e2 e3 : Env} {h₀ : Heap} {L : Addr} {m : Str → Option Value} {news : List (Addr × Obj)} {Q E : Value → Shared → Prop} {kv : Str} {one : Int} {t1 t2 : Tok}
    (X : (hd.heap_39 w.params).In h₀) (T : lawTop mean mg mb h₀) (F : Fr h₀ L s.heap m) (N : News h₀ L s.heap news)
    (k : ∀ e dx t es n h' tk', Fr h₀ L h' m → News h₀ L h' ((e, ⟨.ref 52, some dx, .fields #[.ref t, .none, .none, .none, .bool false, .none], #[]⟩) :: (dx, dictOf es n) :: news) → (∀ q ∈ (dx, dictOf es n) :: news, q.1 ≠ e) →
      getL (Str.ofString "kind") es = some (some (.str kv t1)) → getL (Str.ofString "at") es = some (some (.int one t2)) → Q (.ref e) { s with heap := h', toks := tk' }) :
    wpAny (model PySem.Challenge.rw_pq0444_01.row.prog w) (((callerA.deeper e3).deeper e2).deeper e1) (call (.ref (nat_lit 52)) [.str kv t1, .int one t2]) Q E s := by
  refine mkexc (X.keeps F.keep) (T.keeps F.keep) ?_
  rintro e dx t h' tk' ⟨keeps, newE, newX, newT, ex, te, atE, es, n, atX, h3, h4⟩
  have hL : ∃ o, s.heap.get? L = some o := by obtain ⟨o, _, _, q, _⟩ := F.ns; exact ⟨o, q⟩
  have fresh : ∀ {b}, s.heap.get? b = none → b ≠ L ∧ h₀.get? b = none := fun {b} hb => by
    refine ⟨fun z => ?_, ?_⟩
    · obtain ⟨o, q⟩ := hL
      rw [z, q] at hb
      cases hb
    · cases q : h₀.get? b with
      | none => rfl
      | some o =>
        rw [F.keep _ _ q] at hb
        cases hb
  refine k e dx t es n h' tk' (F.keeps keeps) (fun p hp => ?_) (fun q hq => ?_) h3 h4
  · rcases List.mem_cons.mp hp with rfl | hp
    · exact ⟨atE, fresh newE⟩
    · rcases List.mem_cons.mp hp with rfl | hp
      · exact ⟨atX, fresh newX⟩
      · exact N.grown keeps p hp
  · rcases List.mem_cons.mp hq with rfl | hq
    · exact Nat.ne_of_gt ex
    · intro z
      have y := (N q hq).1
      rw [z, newE] at y
      cases y
theorem raiseD_of {KF : Frag} {E : Value → Shared → Prop} {s : Shared} {h₀ : Heap} {L e C : Addr} {m : Str → Option Value} {news : List (Addr × Obj)} {dd : Option Addr} {v0 : Value} {sl : Array (Option Value)}
    (X : KF.In h₀) (F : Fr h₀ L s.heap m) (N : News h₀ L s.heap news) (hm : (e, (⟨.ref C, dd, .fields #[v0, .none, .none, .none, .bool false, .none], sl⟩ : Obj)) ∈ news) (q : ktsIn KF C "BaseException" = true) (hE : E (.ref e) s) : RaiseD C E (.ref e) s := by
  obtain ⟨nm, q', N', bs, bm, hdct, sn, sub, ab, col, dd', k0, k1, k2, k3, k5, newId, hC, hbase, _⟩ := kts_cls X q
  exact ⟨e, dd, v0, sl, nm, q', N', bs, bm, hdct, sn, sub, ab, col, dd', k0, k1, k2, k3, k5, newId, rfl, F.keep _ _ hC, hbase, (N _ hm).1, hE⟩
theorem caught_D2 {prog : Program} {w : World} {A₀ : Around} {E : Value → Shared → Prop} {s' : Shared} {base g g₀ G : Heap} {outer : List Env} {L a e C dx : Addr} {m : Str → Option Value} {name : Str} {scope : Scope} {cd : Value}
  {n : Str} {b₀ : Stmt} {suite : List Stmt} {pos np : Pos} {rest : List ExceptHandler} {Q : Flow → Shared → Prop} {news : List (Addr × Obj)} {KF : Frag}
  {p : Program} {loose : List Str} {mean : ExcName → Option Value} {mg mb : Str → Option Value} {x : Str}
    (R : RaisedD base G (envOf name scope L a cd :: outer) e C dx news s'.heap) (F : Fr g L G m) (K : Below A₀ base outer g) (hsm : G.UpToSlots s'.heap) (XB : KF.In base) (TB : Top p loose mean mg mb base)
    (D : KtsDicts (outer.filterMap (·.frame)) g) (T0 : KtsTurn (outer.filterMap (·.frame)) g₀ g)
    (ex : nsIn KF mainGlobals x = some (some (.ref C))) (q : ktsIn KF C "BaseException" = true)
    (k : ∀ h' g' vs sl tk, KtsTurn (outer.filterMap (·.frame)) g₀ g' → Fr g' L h' (fun y => if y = n then some (.ref e) else m y) → News g' L h' ((e, ⟨.ref C, some dx, .fields vs, sl⟩) :: news) → Below A₀ base outer g' → KF.In g' → Top p loose mean mg mb g' → KtsDicts (outer.filterMap (·.frame)) g' →
      wpAny (model prog w) ((A₀.deeper (envOf name scope L a cd)).mark (some (.ref e))) (execs (b₀ :: suite) (envOf name scope L a cd))
        (fun f s₄ => wpAny (model prog w) (A₀.deeper (envOf name scope L a cd)) (do bindName (envOf name scope L a cd) n .none; unbindBehindTheSuite (envOf name scope L a cd) n pos) (fun _ s₅ => Q f s₅) E s₄)
        (AsSuiteRaised (model prog w) ((A₀.deeper (envOf name scope L a cd)).mark (some (.ref e))) (envOf name scope L a cd) n pos (notedBy (model prog w) ((A₀.deeper (envOf name scope L a cd)).mark (some (.ref e))) (envOf name scope L a cd) (cameBackBy (model prog w) (A₀.deeper (envOf name scope L a cd)) (envOf name scope L a cd) E)))
        { s' with heap := h', toks := tk })
    (hk : scope.kind = .function := by rfl) (hlo : (envOf name scope L a cd).kindOf n = some .local := by rfl) (hx : (envOf name scope L a cd).kindOf x = some .globalImplicit := by rfl) (hd : (x == ("__debug__" : Str)) = false := by decide) :
    wpAny (model prog w) (A₀.deeper (envOf name scope L a cd)) (noteFrame (.ref e) (envOf name scope L a cd))
      (fun _ s₂ => wpAny (model prog w) (A₀.deeper (envOf name scope L a cd)) (setFlight (.ref e) none) (fun _ s₃ =>
        wpAny (model prog w) (A₀.deeper (envOf name scope L a cd)) (handleBy (.ref e) (envOf name scope L a cd) (.ExceptHandler (some (.Name x np)) (some n) (b₀ :: suite) pos :: rest)) Q E s₃) E s₂) E s' :=
  caught_D R F K hsm XB TB D T0 ex q (fun h' g' oe vs tk T' F' N' c' x' d' K' X' P' D' => by
    obtain ⟨c0, d0, dt0, sl0⟩ := oe
    dsimp only at c' x' d'
    subst c' x' d'
    exact k h' g' vs sl0 tk T' F' N' K' X' P' D') hk hlo hx hd
theorem news_drop2 {h₀ h : Heap} {L : Addr} {a b c : Addr × Obj} {r : List (Addr × Obj)} (N : News h₀ L h (a :: b :: c :: r)) : News h₀ L h (a :: r) :=
  fun p hp => N p ((List.mem_cons.mp hp).elim (fun z => z ▸ .head _) fun z => .tail _ (.tail _ (.tail _ z)))
local macro_rules | `(tactic| walk_at "exec Raise some none") => `(tactic| (k_here; k_dflt (refine' raise_D (nat_lit 52) ?hh ?_; (case hh => exact rfl)); walk_say "RAISE"))
local macro_rules | `(tactic| walk_at "call ref") => `(tactic| (k_here; k_dflt (refine' mkexcN ?X ?T ?F ?N ?_; (case X => k_asm); (case T => k_asm); (case F => k_asm); (case N => k_asm)); intro e9 dx9 t9 es9 n9 h9 tk9 F9 N9 off9 gk9 ga9; (try dsimp only); (try k_fold); walk_say "MADE"))
local macro_rules | `(tactic| walk_at "RaiseD") => `(tactic| (k_dflt (refine' raiseD_of ?X ?F ?N ?m ?q ?_; (case X => k_asm); (case F => k_asm); (case N => k_asm); (case m => exact List.Mem.head _); (case q => kts_isx)); (try dsimp only); walk_say "RAISED"))
local macro_rules | `(tactic| walk_at "leaving ref") => `(tactic| (k_here; k_dflt (refine' leave_D ?K ?F ?N ?off ?c1 ?c2 ?c3 ?c4 ?_; (case K => k_asm); (case F => k_asm); (case N => k_asm); (case off => assumption); (case c1 => exact rfl); (case c2 => exact rfl); (case c3 => exact rfl); (case c4 => exact rfl)); intro h9 R9 U9; (try dsimp only at R9 U9 ⊢); walk_say "LEFT"))
local macro_rules | `(tactic| walk_at "noteFrame ref") => `(tactic| (k_here; k_dflt (refine' caught_D2 ?R ?F ?K ?U ?XB ?TB ?D ?T0 ?ex ?q ?_; (case R => assumption); (case F => assumption); (case K => assumption); (case U => assumption); (case XB => assumption); (case TB => assumption); (case D => assumption); (case T0 => exact KtsTurn.refl); (case ex => k_is); (case q => kts_isx)); intro h9 g9 vs9 sl9 tk9 T9 F9 N9 K9 X9 P9 D9; (try dsimp only); (try k_fold); walk_say "CAUGHT"))
local macro_rules | `(tactic| walk_at "getAttr ref") => `(tactic| (k_here; k_dflt (refine' get_exc ?X ?I ?hga ?hgt ?hs ?hf ?hv ?_; (case X => k_in); (case I => (refine' excAt ?N ?h1 ?h2; (case N => k_asm); (case h1 => k_mem); (case h2 => k_mem))); (case hga => k_is); (case hgt => k_is); (case hs => k_is); (case hf => (refine' findObj_own ?f1 ?f2 ?f3 ?f4; (case f1 => k_is); (case f2 => k_is); (case f3 => k_is); (case f4 => assumption))); (case hv => exact rfl)); walk_say "FIELD"))
set_option maxHeartbeats 8000000 in
theorem width_bad {w : World} {env : Env} {h₀ : Heap} {L : Addr} {m : Str → Option Value} {news : List (Addr × Obj)} {s : Shared} {Q E : Value → Shared → Prop} {one two : Int} {t1 t2 : Tok} {mean mg mb}
    (B : Below callerA h₀ [] h₀) (F : Fr h₀ L s.heap m) (X : (hd.heap_39 w.params).In h₀) (N : News h₀ L s.heap news) (T : lawTop mean mg mb h₀) (hf : env.frame = some L) (hke : env.scope.kind = .function) (hbig : 4096 < ((one - two).natAbs : Int) + 1)
    (hret : ∀ tp u1 u2 h' tk', Fr h₀ L h' m → News h₀ L h' ((tp, { cls := .type "tuple", data := .seq #[.str (Str.ofString "too_wide") u1, .int 21 u2] }) :: news) → Q (.ref tp) { s with heap := h', toks := tk' }) :
    wpAny (lawM w) (callerA.deeper env) (call (.ref (nat_lit 129)) [.int one t1, .int two t2]) Q E s := by
  w_top off
  refine wpAny_call ?_
  k_dflt (refine' code_X0 B F X N T ?kA hf hke ?k6 ?k7 ?k8 ?k9 ?kB ?_ ?c2 ?c3 ?c4 ?c5; (case kA => exact rfl); (case k6 => k_is); (case k7 => k_is); (case k8 => (first | ktr_room | decide)); (case k9 => exact BindsTo.of_eq rfl); (case c5 => decide); (case kB => exact locs rfl); (case c2 => exact rfl); (case c3 => exact rfl); (case c4 => exact rfl); k_whole)
  intro g' L' h' FG' F' N' B' X' T' D'
  (try dsimp only); (try k_fold)
  k_steps
  all_goals (try k_data)
  all_goals exact hret _ _ _ _ _ (by assumption) (news_drop2 (by assumption))
set_option maxHeartbeats 8000000 in
theorem width_ok {w : World} {env : Env} {h₀ : Heap} {L : Addr} {m : Str → Option Value} {news : List (Addr × Obj)} {s : Shared} {Q E : Value → Shared → Prop} {one two : Int} {t1 t2 : Tok} {mean mg mb}
    (B : Below callerA h₀ [] h₀) (F : Fr h₀ L s.heap m) (X : (hd.heap_39 w.params).In h₀) (N : News h₀ L s.heap news) (T : lawTop mean mg mb h₀) (hf : env.frame = some L) (hke : env.scope.kind = .function) (hsm : ((one - two).natAbs : Int) + 1 ≤ 4096)
    (hret : ∀ v t h' tk', v = ((one - two).natAbs : Int) + 1 → Fr h₀ L h' m → News h₀ L h' news → Q (.int v t) { s with heap := h', toks := tk' }) :
    wpAny (lawM w) (callerA.deeper env) (call (.ref (nat_lit 129)) [.int one t1, .int two t2]) Q E s := by
  w_top off
  refine wpAny_call ?_
  k_dflt (refine' code_X0 B F X N T ?kA hf hke ?k6 ?k7 ?k8 ?k9 ?kB ?_ ?c2 ?c3 ?c4 ?c5; (case kA => exact rfl); (case k6 => k_is); (case k7 => k_is); (case k8 => (first | ktr_room | decide)); (case k9 => exact BindsTo.of_eq rfl); (case c5 => decide); (case kB => exact locs rfl); (case c2 => exact rfl); (case c3 => exact rfl); (case c4 => exact rfl); k_whole)
  intro g' L' h' FG' F' N' B' X' T' D'
  (try dsimp only); (try k_fold)
  k_steps
  all_goals (try k_data)
  all_goals exact hret _ _ _ _ (by split <;> omega) (by assumption) (by assumption)
end Mine

namespace Mine
open PySem.Calls PySem.Spec
theorem news_5 {h₀ h : Heap} {L : Addr} {a b c d e : Addr × Obj} (N : News h₀ L h [a, b, c, d, e]) : News h₀ L h [a, d, e] := fun p hp => N p (by
  rcases List.mem_cons.mp hp with rfl | hp
  · exact .head _
  · exact .tail _ (.tail _ (.tail _ hp)))
local macro_rules | `(tactic| walk_at "InvEndN") => `(tactic| (k_dflt kst_close))
set_option maxHeartbeats 8000000 in
theorem cards {w : World} {mean mg mb} {dp un : Nat} {gd : Option (List Code)} {cn : Str} {cs : Scope} {a : Addr} {ccd : Value} {cl : List (Str × Addr)} {outer : List Env} {A₀ : Around} {base h₀ : Heap} {L : Addr} {m : Str → Option Value} {s : Shared} {l c1 c2 : Addr} {o1 o2 : Obj}
    {vs : List Value} {ns : List Int} {Q E : Value → Shared → Prop}
    (B : Below A₀ base outer h₀) (F : Fr h₀ L s.heap m) (X : (hd.heap_39 w.params).In h₀) (N : News h₀ L s.heap [(c1, o1), (c2, o2)]) (T : lawTop mean mg mb h₀) (hk : cs.kind = .function)
    (hl : base.IsList l vs.toArray) (hi : IntsAre vs ns) (hlen : ns.length ≤ 1048576) (hd : dp + 1 < recursionLimit) (hu : un + 200 < cLine)
    (hret : ∀ d nn us ms h' tk', Fr h₀ L h' m → News h₀ L h' [(d, listOf us.toArray nn), (c1, o1), (c2, o2)] → c1 < d → c2 < d → IntsAre us ms → ms.length ≤ 1000000 → Q (.ref d) { s with heap := h', toks := tk' }) :
    wpAny (lawM w) (ktrTop dp un gd cn cs L a ccd cl outer) (call (.ref (nat_lit 115)) [.ref l]) Q E s := by
  (k_with "pyIter ref" => (k_of "one" => k_state (fun pre deck => deck.length ≤ 9 * pre.length) "deck"))
  (k_with "pyIter ref" => (k_of "hop" => k_state_given ["deck!"] (fun d0 pre left deck => deck.length ≤ d0.length + pre.length) "left" "deck"))
  w_top off
  refine wpAny_call ?_
  k_dflt cell_enter
  k_steps
  all_goals (try k_data)
  all_goals (refine hret _ _ _ _ _ _ (by assumption) (news_5 (by assumption)) ?_ ?_ (by assumption) ?_ <;> first | omega | exact ltN (by omega))
end Mine

namespace Mine
open PySem.Calls PySem.Spec
open Sem (wp)

theorem wp_app {M : Model} {Γ} {env : Env} {l2 : List Stmt} {E} : ∀ (l1 : List Stmt) {Q p s},
    wp M Γ (execs (l1 ++ l2) env) Q E p s = wp M Γ (execs l1 env) (fun f p' s' => match f with | .next => wp M Γ (execs l2 env) Q E p' s' | f => Q f p' s') E p s
  | [], _, _, _ => rfl
  | st :: l1, Q, p, s => by
    rw [List.cons_append, execs_cons, Sem.wp_bind', execs_cons, Sem.wp_bind']
    congr 1
    funext f p' s'
    cases f <;> first | exact wp_app l1 | rfl
/-- the end of a segment -/
def SegEnd (Mid : Shared → Prop) (f : Flow) (s : Shared) : Prop := f = .next ∧ Mid s
theorem SegEnd.of {Mid : Shared → Prop} {s : Shared} (h : Mid s) : SegEnd Mid .next s := ⟨rfl, h⟩
theorem execs_cut {M : Model} {A : Around} {E : Value → Shared → Prop} {env : Env} {Q : Flow → Shared → Prop} {s : Shared} {l : List Stmt} {Mid : Shared → Prop} (k : Nat)
    (h1 : wpAny M A (execs (l.take k) env) (SegEnd Mid) E s) (h2 : ∀ s', Mid s' → wpAny M A (execs (l.drop k) env) Q E s') : wpAny M A (execs l env) Q E s := by
  intro Γ p hΓ
  rw [← List.take_append_drop k l, wp_app]
  refine Sem.wp_mono M Γ _ (fun f p' s' q => ?_) (fun _ _ _ e => e) _ _ (h1 Γ p hΓ)
  obtain ⟨rfl, q⟩ := q
  exact h2 s' q Γ p' hΓ
theorem fr_name {h₀ h : Heap} {L : Addr} {m : Str → Option Value} {x : Str} {v : Value} (F : Fr h₀ L h m) (e : m x = some v) : Fr h₀ L h (fun y => if y = x then some v else m y) := by
  have em : (fun y => if y = x then some v else m y) = m := by
    funext y
    by_cases hy : y = x
    · rw [if_pos hy, hy, e]
    · rw [if_neg hy]
  rw [em]; exact F
/-- what stands behind the widths: the deck, and the two cells -/
def MidA (h₀ : Heap) (L c1 : Addr) (o1 : Obj) (c2 : Addr) (o2 : Obj) (s s' : Shared) : Prop :=
  ∃ (h' : Heap) (tk : Nat) (u : Str → Option Value) (d : Addr) (nn : Nat) (vs : List Value) (ns : List Int), s' = { s with heap := h', toks := tk } ∧ Fr h₀ L h' (fun y => if y = Str.ofString "deck" then some (.ref d) else u y) ∧
    News h₀ L h' [(d, listOf vs.toArray nn), (c1, o1), (c2, o2)] ∧ c1 < d ∧ c2 < d ∧ IntsAre vs ns ∧ ns.length ≤ 1000000
theorem MidA.intro {h₀ h' : Heap} {L c1 c2 d : Addr} {o1 o2 : Obj} {s : Shared} {tk : Nat} {m : Str → Option Value} {nn : Nat} {vs : List Value} {ns : List Int} {news : List (Addr × Obj)}
    (F : Fr h₀ L h' m) (e : m (Str.ofString "deck") = some (.ref d)) (N : News h₀ L h' news) (hs : ∀ p ∈ [(d, listOf vs.toArray nn), (c1, o1), (c2, o2)], p ∈ news) (l1 : c1 < d) (l2 : c2 < d) (hi : IntsAre vs ns) (hl : ns.length ≤ 1000000) :
    MidA h₀ L c1 o1 c2 o2 s { s with heap := h', toks := tk } := ⟨h', tk, m, d, nn, vs, ns, rfl, fr_name F e, fun p hp => N p (hs p hp), l1, l2, hi, hl⟩
theorem segA {M : Model} {A : Around} {E : Value → Shared → Prop} {env : Env} {Q : Flow → Shared → Prop} {s : Shared} {l : List Stmt} {h₀ : Heap} {L c1 c2 : Addr} {o1 o2 : Obj} {m : Str → Option Value} (k : Nat)
    (_F : Fr h₀ L s.heap m) (_N : News h₀ L s.heap [(c1, o1), (c2, o2)])
    (h1 : wpAny M A (execs (l.take k) env) (SegEnd (MidA h₀ L c1 o1 c2 o2 s)) E s)
    (h2 : ∀ (h' : Heap) (tk : Nat) (u : Str → Option Value) (d : Addr) (nn : Nat) (vs : List Value) (ns : List Int), Fr h₀ L h' (fun y => if y = Str.ofString "deck" then some (.ref d) else u y) →
      News h₀ L h' [(d, listOf vs.toArray nn), (c1, o1), (c2, o2)] → c1 < d → c2 < d → IntsAre vs ns → ns.length ≤ 1000000 → wpAny M A (execs (l.drop k) env) Q E { s with heap := h', toks := tk }) :
    wpAny M A (execs l env) Q E s := by
  refine execs_cut k h1 ?_
  rintro s' ⟨h', tk, u, d, nn, vs, ns, rfl, F', N', l1, l2, hi, hl⟩
  exact h2 h' tk u d nn vs ns F' N' l1 l2 hi hl
end Mine

namespace Mine
open PySem.Calls PySem.Spec

/-- what an item of the law's list is -/
def It (d : Dat) : Prop := ∃ i x, (x = Str.ofString "a" ∨ x = Str.ofString "b" ∨ x = Str.ofString "c") ∧
  (d = .tuple [.str (Str.ofString "var"), .int i, .str (Str.ofString "reg"), .bool false, .none, .str x, .tuple [], .none] ∨
   d = .tuple [.str (Str.ofString "port"), .int i, .str (Str.ofString "input"), .bool false, .none, .str x] ∨
   d = .tuple [.str (Str.ofString "net"), .int i, .str (Str.ofString "wire"), .bool false, .none, .none, .str x, .tuple [], .none, .none] ∨
   d = .tuple [.str (Str.ofString "param"), .int i, .str (Str.ofString "parameter"), .bool false, .none, .str x, .none] ∨
   d = .tuple [.str (Str.ofString "event"), .int i, .str x])

/-- away from the four objects that a turn changes or reads -/
def Apart (d li c1 c2 : Addr) (tl : List (Addr × Obj)) : Prop := ∀ p ∈ tl, p.1 ≠ d ∧ p.1 ≠ li ∧ p.1 ≠ c1 ∧ p.1 ≠ c2
def Items (d li c1 c2 : Addr) (o1 : Obj) (i : Nat) (m : Str → Option Value) (nx : List (Addr × Obj)) : Prop :=
  ∃ nn vs ns ln lvs xs o2 v0 tl, m (Str.ofString "deck") = some (.ref d) ∧ m (Str.ofString "items") = some (.ref li) ∧ nx = (d, listOf vs.toArray nn) :: (li, listOf lvs.toArray ln) :: (c1, o1) :: (c2, o2) :: tl ∧ o2.data = .cell v0 ∧
    Apart d li c1 c2 tl ∧ IntsAre vs ns ∧ ns.length ≤ 1000000 ∧ DatAll tl lvs xs ∧ (∀ x ∈ xs, It x) ∧ xs.length = i
/-- the end of a turn: one item more -/
def TurnEnd (h₀ : Heap) (L d li c1 c2 : Addr) (o1 : Obj) (lvs : List Value) (tl own : List (Addr × Obj)) (s₁ : Shared) (f : Flow) (s₂ : Shared) : Prop :=
  f = .next ∧ ∃ h' tk m' nn vs ns ln v x o2 v0 add, s₂ = { s₁ with heap := h', toks := tk } ∧ Fr h₀ L h' m' ∧ m' (Str.ofString "deck") = some (.ref d) ∧ m' (Str.ofString "items") = some (.ref li) ∧
    News h₀ L h' ((d, listOf vs.toArray nn) :: (li, listOf (lvs ++ [v]).toArray ln) :: (c1, o1) :: (c2, o2) :: (add ++ (tl ++ own))) ∧ o2.data = .cell v0 ∧ Apart d li c1 c2 add ∧ (∀ q ∈ add, AllLt q.1 (tl ++ own)) ∧
    IntsAre vs ns ∧ ns.length ≤ 1000000 ∧ DatIn (add ++ tl) v x ∧ It x

section
variable {prog : Program} {w : World} {A : Around} {E : Value → Shared → Prop} {s : Shared} {h₀ : Heap}
theorem loop_items {env : Env} {x : Str} {body : List Stmt} {Q : Flow → Shared → Prop} {r : Addr} {b₀ : Int} {t₀ u₀ v₀ : Tok} {m₀ : Str → Option Value} {d li c1 c2 : Addr} {o1 o2 : Obj} {nn ln : Nat} {vs : List Value} {ns : List Int} {v0 : Option Value}
    (hh : A.handled = none) (hr : IsRange s.heap r 0 b₀ 1 t₀ u₀ v₀) (hb0 : 0 ≤ b₀) (hb9 : b₀ < 9) (F : Fr h₀ env.locals s.heap m₀) (N : News h₀ env.locals s.heap [(li, listOf ([] : List Value).toArray ln), (d, listOf vs.toArray nn), (c1, o1), (c2, o2)])
    (hm1 : m₀ (Str.ofString "deck") = some (.ref d)) (hm2 : m₀ (Str.ofString "items") = some (.ref li)) (ho2 : o2.data = .cell v0) (hi : IntsAre vs ns) (hl : ns.length ≤ 1000000)
    (hxd : x ≠ Str.ofString "deck") (hxi : x ≠ Str.ofString "items")
    (turn : ∀ nn vs ns ln lvs xs o2 v0 tl own (m₁ : Str → Option Value) k t h tk, o2.data = .cell v0 → (∀ p ∈ tl ++ own, p.1 ≠ d) → (∀ p ∈ tl ++ own, p.1 ≠ li) → (∀ p ∈ tl ++ own, p.1 ≠ c2) → IntsAre vs ns → ns.length ≤ 1000000 → lvs.length < 9 → DatAll tl lvs xs →
      Fr h₀ env.locals h (fun y => if y = Str.ofString "deck" then some (.ref d) else if y = Str.ofString "items" then some (.ref li) else if y = x then some (.int k t) else m₁ y) →
      News h₀ env.locals h ((d, listOf vs.toArray nn) :: (li, listOf lvs.toArray ln) :: (c1, o1) :: (c2, o2) :: (tl ++ own)) →
      wpAny (model prog w) A (execs body env) (TurnEnd h₀ env.locals d li c1 c2 o1 lvs tl own { s with heap := h, toks := tk }) E { s with heap := h, toks := tk })
    (done : ∀ nn vs ns ln lvs xs o2 v0 tl (m₁ : Str → Option Value) h tk, o2.data = .cell v0 → Apart d li c1 c2 tl → IntsAre vs ns → ns.length ≤ 1000000 → lvs.length < 9 → DatAll tl lvs xs → (∀ x ∈ xs, It x) →
      Fr h₀ env.locals h (fun y => if y = Str.ofString "deck" then some (.ref d) else if y = Str.ofString "items" then some (.ref li) else m₁ y) →
      News h₀ env.locals h ((d, listOf vs.toArray nn) :: (li, listOf lvs.toArray ln) :: (c1, o1) :: (c2, o2) :: tl) → Q .next { s with heap := h, toks := tk }) :
    wpAny (model prog w) A (pyIter (.ref r)) (fun it s₂ => LoopAtV prog w A h₀ env x body Q E it s₂) E s := by
  obtain ⟨n, rfl⟩ : ∃ n : Nat, b₀ = (n : Int) := ⟨b₀.toNat, by omega⟩
  have hsz : Builtin.Range.rangeSize 0 (n : Int) 1 = (n : Int) := by
    unfold Builtin.Range.rangeSize
    simp
    omega
  refine wpAny_pyIter_range hr (small_one (by omega) (by omega) (by omega) (by omega)) ?_
  have W : Walks prog w A s.heap.objs.size [s.heap.objs.size] [s.heap.objs.size] n (fun i v => i < n ∧ ∃ t, v = .int (0 + i * 1) t)
      (fun i h => IsRangeIter h s.heap.objs.size (0 + (i : Nat) * 1) ((n : Int) - (i : Nat)) 1) := (Walks.range hh _ 0 1 n).bound
  refine kdr_loop (m₀ := m₀) (fun i m nx => Items d li c1 c2 o1 i m nx) W (fun _ h => h) (fun _ h => h) ?_ ?_ ?_ ?_ (by show IsRangeIter _ _ _ _ _; rw [hsz]; simpa using Heap.get?_push_size _ rfl) (F.push _)
    (news := [(d, listOf vs.toArray nn), (li, listOf ([] : List Value).toArray ln), (c1, o1), (c2, o2)]) (fun p hp => ?_) ⟨nn, vs, ns, ln, [], [], o2, v0, [], hm1, hm2, rfl, ho2, fun _ hp => (nomatch hp), hi, hl, .nil, fun _ hx => (nomatch hx), rfl⟩ ?_ ?_
  · intro i h hi b hb
    rw [List.mem_singleton.mp hb]
    exact ⟨_, hi⟩
  · intro hm
    exact absurd F.ns.lt ((List.mem_singleton.mp hm) ▸ Nat.lt_irrefl _)
  · intro b hb
    rw [List.mem_singleton.mp hb]
    exact next_is_new F
  · intro p hp hI
    have hp' : p ∈ [(li, listOf ([] : List Value).toArray ln), (d, listOf vs.toArray nn), (c1, o1), (c2, o2)] := by
      rcases List.mem_cons.mp hp with rfl | hp
      · exact .tail _ (.head _)
      · rcases List.mem_cons.mp hp with rfl | hp
        · exact .head _
        · exact .tail _ (.tail _ hp)
    exact absurd (Heap.lt_size (N p hp').1) ((List.mem_singleton.mp hI) ▸ Nat.lt_irrefl _)
  · have hp' : p ∈ [(li, listOf ([] : List Value).toArray ln), (d, listOf vs.toArray nn), (c1, o1), (c2, o2)] := by
      rcases List.mem_cons.mp hp with rfl | hp
      · exact .tail _ (.head _)
      · rcases List.mem_cons.mp hp with rfl | hp
        · exact .head _
        · exact .tail _ (.tail _ hp)
    exact ⟨Heap.get?_push_of_some _ (N p hp').1, (N p hp').2⟩
  · rintro i v m₁ nx h tk own hin ⟨_, t, rfl⟩ hoff ⟨nn, vs, ns, ln, lvs, xs, o2, v0, tl, e1, e2, rfl, ho2, hap, hi, hl, hD, hIt, hlen⟩ F₁ N₁
    have offd : ∀ {b : Addr}, b ∈ ((d, listOf vs.toArray nn) :: (li, listOf lvs.toArray ln) :: (c1, o1) :: (c2, o2) :: tl).map (·.1) → (∀ p ∈ tl, p.1 ≠ b) → ∀ p ∈ tl ++ own, p.1 ≠ b := fun {b} hb ht p hp => (List.mem_append.mp hp).elim (ht p) fun q => hoff p q b hb
    have F₂ := fr_name (fr_name F₁ (x := Str.ofString "items") (v := .ref li) (by rw [if_neg (Ne.symm hxi)]; exact e2)) (x := Str.ofString "deck") (v := .ref d) (by
      rw [if_neg (show ¬ Str.ofString "deck" = Str.ofString "items" by decide), if_neg (Ne.symm hxd)]; exact e1)
    have hll : lvs.length < 9 := by rw [hD.length, hlen]; omega
    refine wpAny_mono (turn nn vs ns ln lvs xs o2 v0 tl own m₁ _ t h tk ho2 (offd (by simp) fun p hp => (hap p hp).1) (offd (by simp) fun p hp => (hap p hp).2.1) (offd (by simp) fun p hp => (hap p hp).2.2.2) hi hl hll hD F₂ (by simpa using N₁)) (fun f s₂ q => ?_) fun _ _ e => e
    obtain ⟨rfl, h', tk', m', nn', vs', ns', ln', v, x', o2', v0', add, rfl, F', g1, g2, N', ho2', hapA, hlt, hi', hl', hv, hx⟩ := q
    refine ⟨h', tk', m', _, (d, listOf vs'.toArray nn') :: (li, listOf (lvs ++ [v]).toArray ln') :: (c1, o1) :: (c2, o2') :: (add ++ tl), rfl, F', N', fun p hp => ?_, fun p hp => ?_, fun p hp b hb => ?_, ?_⟩
    · simp only [List.mem_cons, List.mem_append] at hp ⊢
      rcases hp with h | h | h | h | h | h
      · exact .inl h
      · exact .inr (.inl h)
      · exact .inr (.inr (.inl h))
      · exact .inr (.inr (.inr (.inl h)))
      · exact .inr (.inr (.inr (.inr (.inl h))))
      · exact .inr (.inr (.inr (.inr (.inr (.inl h)))))
    · simp only [List.mem_cons, List.mem_append]
      exact .inr (.inr (.inr (.inr (.inr (.inr hp)))))
    · have old := hoff p hp b
      simp only [List.map_cons, List.map_append, List.mem_cons, List.mem_append] at hb old
      rcases hb with h | h | h | h | h | h
      · exact old (.inl h)
      · exact old (.inr (.inl h))
      · exact old (.inr (.inr (.inl h)))
      · exact old (.inr (.inr (.inr (.inl h))))
      · obtain ⟨q, hq, rfl⟩ := List.mem_map.mp h
        exact Nat.ne_of_lt (tb_ltOf (hlt q hq) p (List.mem_append.mpr (.inr hp)))
      · exact old (.inr (.inr (.inr (.inr h))))
    · refine ⟨nn', vs', ns', ln', lvs ++ [v], xs ++ [x'], o2', v0', add ++ tl, g1, g2, rfl, ho2', fun p hp => (List.mem_append.mp hp).elim (hapA p) (hap p), hi', hl', ?_, fun y hy => ?_, ?_⟩
      · exact DatAll.append (DatAll.mono (fun p hp => List.mem_append.mpr (.inr hp)) hD) (.one hv)
      · rcases List.mem_append.mp hy with hy | hy
        · exact hIt y hy
        · rw [List.mem_singleton.mp hy]; exact hx
      · rw [List.length_append, hlen]; rfl
  · rintro m₁ nx h tk ⟨nn, vs, ns, ln, lvs, xs, o2, v0, tl, e1, e2, rfl, ho2, hap, hi, hl, hD, hIt, hlen⟩ F₁ N₁
    exact done nn vs ns ln lvs xs o2 v0 tl m₁ h tk ho2 hap hi hl (by rw [hD.length, hlen]; omega) hD hIt (fr_name (fr_name F₁ e2) (by rw [if_neg (by decide)]; exact e1)) N₁

/-- an item of a written list at a place that is not written -/
theorem pick {value slice : PySem.Expr} {L l : Addr} {news : List (Addr × Obj)} {vs : List Value} {n : Nat} {k : Int} {u : Tok} {Q : Value → Shared → Prop} (_h3 : 3 ≤ vs.length) (N : News h₀ L s.heap news) (hm : (l, listOf vs.toArray n) ∈ news)
    (h0 : 0 ≤ k) (h1 : k < (vs.length : Int)) (hfit : k < 2 ^ 63) (h : ∀ v, v ∈ vs → Q v s)
    (hs : subscripted slice false (.ref l) (.int k u) = operate [.ref l, .int k u] (getItem (.ref l) (.int k u)) := by with_unfolding_all rfl) :
    wpAny (model prog w) A (subscriptTail value slice (.ref l) (.int k u)) Q E s := by
  have hl : s.heap.IsList l vs.toArray := ⟨_, (N _ hm).1, rfl, n, rfl⟩
  have hk : k.toNat < vs.length := by omega
  exact tail_any hl.typeIs slot_list_getitem.lookup (wpAny_getItem_list hl h0 hfit (by simp [List.getElem?_eq_getElem hk]) (h _ (List.getElem_mem hk))) hs
end

/-- what stands behind the items' loop -/
def MidB (h₀ : Heap) (L c1 : Addr) (o1 : Obj) (c2 d : Addr) (s s' : Shared) : Prop :=
  ∃ (h' : Heap) (tk : Nat) (u : Str → Option Value) (li : Addr) (nn : Nat) (vs : List Value) (ns : List Int) (ln : Nat) (lvs : List Value) (xs : List Dat) (o2 : Obj) (v0 : Option Value) (tl : List (Addr × Obj)), s' = { s with heap := h', toks := tk } ∧
    Fr h₀ L h' (fun y => if y = Str.ofString "deck" then some (.ref d) else if y = Str.ofString "items" then some (.ref li) else u y) ∧
    News h₀ L h' ((d, listOf vs.toArray nn) :: (li, listOf lvs.toArray ln) :: (c1, o1) :: (c2, o2) :: tl) ∧ o2.data = .cell v0 ∧ Apart d li c1 c2 tl ∧ @LT.lt Nat _ d li ∧ IntsAre vs ns ∧ ns.length ≤ 1000000 ∧ lvs.length < 9 ∧ DatAll tl lvs xs ∧ ∀ x ∈ xs, It x
theorem segB {M : Model} {A : Around} {E : Value → Shared → Prop} {env : Env} {Q : Flow → Shared → Prop} {s : Shared} {l : List Stmt} {h₀ : Heap} {L c1 c2 d : Addr} {o1 o2 : Obj} {m : Str → Option Value} {nn : Nat} {vs : List Value} (k : Nat)
    (_F : Fr h₀ L s.heap m) (_N : News h₀ L s.heap [(d, listOf vs.toArray nn), (c1, o1), (c2, o2)])
    (h1 : wpAny M A (execs (l.take k) env) (SegEnd (MidB h₀ L c1 o1 c2 d s)) E s)
    (h2 : ∀ (h' : Heap) (tk : Nat) (u : Str → Option Value) (li : Addr) (nn : Nat) (vs : List Value) (ns : List Int) (ln : Nat) (lvs : List Value) (xs : List Dat) (o2 : Obj) (v0 : Option Value) (tl : List (Addr × Obj)),
      Fr h₀ L h' (fun y => if y = Str.ofString "deck" then some (.ref d) else if y = Str.ofString "items" then some (.ref li) else u y) →
      News h₀ L h' ((d, listOf vs.toArray nn) :: (li, listOf lvs.toArray ln) :: (c1, o1) :: (c2, o2) :: tl) → o2.data = .cell v0 → Apart d li c1 c2 tl → @LT.lt Nat _ d li → IntsAre vs ns → ns.length ≤ 1000000 → lvs.length < 9 → DatAll tl lvs xs → (∀ x ∈ xs, It x) →
      wpAny M A (execs (l.drop k) env) Q E { s with heap := h', toks := tk }) :
    wpAny M A (execs l env) Q E s := by
  refine execs_cut k h1 ?_
  rintro s' ⟨h', tk, u, li, nn, vs, ns, ln, lvs, xs, o2, v0, tl, rfl, F', N', ho, ha, hlt, hi, hl, hll, hD, hIt⟩
  exact h2 h' tk u li nn vs ns ln lvs xs o2 v0 tl F' N' ho ha hlt hi hl hll hD hIt
end Mine

namespace Mine
open PySem.Calls PySem.Spec

@[reducible] def tupOf (vs : Array Value) : Obj := { cls := .type "tuple", data := .seq vs }

theorem name_dat {nv : Value} {t1 t2 t3 : Tok} (h : nv ∈ [Value.str (Str.ofString "a") t1, Value.str (Str.ofString "b") t2, Value.str (Str.ofString "c") t3]) :
    ∃ x t, nv = .str x t ∧ (x = Str.ofString "a" ∨ x = Str.ofString "b" ∨ x = Str.ofString "c") := by
  simp only [List.mem_cons, List.not_mem_nil, or_false] at h
  rcases h with rfl | rfl | rfl
  · exact ⟨_, _, rfl, .inl rfl⟩
  · exact ⟨_, _, rfl, .inr (.inl rfl)⟩
  · exact ⟨_, _, rfl, .inr (.inr rfl)⟩

theorem turn_end {h₀ : Heap} {L d li c1 c2 : Addr} {o1 o2 : Obj} {lvs : List Value} {tl own : List (Addr × Obj)} {s₁ : Shared} {h' : Heap} {tk : Nat} {m' : Str → Option Value} {nn ln n1 n2 : Nat} {vs : List Value} {ns : List Int} {nv v v0 : Value}
    {D1 E1 D2 D3 E3 D4 D5 la lb : Addr} {k : Int} {tt t1 t2 t3 a1 a2 a3 a4 a5 a6 a7 a8 a9 : Tok}
    (F : Fr h₀ L h' m') (N : News h₀ L h' ((la, listOf #[.ref D1, .ref D2, .ref D3, .ref D4, .ref D5] n1) ::
      (D5, tupOf #[.str (Str.ofString "event") a9, .int k tt, nv]) ::
      (D4, tupOf #[.str (Str.ofString "param") a7, .int k tt, .str (Str.ofString "parameter") a8, .bool false, .none, nv, .none]) ::
      (D3, tupOf #[.str (Str.ofString "net") a5, .int k tt, .str (Str.ofString "wire") a6, .bool false, .none, .none, nv, .ref E3, .none, .none]) ::
      (E3, tupOf #[]) ::
      (D2, tupOf #[.str (Str.ofString "port") a3, .int k tt, .str (Str.ofString "input") a4, .bool false, .none, nv]) ::
      (D1, tupOf #[.str (Str.ofString "var") a1, .int k tt, .str (Str.ofString "reg") a2, .bool false, .none, nv, .ref E1, .none]) ::
      (E1, tupOf #[]) ::
      (lb, listOf #[.str (Str.ofString "a") t1, .str (Str.ofString "b") t2, .str (Str.ofString "c") t3] n2) ::
      (d, listOf vs.toArray nn) :: (li, listOf (lvs.toArray.push v) ln) :: (c1, o1) :: (c2, o2) :: (tl ++ own)))
    (g1 : m' (Str.ofString "deck") = some (.ref d)) (g2 : m' (Str.ofString "items") = some (.ref li))
    (ho : o2.data = .cell (some v0)) (hi : IntsAre vs ns) (hl : ns.length ≤ 1000000)
    (hnv : nv ∈ [Value.str (Str.ofString "a") t1, Value.str (Str.ofString "b") t2, Value.str (Str.ofString "c") t3])
    (hv : v ∈ [Value.ref D1, Value.ref D2, Value.ref D3, Value.ref D4, Value.ref D5])
    (k1 : lb < E1 ∧ d < E1 ∧ li < E1 ∧ c1 < E1 ∧ c2 < E1 ∧ AllLt E1 (tl ++ own))
    (k2 : E1 < D1 ∧ lb < D1 ∧ d < D1 ∧ li < D1 ∧ c1 < D1 ∧ c2 < D1 ∧ AllLt D1 (tl ++ own))
    (k3 : D1 < D2 ∧ E1 < D2 ∧ lb < D2 ∧ d < D2 ∧ li < D2 ∧ c1 < D2 ∧ c2 < D2 ∧ AllLt D2 (tl ++ own))
    (k4 : D2 < E3 ∧ D1 < E3 ∧ E1 < E3 ∧ lb < E3 ∧ d < E3 ∧ li < E3 ∧ c1 < E3 ∧ c2 < E3 ∧ AllLt E3 (tl ++ own))
    (k5 : E3 < D3 ∧ D2 < D3 ∧ D1 < D3 ∧ E1 < D3 ∧ lb < D3 ∧ d < D3 ∧ li < D3 ∧ c1 < D3 ∧ c2 < D3 ∧ AllLt D3 (tl ++ own))
    (k6 : D3 < D4 ∧ E3 < D4 ∧ D2 < D4 ∧ D1 < D4 ∧ E1 < D4 ∧ lb < D4 ∧ d < D4 ∧ li < D4 ∧ c1 < D4 ∧ c2 < D4 ∧ AllLt D4 (tl ++ own))
    (k7 : D4 < D5 ∧ D3 < D5 ∧ E3 < D5 ∧ D2 < D5 ∧ D1 < D5 ∧ E1 < D5 ∧ lb < D5 ∧ d < D5 ∧ li < D5 ∧ c1 < D5 ∧ c2 < D5 ∧ AllLt D5 (tl ++ own)) :
    TurnEnd h₀ L d li c1 c2 o1 lvs tl own s₁ .next { s₁ with heap := h', toks := tk } := by
  obtain ⟨x, t, rfl, hx⟩ := name_dat hnv
  have j1 := k1.2
  have j2 := k2.2.2
  have j3 := k3.2.2.2
  have j4 := k4.2.2.2.2
  have j5 := k5.2.2.2.2.2
  have j6 := k6.2.2.2.2.2.2
  have j7 := k7.2.2.2.2.2.2.2
  let add : List (Addr × Obj) := [(D5, tupOf #[.str (Str.ofString "event") a9, .int k tt, .str x t]),
      (D4, tupOf #[.str (Str.ofString "param") a7, .int k tt, .str (Str.ofString "parameter") a8, .bool false, .none, .str x t, .none]),
      (D3, tupOf #[.str (Str.ofString "net") a5, .int k tt, .str (Str.ofString "wire") a6, .bool false, .none, .none, .str x t, .ref E3, .none, .none]),
      (E3, tupOf #[]),
      (D2, tupOf #[.str (Str.ofString "port") a3, .int k tt, .str (Str.ofString "input") a4, .bool false, .none, .str x t]),
      (D1, tupOf #[.str (Str.ofString "var") a1, .int k tt, .str (Str.ofString "reg") a2, .bool false, .none, .str x t, .ref E1, .none]),
      (E1, tupOf #[])]
  have all : ∀ q ∈ add, d < q.1 ∧ li < q.1 ∧ c1 < q.1 ∧ c2 < q.1 ∧ AllLt q.1 (tl ++ own) := by
    intro q hq
    simp only [add, List.mem_cons, List.not_mem_nil, or_false] at hq
    rcases hq with rfl | rfl | rfl | rfl | rfl | rfl | rfl
    · exact j7
    · exact j6
    · exact j5
    · exact j4
    · exact j3
    · exact j2
    · exact j1
  have g : ∀ q ∈ add, q ∈ add ++ tl := fun q hq => List.mem_append.mpr (.inl hq)
  have tup0 : DatIn (add ++ tl) (.ref E1) (.tuple []) := .tuple (n := 0) (vs := []) (g _ (by simp [add])) .nil
  have tup1 : DatIn (add ++ tl) (.ref E3) (.tuple []) := .tuple (n := 0) (vs := []) (g _ (by simp [add])) .nil
  have fin : ∀ y, DatIn (add ++ tl) v y → It y → TurnEnd h₀ L d li c1 c2 o1 lvs tl own s₁ .next { s₁ with heap := h', toks := tk } := by
    intro y hy hIt
    refine ⟨rfl, h', tk, m', nn, vs, ns, ln, v, y, o2, some v0, add, rfl, F, g1, g2, fun p hp => ?_, ho, fun p hp => ?_, fun q hq => (all q hq).2.2.2.2, hi, hl, hy, hIt⟩
    · have hpush : listOf (lvs.toArray.push v) ln = listOf (lvs ++ [v]).toArray ln := by rw [List.push_toArray]
      rw [hpush] at N
      refine N p ?_
      simp only [add, List.mem_cons, List.mem_append, List.not_mem_nil, or_false] at hp ⊢
      rcases hp with h | h | h | h | (h | h | h | h | h | h | h) | h
      · exact .inr (.inr (.inr (.inr (.inr (.inr (.inr (.inr (.inr (.inl h)))))))))
      · exact .inr (.inr (.inr (.inr (.inr (.inr (.inr (.inr (.inr (.inr (.inl h))))))))))
      · exact .inr (.inr (.inr (.inr (.inr (.inr (.inr (.inr (.inr (.inr (.inr (.inl h)))))))))))
      · exact .inr (.inr (.inr (.inr (.inr (.inr (.inr (.inr (.inr (.inr (.inr (.inr (.inl h))))))))))))
      · exact .inr (.inl h)
      · exact .inr (.inr (.inl h))
      · exact .inr (.inr (.inr (.inl h)))
      · exact .inr (.inr (.inr (.inr (.inl h))))
      · exact .inr (.inr (.inr (.inr (.inr (.inl h)))))
      · exact .inr (.inr (.inr (.inr (.inr (.inr (.inl h))))))
      · exact .inr (.inr (.inr (.inr (.inr (.inr (.inr (.inl h)))))))
      · exact .inr (.inr (.inr (.inr (.inr (.inr (.inr (.inr (.inr (.inr (.inr (.inr (.inr (h)))))))))))))
    · obtain ⟨b1, b2, b3, b4, _⟩ := all p hp
      exact ⟨Nat.ne_of_gt b1, Nat.ne_of_gt b2, Nat.ne_of_gt b3, Nat.ne_of_gt b4⟩
  simp only [List.mem_cons, List.not_mem_nil, or_false] at hv
  rcases hv with rfl | rfl | rfl | rfl | rfl
  · exact fin _ (.tuple (n := 0) (vs := [_, _, _, _, _, _, _, _]) (g _ (.tail _ (.tail _ (.tail _ (.tail _ (.tail _ (.head _))))))) (.cons (.str _ _) (.cons (.int _ _) (.cons (.str _ _) (.cons (.bool _) (.cons .none (.cons (.str _ _) (.cons tup0 (.cons .none .nil))))))))) ⟨k, x, hx, .inl rfl⟩
  · exact fin _ (.tuple (n := 0) (vs := [_, _, _, _, _, _]) (g _ (.tail _ (.tail _ (.tail _ (.tail _ (.head _)))))) (.cons (.str _ _) (.cons (.int _ _) (.cons (.str _ _) (.cons (.bool _) (.cons .none (.cons (.str _ _) .nil))))))) ⟨k, x, hx, .inr (.inl rfl)⟩
  · exact fin _ (.tuple (n := 0) (vs := [_, _, _, _, _, _, _, _, _, _]) (g _ (.tail _ (.tail _ (.head _)))) (.cons (.str _ _) (.cons (.int _ _) (.cons (.str _ _) (.cons (.bool _) (.cons .none (.cons .none (.cons (.str _ _) (.cons tup1 (.cons .none (.cons .none .nil))))))))))) ⟨k, x, hx, .inr (.inr (.inl rfl))⟩
  · exact fin _ (.tuple (n := 0) (vs := [_, _, _, _, _, _, _]) (g _ (.tail _ (.head _))) (.cons (.str _ _) (.cons (.int _ _) (.cons (.str _ _) (.cons (.bool _) (.cons .none (.cons (.str _ _) (.cons .none .nil)))))))) ⟨k, x, hx, .inr (.inr (.inr (.inl rfl)))⟩
  · exact fin _ (.tuple (n := 0) (vs := [_, _, _]) (g _ (.head _)) (.cons (.str _ _) (.cons (.int _ _) (.cons (.str _ _) .nil)))) ⟨k, x, hx, .inr (.inr (.inr (.inr rfl)))⟩

theorem MidB.intro {h₀ : Heap} {L c1 c2 d li : Addr} {o1 o2 : Obj} {s : Shared} {h' : Heap} {tk : Nat} {u : Str → Option Value} {nn ln : Nat} {vs : List Value} {ns : List Int} {lvs : List Value} {xs : List Dat} {v0 : Option Value} {tl : List (Addr × Obj)}
    (F : Fr h₀ L h' (fun y => if y = Str.ofString "deck" then some (.ref d) else if y = Str.ofString "items" then some (.ref li) else u y))
    (N : News h₀ L h' ((d, listOf vs.toArray nn) :: (li, listOf lvs.toArray ln) :: (c1, o1) :: (c2, o2) :: tl))
    (ho : o2.data = .cell v0) (ha : Apart d li c1 c2 tl) (hlt : @LT.lt Nat _ d li) (hi : IntsAre vs ns) (hl : ns.length ≤ 1000000) (hll : lvs.length < 9) (hD : DatAll tl lvs xs) (hIt : ∀ x ∈ xs, It x) :
    MidB h₀ L c1 o1 c2 d s { s with heap := h', toks := tk } :=
  ⟨h', tk, u, li, nn, vs, ns, ln, lvs, xs, o2, v0, tl, rfl, F, N, ho, ha, hlt, hi, hl, hll, hD, hIt⟩
end Mine

namespace Mine
open PySem.Calls PySem.Spec

def IsItem (news : List (Addr × Obj)) (v : Value) (k x : Str) : Prop := (x = Str.ofString "a" ∨ x = Str.ofString "b" ∨ x = Str.ofString "c") ∧
  ∃ (a : Addr) (vs : List Value) (n : Nat) (t : Tok), v = .ref a ∧ (a, ({ cls := .type "tuple", data := .seq vs.toArray n } : Obj)) ∈ news ∧ vs[0]? = some (.str k t) ∧
    ((k = Str.ofString "var" ∨ k = Str.ofString "port") → ∃ u, vs[5]? = some (.str x u))
theorem IsItem.mono {news news' : List (Addr × Obj)} (hs : ∀ p ∈ news, p ∈ news') {v k x} (h : IsItem news v k x) : IsItem news' v k x := by
  obtain ⟨hx, a, vs, n, t, e, hm, r⟩ := h
  exact ⟨hx, a, vs, n, t, e, hs _ hm, r⟩
theorem item_of {tl : List (Addr × Obj)} {v : Value} {d : Dat} (h : DatIn tl v d) (hit : It d) : ∃ k x, IsItem tl v k x := by
  obtain ⟨i, x, hx, e⟩ := hit
  rcases e with rfl | rfl | rfl | rfl | rfl
  · cases h with
    | tuple hm hall =>
      obtain _ | ⟨h0, hall⟩ := hall; obtain _ | ⟨h1, hall⟩ := hall; obtain _ | ⟨h2, hall⟩ := hall; obtain _ | ⟨h3, hall⟩ := hall; obtain _ | ⟨h4, hall⟩ := hall; obtain _ | ⟨h5, hall⟩ := hall
      cases h0; cases h5
      exact ⟨_, x, hx, _, _, _, _, rfl, hm, rfl, fun _ => ⟨_, rfl⟩⟩
  · cases h with
    | tuple hm hall =>
      obtain _ | ⟨h0, hall⟩ := hall; obtain _ | ⟨h1, hall⟩ := hall; obtain _ | ⟨h2, hall⟩ := hall; obtain _ | ⟨h3, hall⟩ := hall; obtain _ | ⟨h4, hall⟩ := hall; obtain _ | ⟨h5, hall⟩ := hall
      cases h0; cases h5
      exact ⟨_, x, hx, _, _, _, _, rfl, hm, rfl, fun _ => ⟨_, rfl⟩⟩
  · cases h with
    | tuple hm hall =>
      obtain _ | ⟨h0, hall⟩ := hall
      cases h0
      exact ⟨_, x, hx, _, _, _, _, rfl, hm, rfl, fun h => by rcases h with h | h <;> exact absurd h (by decide)⟩
  · cases h with
    | tuple hm hall =>
      obtain _ | ⟨h0, hall⟩ := hall
      cases h0
      exact ⟨_, x, hx, _, _, _, _, rfl, hm, rfl, fun h => by rcases h with h | h <;> exact absurd h (by decide)⟩
  · cases h with
    | tuple hm hall =>
      obtain _ | ⟨h0, hall⟩ := hall
      cases h0
      exact ⟨_, x, hx, _, _, _, _, rfl, hm, rfl, fun h => by rcases h with h | h <;> exact absurd h (by decide)⟩
theorem datall_mem {tl : List (Addr × Obj)} : ∀ {vs : List Value} {ds : List Dat}, DatAll tl vs ds → ∀ v ∈ vs, ∃ d ∈ ds, DatIn tl v d
  | _, _, .nil, _, h => nomatch h
  | _, _, .cons h r, v, hv => by
    rcases List.mem_cons.mp hv with rfl | hv
    · exact ⟨_, .head _, h⟩
    · obtain ⟨d, hd, x⟩ := datall_mem r v hv
      exact ⟨d, .tail _ hd, x⟩
open Classical in
theorem metas {tl : List (Addr × Obj)} {lvs : List Value} {xs : List Dat} (hD : DatAll tl lvs xs) (hIt : ∀ x ∈ xs, It x) : ∃ kd nm : Value → Str, ∀ v ∈ lvs, IsItem tl v (kd v) (nm v) := by
  have all : ∀ v, ∃ p : Str × Str, v ∈ lvs → IsItem tl v p.1 p.2 := fun v => by
    by_cases hv : v ∈ lvs
    · obtain ⟨d, hd, x⟩ := datall_mem hD v hv
      obtain ⟨k, y, hi⟩ := item_of x (hIt d hd)
      exact ⟨(k, y), fun _ => hi⟩
    · exact ⟨(Str.ofString "", Str.ofString ""), fun h => absurd h hv⟩
  exact ⟨fun v => (choose (all v)).1, fun v => (choose (all v)).2, fun v hv => choose_spec (all v) hv⟩

section
variable {prog : Program} {w : World} {A : Around} {E : Value → Shared → Prop} {s : Shared} {env : Env}
theorem at_item {x : Str} {px pk ps : Pos} {k : Int} {kd : Nat} {m : Str → Option Value} {a : Addr} {vs : List Value} {n : Nat} {y : Value} {Q : Value → Shared → Prop}
    (hk : env.scope.kind = .function) (hl : env.kindOf x = some .local) (hn : s.heap.Ns env.locals m) (hm : m x = some (.ref a)) (ho : s.heap.get? a = some { cls := .type "tuple", data := .seq vs.toArray n })
    (h0 : 0 ≤ k) (hf : k < 2 ^ 63) (hi : vs[k.toNat]? = some y) (h : Q y { s with toks := s.toks + 1 }) (hd : (x == ("__debug__" : Str)) = false := by decide)
    (ht : ∀ o r, letTemporaryGo (.Name x px) o r = pure () := by intro _ _; rfl) :
    wpAny (model prog w) A (eval (.Subscript (.Name x px) (.Constant (.int k) kd pk) ps) env) Q E s := by
  refine wpAny_Subscript_Constant_late (wpAny_Name (wpAny_loadName_local hk hl hn hm (wpAny_Constant_int ⟨"tuple", _, slot_tuple_getitem.lookup, ⟨_, ho, rfl⟩, ?_⟩)) hd) ht
  have hlt : k.toNat < vs.length := by
    rcases Nat.lt_or_ge k.toNat vs.length with h | h
    · exact h
    · rw [List.getElem?_eq_none h] at hi; cases hi
  refine PyProof.Rows.getItem_tuple (items := vs.toArray) (j := k.toNat) ⟨_, ho, rfl, n, rfl⟩ (by omega) hf (seqIndex_of h0 (by rw [List.size_toArray]; omega)) (by simpa using hi) h

theorem str_beq {x y : Str} : (x.cps.toList == y.cps.toList) = decide (x = y) := by
  by_cases h : x = y
  · subst h; simp
  · rw [decide_eq_false h]
    refine beq_eq_false_iff_ne.mpr fun hl => h ?_
    cases x; cases y
    simp only [Str.mk.injEq]
    exact Array.toList_inj.mp hl

theorem eq_const {l : Expr} {x c : Str} {t : Tok} {kd : Nat} {pc ps : Pos} {whole : Sem Value} {Q : Bool → Shared → Prop}
    (h : wpAny (model prog w) A (eval l env) (fun v s' => v = .str x t ∧ ∀ tk, Q (decide (x = c)) { s' with toks := tk }) E s) :
    wpAny (model prog w) A (isTrue (.Compare l [.Eq] [.Constant (.str c) kd pc] ps) env whole) Q E s := by
  refine wpAny_isTrue_Compare1 (wpAny_mono h (fun v s' h' => ?_) fun _ _ e => e)
  obtain ⟨rfl, h'⟩ := h'
  refine wpAny_Constant_str (PySem.P.eq_str (wpAny_truthy_bool ?_))
  rw [str_beq]
  exact h' _
end
end Mine

namespace Mine
open PySem.Calls PySem.Spec
local macro_rules | `(tactic| walk_at "no V 0") => `(tactic| fail)
local macro_rules | `(tactic| walk_at "no V 1") => `(tactic| fail)
local macro_rules | `(tactic| walk_at "no V 2") => `(tactic| fail)
theorem mods_held {mean mg mb} {h : Heap} (T : lawTop mean mg mb h) : ∃ o, h.get? sysModules = some o := by
  obtain ⟨_, hn, _⟩ := (T.seer (by decide +kernel)).mods
  obtain ⟨o, ho, _⟩ := LCg.ns_obj hn
  exact ⟨o, ho⟩
theorem not_modules {h h' : Heap} {D : Addr} (X : ∃ o, h.get? sysModules = some o) (keep : ∀ b o, h.get? b = some o → h'.get? b = some o) (hD : h'.get? D = none) : (D == sysModules) = false := by
  obtain ⟨o, ho⟩ := X
  refine beq_eq_false_iff_ne.mpr fun e => ?_
  have h1 : h'.get? sysModules = some o := keep _ _ ho
  rw [e, h1] at hD
  cases hD

section
variable {prog : Program} {w : World} {A : Around} {E : Value → Shared → Prop} {s : Shared} {env : Env} {h₀ : Heap} {m : Str → Option Value} {news : List (Addr × Obj)}
/-- {item[5]: item for item in items if item[0] == 'var'} -/
theorem vars_comp {scope : Scope} {cl : List (Str × Addr)} {pos p1 p2 p3 p4 p5 p6 p7 p8 p9 p10 p11 : Pos} {q1 q2 q3 : Nat} {Q : Value → Shared → Prop} {li : Addr} {lvs : List Value} {ln : Nat} {kd nm : Value → Str}
    (X : ∃ o, h₀.get? sysModules = some o) (F : Fr h₀ env.locals s.heap m) (N : News h₀ env.locals s.heap news) (hm : m (Str.ofString "items") = some (.ref li)) (hli : (li, listOf lvs.toArray ln) ∈ news) (hv : ∀ v ∈ lvs, IsItem news v (kd v) (nm v)) (hlen : lvs.length < 9)
    (hh : A.handled = none) (hek : env.scope.kind = .function) (hel : env.kindOf (Str.ofString "items") = some .local)
    (hclos : closureFor scope env = pure cl) (hcell : ∀ y ∈ scope.names, y.2 ≠ .cell) (hkind : scope.kind = .function)
    (hnames : ∀ y ∈ scope.names, y.2 = .local → scope.names.lookup y.1 = some .local) (hx : scope.names.lookup (Str.ofString "item") = some .local)
    (hs : ∀ x, foldedSetIterable (.Name (Str.ofString "items") p4) env x = pure x)
    (h : ∀ D o kvs h' tk, Fr h₀ env.locals h' m → News h₀ env.locals h' ((D, o) :: news) → (∀ p ∈ news, p.1 ≠ D) → (D == sysModules) = false → o.IsDictOf (strKind prog w) kvs →
      StoredAll (fun v k => k = nm v) (fun v y => y = v) (lvs.filter fun v => decide (kd v = Str.ofString "var")) kvs → Q (.ref D) { s with heap := h', toks := tk }) :
    wpAny (model prog w) A (eval (.DictComp (.Subscript (.Name (Str.ofString "item") p1) (.Constant (.int 5) q1 p2) p3) (.Name (Str.ofString "item") p5)
      [⟨.Name (Str.ofString "item") p6, .Name (Str.ofString "items") p4, [.Compare (.Subscript (.Name (Str.ofString "item") p7) (.Constant (.int 0) q2 p8) p9) [.Eq] [.Constant (.str (Str.ofString "var")) q3 p10] p11], 0⟩] scope pos) env) Q E s := by
  have hl : s.heap.IsList li lvs.toArray := ⟨_, (N _ hli).1, rfl, ln, rfl⟩
  have hlt : li < s.heap.objs.size := Heap.lt_size (N _ hli).1
  refine wpAny_DictComp_free (strKind prog w) (fun v => decide (kd v = Str.ofString "var")) (fun v k => k = nm v) (fun v y => y = v) hclos hcell hkind hnames hx (wpAny_Name (wpAny_loadName_local hek hel F.ns hm (wpAny_pyIter_list hl ?_))) hs
  have up : ∀ (s₃ : Shared), (∀ b o, b ∉ [s.heap.objs.size] → (s.heap.push { cls := .type "list_iterator", data := .fields #[.ref li, .int 0 0] }).get? b = some o → s₃.heap.get? b = some o) → ∀ b o, s.heap.get? b = some o → s₃.heap.get? b = some o :=
    fun s₃ hk b o e => hk b o (fun hm => Nat.lt_irrefl _ ((List.mem_singleton.mp hm) ▸ Heap.lt_size e)) (Heap.get?_push_of_some _ e)
  have mem : ∀ {i : Nat} {v : Value}, lvs.toArray[i]? = some v → v ∈ lvs := fun {i v} e => by simpa using Array.mem_of_getElem? e
  refine ⟨s.heap.objs.size, [s.heap.objs.size, li], [s.heap.objs.size], lvs.toArray.size, _, _, rfl, Walks.list hh _ _ (Nat.ne_of_lt hlt) lvs.toArray, by rw [List.size_toArray, sizeLine_eq]; omega, ⟨⟨_, Heap.get?_push_size _ rfl, rfl, rfl⟩, hl.push _⟩, fun b hb => ?_, ⟨?_, ?_, ?_⟩, ?_⟩
  · show b < (s.heap.push _).objs.size
    rw [Heap.size_push]
    rcases List.mem_cons.mp hb with rfl | hb
    · exact Nat.lt_succ_self _
    · rw [List.mem_singleton.mp hb]
      exact Nat.lt_succ_of_lt hlt
  · intro C i v s₃ m₃ E' hP hn hm₃ hk
    obtain ⟨_, a, vs, n, t, e, ha, h0, _⟩ := hv v (mem hP)
    subst e
    refine wpAny_tests_one (eq_const (at_item (m := m₃) (by simp [compEnvC, relabel, hkind]) (lookup_relabel_local hx) hn hm₃ (up s₃ hk _ _ (N _ ha).1) (by decide) (by decide) h0 ⟨rfl, fun tk => ⟨rfl, _, tk, rfl, fun _ _ e => e⟩⟩))
  · intro C i v s₃ m₃ E' hP hp hn hm₃ hk
    obtain ⟨_, a, vs, n, t, e, ha, h0, h5⟩ := hv v (mem hP)
    obtain ⟨u, h5⟩ := h5 (.inl (of_decide_eq_true hp))
    subst e
    exact at_item (m := m₃) (by simp [compEnvC, relabel, hkind]) (lookup_relabel_local hx) hn hm₃ (up s₃ hk _ _ (N _ ha).1) (by decide) (by decide) h5 ⟨⟨_, strKind_is _ _ _ _, rfl⟩, _, _, rfl, fun _ _ e => e⟩
  · intro C i v s₃ m₃ E' hP hp hn hm₃ hk
    exact wpAny_Name (wpAny_loadName_local (by simp [compEnvC, relabel, hkind]) (lookup_relabel_local hx) hn hm₃ ⟨rfl, _, _, rfl, fun _ _ e => e⟩)
  · intro D h' tk kvs vs' hD hlD hlen' hP hF hk
    have e : vs' = lvs := by simpa using list_of_places hlen' hP
    subst e
    have keep : ∀ b o, s.heap.get? b = some o → h'.get? b = some o := up { s with heap := h' } hk
    have hD' : s.heap.get? D = none := by
      cases e : s.heap.get? D with
      | none => rfl
      | some o' => rw [Heap.get?_push_of_some _ e] at hD; cases hD
    have hD0 : h₀.get? D = none := by
      cases e : h₀.get? D with
      | none => rfl
      | some o' => rw [F.keep _ _ e] at hD'; cases hD'
    obtain ⟨o, ho, hdo⟩ := Heap.dictOf_iff.mp hlD
    refine h D o kvs h' tk (F.keeps keep) (fun p hp => ?_) (fun p hp e => ?_) (not_modules X F.keep hD') hdo hF
    · rcases List.mem_cons.mp hp with rfl | hp
      · refine ⟨ho, fun e => ?_, hD0⟩
        obtain ⟨oL, heL, _⟩ := LCg.ns_obj F.ns
        have e' : D = env.locals := e
        rw [e', heL] at hD'; cases hD'
      · exact ⟨keep _ _ (N p hp).1, (N p hp).2⟩
    · have := (N p hp).1
      rw [e, hD'] at this; cases this
end
local macro_rules | `(tactic| walk_at "eval DictComp") => `(tactic| (k_here; (with_unfolding_all refine' vars_comp ?k1 ?k2 ?k3 ?k4 ?k5 ?k6 ?k7 ?k8 ?k9 ?kA ?kB ?kC ?kD ?kE ?kF ?kG ?_; (case k2 => k_asm); (case k3 => k_asm); (case k1 => (refine' mods_held ?kt; (case kt => k_asm))); (case k4 => exact rfl); (case k5 => k_mem); (case k6 => (intro v hv; exact IsItem.mono (fun p hp => List.mem_cons_of_mem _ (List.mem_cons_of_mem _ (List.mem_cons_of_mem _ (List.mem_cons_of_mem _ hp)))) (by solve_by_elim))); (case k7 => assumption); (case k8 => exact rfl); (case k9 => exact rfl); (case kA => exact rfl); (case kB => exact rfl); (case kC => decide); (case kD => exact rfl); (case kE => decide); (case kF => exact rfl); (case kG => (intro _; exact rfl))); intro D9 o9 kvs9 h9 tk9 F9 N9 a9 b9 d9 s9; walk_say "VARS"))
set_option maxHeartbeats 8000000 in
theorem vars {w : World} {mean mg mb} {dp un : Nat} {gd : Option (List Code)} {cn : Str} {cs : Scope} {a : Addr} {ccd : Value} {cl : List (Str × Addr)} {outer : List Env} {A₀ : Around} {base h₀ : Heap} {L : Addr} {m : Str → Option Value} {s : Shared} {d li c1 c2 : Addr} {o1 o2 : Obj}
    {nn ln : Nat} {vs lvs : List Value} {tl : List (Addr × Obj)} {Q E : Value → Shared → Prop} {kd nm : Value → Str}
    (B : Below A₀ base outer h₀) (F : Fr h₀ L s.heap m) (X : (hd.heap_39 w.params).In h₀) (N : News h₀ L s.heap ((d, listOf vs.toArray nn) :: (li, listOf lvs.toArray ln) :: (c1, o1) :: (c2, o2) :: tl)) (T : lawTop mean mg mb h₀) (hk : cs.kind = .function)
    (hlen : lvs.length < 9) (hv : ∀ v ∈ lvs, IsItem tl v (kd v) (nm v)) (hd : dp + 1 < recursionLimit) (hu : un + 200 < cLine)
    (hret : ∀ D o kvs h' tk', Fr h₀ L h' m → News h₀ L h' ((D, o) :: (d, listOf vs.toArray nn) :: (li, listOf lvs.toArray ln) :: (c1, o1) :: (c2, o2) :: tl) → (∀ p ∈ (d, listOf vs.toArray nn) :: (li, listOf lvs.toArray ln) :: (c1, o1) :: (c2, o2) :: tl, p.1 ≠ D) →
      (D == sysModules) = false → o.IsDictOf (strKind PySem.Challenge.rw_pq0444_01.row.prog w) kvs → StoredAll (fun v k => k = nm v) (fun v y => y = v) (lvs.filter fun v => decide (kd v = Str.ofString "var")) kvs → Q (.ref D) { s with heap := h', toks := tk' }) :
    wpAny (lawM w) (ktrTop dp un gd cn cs L a ccd cl outer) (call (.ref (nat_lit 73)) [.ref li]) Q E s := by
  w_top off
  refine wpAny_call ?_
  k_dflt cell_enter
  k_steps
  (rename Fr _ _ _ _ => F9); (rename News _ _ _ _ => N9)
  exact hret _ _ _ _ _ F9 N9 (by assumption) (by assumption) (by assumption) (by assumption)
end Mine

namespace Mine
open PySem.Calls PySem.Spec
local macro_rules | `(tactic| walk_at "no P 0") => `(tactic| fail)
local macro_rules | `(tactic| walk_at "no P 1") => `(tactic| fail)
local macro_rules | `(tactic| walk_at "no P 2") => `(tactic| fail)
local macro_rules | `(tactic| walk_at "no P 3") => `(tactic| fail)
section
variable {prog : Program} {w : World} {A : Around} {E : Value → Shared → Prop} {s : Shared} {env : Env}
/-- item[0] == K and item[5] == name -/
theorem test_and {x nx : Str} {p1 p2 p3 p4 p5 p6 p7 p8 p9 p10 p11 : Pos} {q1 q2 q3 : Nat} {m : Str → Option Value} {a : Addr} {vs : List Value} {n : Nat} {k K y z : Str} {t u : Tok} {whole : Sem Value} {Q : Bool → Shared → Prop}
    (hk : env.scope.kind = .function) (hl : env.kindOf x = some .local) (hn : s.heap.Ns env.locals m) (hm : m x = some (.ref a)) (ho : s.heap.get? a = some { cls := .type "tuple", data := .seq vs.toArray n })
    (h0 : vs[0]? = some (.str k t)) (h5 : k = K → ∃ t', vs[5]? = some (.str y t'))
    (hN : ∀ (s' : Shared) (R : Value → Shared → Prop), s'.heap = s.heap → R (.str z u) s' → wpAny (model prog w) A (eval (.Name nx p10) env) R E s')
    (h : ∀ tk, Q (decide (k = K) && decide (y = z)) { s with toks := tk }) (hd : (x == ("__debug__" : Str)) = false := by decide) :
    wpAny (model prog w) A (isTrue (.BoolOp .And [.Compare (.Subscript (.Name x p1) (.Constant (.int 0) q1 p2) p3) [.Eq] [.Constant (.str K) q2 p4] p5,
      .Compare (.Subscript (.Name x p6) (.Constant (.int 5) q3 p7) p8) [.Eq] [.Name nx p10] p9] p11) env whole) Q E s := by
  refine wpAny_isTrue_BoolOp (wpAny_allTrue_And_cons (eq_const (at_item hk hl hn hm ho (by decide) (by decide) h0 ⟨rfl, fun tk => ?_⟩ hd)))
  by_cases e : k = K
  · subst e
    obtain ⟨t', h5⟩ := h5 rfl
    rw [decide_eq_true rfl, if_pos rfl]
    refine wpAny_allTrue_And_cons (wpAny_isTrue_Compare1 (at_item hk hl hn hm ho (by decide) (by decide) h5 (hN _ _ rfl (PySem.P.eq_str (wpAny_truthy_bool ?_))) hd))
    rw [str_beq]
    have hh := h (tk + 1)
    by_cases e : y = z
    · subst e
      rw [decide_eq_true rfl, if_pos rfl]
      simpa using wpAny_allTrue_And_nil (by simpa using hh)
    · rw [decide_eq_false e, if_neg (by decide)]
      simpa [e] using hh
  · rw [decide_eq_false e, if_neg (by decide)]
    simpa [e] using h tk

variable {h₀ : Heap} {m : Str → Option Value} {news : List (Addr × Obj)}
theorem port_for {p1 p2 p3 p4 p5 p6 p7 p8 p9 p10 p11 p12 p13 p14 p15 p16 p17 : Pos} {q1 q2 q3 q4 : Nat} {Q : Flow → Shared → Prop} {li : Addr} {lvs : List Value} {ln : Nat} {kd nm : Value → Str} {z : Str} {u : Tok}
    (F : Fr h₀ env.locals s.heap m) (N : News h₀ env.locals s.heap news) (hm : m (Str.ofString "items") = some (.ref li)) (hmn : m (Str.ofString "name") = some (.str z u)) (hli : (li, listOf lvs.toArray ln) ∈ news) (hv : ∀ v ∈ lvs, IsItem news v (kd v) (nm v))
    (hh : A.handled = none) (hek : env.scope.kind = .function) (hel : env.kindOf (Str.ofString "items") = some .local) (hex : env.kindOf (Str.ofString "item") = some .local) (hen : env.kindOf (Str.ofString "name") = some .local)
    (hp : (env.scope.kind == .class || (env.scope.kind == .module && env.locals != env.globals)) = false)
    (hs : ∀ x, foldedSetIterable (.Name (Str.ofString "items") p12) env x = pure x) (hE : PassesOwn (model prog w) A env E)
    (hret : ∀ h' tk m', Fr h₀ env.locals h' m' → News h₀ env.locals h' news → (lvs.any fun v => decide (kd v = Str.ofString "port") && decide (nm v = z)) = true → Q (.ret (.bool true)) { s with heap := h', toks := tk })
    (hnext : ∀ h' tk m', Fr h₀ env.locals h' m' → News h₀ env.locals h' news → (lvs.any fun v => decide (kd v = Str.ofString "port") && decide (nm v = z)) = false → Q .next { s with heap := h', toks := tk }) :
    wpAny (model prog w) A (exec (.For (.Name (Str.ofString "item") p13) (.Name (Str.ofString "items") p12) [.If (.BoolOp .And [.Compare (.Subscript (.Name (Str.ofString "item") p1) (.Constant (.int 0) q1 p2) p3) [.Eq] [.Constant (.str (Str.ofString "port")) q2 p4] p5,
      .Compare (.Subscript (.Name (Str.ofString "item") p6) (.Constant (.int 5) q3 p7) p8) [.Eq] [.Name (Str.ofString "name") p10] p9] p11) [.Return (some (.Constant (.bool true) q4 p14)) p15] [] p16] [] p17) env) Q E s := by
  have hl : s.heap.IsList li lvs.toArray := ⟨_, (N _ hli).1, rfl, ln, rfl⟩
  have hlt : li < s.heap.objs.size := Heap.lt_size (N _ hli).1
  refine For_invVF F hex hp (wpAny_Name (wpAny_loadName_local hek hel F.ns hm (wpAny_pyIter_list hl ?_))) hs hE
  refine ⟨s.heap.objs.size, [s.heap.objs.size, li], [s.heap.objs.size], lvs.toArray.size, _, _, m, news,
    fun i m₁ nx => nx = news ∧ m₁ (Str.ofString "items") = some (.ref li) ∧ m₁ (Str.ofString "name") = some (.str z u) ∧ ∀ j v, j < i → lvs[j]? = some v → (decide (kd v = Str.ofString "port") && decide (nm v = z)) = false,
    rfl, Walks.list hh _ _ (Nat.ne_of_lt hlt) lvs.toArray, fun hb => ?_, fun b hb => ?_, fun p hp hb => ?_, ⟨⟨_, Heap.get?_push_size _ rfl, rfl, rfl⟩, hl.push _⟩, F.push _, fun p hp => ⟨Heap.get?_push_of_some _ (N p hp).1, (N p hp).2⟩, ⟨rfl, hm, hmn, fun j v hj => absurd hj (Nat.not_lt_zero _)⟩, ?_, ?_⟩
  · rcases List.mem_cons.mp hb with e | hb
    · exact absurd F.ns.lt (e ▸ Nat.lt_irrefl _)
    · exact (N _ hli).2.1 (List.mem_singleton.mp hb).symm
  · rw [List.mem_singleton.mp hb]
    exact next_is_new F
  · exact absurd (Heap.lt_size (N p hp).1) ((List.mem_singleton.mp hb) ▸ Nat.lt_irrefl _)
  · rintro i v m₁ nx s₁ own ⟨h, tk, rfl⟩ hin hP ⟨rfl, e1, e2, e3⟩ hoff hown hmem hall hst F₁ N₁
    have hvm : v ∈ lvs := by simpa using Array.mem_of_getElem? hP
    obtain ⟨_, a, vs, n, t, e, ha, h0, h5⟩ := hv v hvm
    refine wpAny_execs_cons (wpAny_If (test_and (y := nm v) hek hex F₁.ns (by rw [if_pos rfl, e]) (N₁ _ (List.mem_append.mpr (.inr ha))).1 h0 (fun e => h5 (.inr e)) (fun s' R hs' hR => wpAny_Name (wpAny_loadName_local hek hen (m := fun y => if y = Str.ofString "item" then some v else m₁ y) (by rw [hs']; exact F₁.ns) (by rw [if_neg (by decide)]; exact e2) hR)) fun tk' => ?_))
    cases hb : (decide (kd v = Str.ofString "port") && decide (nm v = z)) with
    | true =>
      rw [if_pos rfl]
      refine wpAny_execs_cons (wpAny_Return_some (wpAny_Constant_bool ?_))
      exact hret h tk' _ F₁ (fun p hp => N₁ p (List.mem_append.mpr (.inr hp))) (List.any_eq_true.mpr ⟨v, hvm, hb⟩)
    | false =>
      rw [if_neg (by decide)]
      refine wpAny_execs_nil (wpAny_execs_nil ?_)
      refine ⟨rfl, h, tk', _, nx, rfl, F₁, N₁, hoff, rfl, (if_neg (by decide)).trans e1, (if_neg (by decide)).trans e2, fun j v' hj hv' => ?_⟩
      rcases Nat.lt_or_ge j i with h | h
      · exact e3 j v' h hv'
      · have : j = i := by omega
        subst this
        have : some v' = some v := by rw [← hv']; simpa using hP
        injection this with this
        rw [this]; exact hb
  · rintro h tk m' nx F' N' hoff ⟨rfl, e1, e2, e3⟩
    refine hnext h tk m' F' N' ?_
    rw [List.any_eq_false]
    intro v hvm
    obtain ⟨j, hj, rfl⟩ := List.mem_iff_getElem.mp hvm
    have := e3 j lvs[j] (by simpa using hj) (by simp [hj])
    simpa using this
end

local macro_rules | `(tactic| walk_at "exec For Name Name cons nil") => `(tactic| (k_here; k_dflt (refine' port_for ?k1 ?k2 ?k3 ?k4 ?k5 ?k6 ?k7 ?k8 ?k9 ?kA ?kB ?kC ?kD ?kE ?kR ?kN; (case k1 => k_asm); (case k2 => k_asm); (case k3 => exact rfl); (case k4 => exact rfl); (case k5 => k_mem); (case k6 => (intro v hv; exact IsItem.mono (by assumption) (by solve_by_elim))); (case k7 => exact rfl); (case k8 => exact rfl); (case k9 => exact rfl); (case kA => exact rfl); (case kB => exact rfl); (case kC => exact rfl); (case kD => (intro _; exact rfl)); (case kE => passes_own)); (case' kR => intro h9 tk9 m9 F9 N9 e9); (case' kN => intro h9 tk9 m9 F9 N9 e9); walk_say "PORT"))
set_option maxHeartbeats 8000000 in
theorem port {w : World} {mean mg mb} {dp un : Nat} {gd : Option (List Code)} {cn : Str} {cs : Scope} {a : Addr} {ccd : Value} {cl : List (Str × Addr)} {outer : List Env} {A₀ : Around} {base h₀ : Heap} {L : Addr} {m : Str → Option Value} {s : Shared} {li : Addr}
    {ln : Nat} {lvs : List Value} {tl news : List (Addr × Obj)} {Q E : Value → Shared → Prop} {kd nm : Value → Str} {z : Str} {u : Tok}
    (B : Below A₀ base outer h₀) (F : Fr h₀ L s.heap m) (X : (hd.heap_39 w.params).In h₀) (N : News h₀ L s.heap news) (T : lawTop mean mg mb h₀) (hk : cs.kind = .function) (hli : (li, listOf lvs.toArray ln) ∈ news) (hsub : ∀ p ∈ tl, p ∈ news)
    (hlen : lvs.length < 9) (hv : ∀ v ∈ lvs, IsItem tl v (kd v) (nm v)) (hd : dp + 1 < recursionLimit) (hu : un + 200 < cLine)
    (hret : ∀ h' tk', Fr h₀ L h' m → News h₀ L h' news → Q (.bool (lvs.any fun v => decide (kd v = Str.ofString "port") && decide (nm v = z))) { s with heap := h', toks := tk' }) :
    wpAny (lawM w) (ktrTop dp un gd cn cs L a ccd cl outer) (call (.ref (nat_lit 80)) [.ref li, .str z u]) Q E s := by
  w_top off
  refine wpAny_call ?_
  k_dflt cell_enter
  k_steps
  all_goals (
    (rename Fr _ _ _ _ => F9); (rename News _ _ _ _ => N9); (rename (_ : Bool) = _ => e9)
    have hq := fun tk' => hret _ tk' F9 N9
    rw [e9] at hq
    exact hq _)
end Mine

namespace Mine
open PySem.Calls PySem.Spec
theorem paired_eq : ∀ {xs ys : List Value}, Paired (fun v y => y = v) xs ys → ys = xs
  | _, _, .nil => rfl
  | _, _, .cons h r => by rw [h, paired_eq r]
section
variable {prog : Program} {w : World} {A : Around} {E : Value → Shared → Prop} {s : Shared} {env : Env} {h₀ : Heap} {m : Str → Option Value} {news : List (Addr × Obj)}
theorem filter_quiet {scope : Scope} {cl : List (Str × Addr)} {p1 p2 p3 p4 p5 p6 p7 p8 p9 p10 p11 p12 : Pos} {q1 q2 q3 : Nat} {li c2 : Addr} {lvs : List Value} {kd nm : Value → Str} {K z : Str} {u : Tok} {o2 : Obj}
    (N : News h₀ env.locals s.heap news) (hv : ∀ v ∈ lvs, IsItem news v (kd v) (nm v)) (hK : K = Str.ofString "var" ∨ K = Str.ofString "port")
    (hc2 : (c2, o2) ∈ news) (ho2 : o2.data = .cell (some (.str z u))) (hcl : cl.lookup (Str.ofString "name") = some c2) (hck : ∀ C, (compEnvC scope cl C env).kindOf (Str.ofString "name") = some .cell)
    (hkind : scope.kind = .function) (hx : scope.names.lookup (Str.ofString "item") = some .local) :
    QuietOnC prog w A env scope cl (Str.ofString "item") [.BoolOp .And [.Compare (.Subscript (.Name (Str.ofString "item") p1) (.Constant (.int 0) q1 p2) p3) [.Eq] [.Constant (.str K) q2 p4] p5,
      .Compare (.Subscript (.Name (Str.ofString "item") p6) (.Constant (.int 5) q3 p7) p8) [.Eq] [.Name (Str.ofString "name") p10] p9] p11] (.Name (Str.ofString "item") p12) [s.heap.objs.size] (fun i v => lvs.toArray[i]? = some v)
      (fun v => decide (kd v = K) && decide (nm v = z)) (fun v y => y = v) { s with heap := s.heap.push { cls := .type "list_iterator", data := .fields #[.ref li, .int 0 0] } } := by
  have up : ∀ (s₃ : Shared), (∀ b o, b ∉ [s.heap.objs.size] → (s.heap.push { cls := .type "list_iterator", data := .fields #[.ref li, .int 0 0] }).get? b = some o → s₃.heap.get? b = some o) → ∀ b o, s.heap.get? b = some o → s₃.heap.get? b = some o :=
    fun s₃ hk b o e => hk b o (fun hm => Nat.lt_irrefl _ ((List.mem_singleton.mp hm) ▸ Heap.lt_size e)) (Heap.get?_push_of_some _ e)
  have mem : ∀ {i : Nat} {v : Value}, lvs.toArray[i]? = some v → v ∈ lvs := fun {i v} e => by simpa using Array.mem_of_getElem? e
  refine ⟨?_, ?_⟩
  · intro C i v s₃ m₃ E' _ hP hn hm₃ hk _
    obtain ⟨_, a, vs, n, t, e, ha, h0, h5⟩ := hv v (mem hP)
    subst e
    have hkk : (compEnvC scope cl C env).scope.kind = .function := by simp [compEnvC, relabel, hkind]
    refine wpAny_tests_one (test_and (u := u) hkk (lookup_relabel_local hx) hn hm₃ (up s₃ hk _ _ (N _ ha).1) h0 (fun e => h5 (e ▸ hK)) (fun s' R hs' hR => ?_) fun tk => ⟨rfl, _, tk, rfl, fun _ _ e => e⟩)
    refine wpAny_Name (wpAny_loadName_cell hkk (hck C) hcl ⟨o2, ?_, ho2⟩ hR)
    rw [hs']
    exact up s₃ hk _ _ (N _ hc2).1
  · intro C i v s₃ m₃ E' _ hP hp hn hm₃ hk _
    exact wpAny_Name (wpAny_loadName_local (by simp [compEnvC, relabel, hkind]) (lookup_relabel_local hx) hn hm₃ ⟨rfl, _, _, rfl, fun _ _ e => e⟩)

theorem none_of_push {h : Heap} {o : Obj} {D : Addr} (hD : (h.push o).get? D = none) : h.get? D = none := by
  cases e : h.get? D with
  | none => rfl
  | some o' => rw [Heap.get?_push_of_some _ e] at hD; cases hD

theorem filter_eval {scope : Scope} {cl : List (Str × Addr)} {pos p1 p2 p3 p4 p5 p6 p7 p8 p9 p10 p11 p12 p13 p14 : Pos} {q1 q2 q3 : Nat} {li c2 : Addr} {lvs : List Value} {ln : Nat} {kd nm : Value → Str} {K z : Str} {u : Tok} {o2 : Obj} {Q : Value → Shared → Prop}
    (F : Fr h₀ env.locals s.heap m) (N : News h₀ env.locals s.heap news) (hm : m (Str.ofString "items") = some (.ref li)) (hli : (li, listOf lvs.toArray ln) ∈ news) (hlen : lvs.length < 9) (hv : ∀ v ∈ lvs, IsItem news v (kd v) (nm v)) (hK : K = Str.ofString "var" ∨ K = Str.ofString "port")
    (hc2 : (c2, o2) ∈ news) (ho2 : o2.data = .cell (some (.str z u))) (hcl : cl.lookup (Str.ofString "name") = some c2) (hck : ∀ C, (compEnvC scope cl C env).kindOf (Str.ofString "name") = some .cell)
    (hh : A.handled = none) (hek : env.scope.kind = .function) (hel : env.kindOf (Str.ofString "items") = some .local)
    (hclos : closureFor scope env = pure cl) (hcell : ∀ y ∈ scope.names, y.2 ≠ .cell) (hkind : scope.kind = .function)
    (hnames : ∀ y ∈ scope.names, y.2 = .local → scope.names.lookup y.1 = some .local) (hx : scope.names.lookup (Str.ofString "item") = some .local)
    (hs : ∀ x, foldedSetIterable (.Name (Str.ofString "items") p13) env x = pure x)
    (h : ∀ D n h' tk, Fr h₀ env.locals h' m → News h₀ env.locals h' ((D, listOf (lvs.filter fun v => decide (kd v = K) && decide (nm v = z)).toArray n) :: news) → (∀ p ∈ news, p.1 ≠ D) → Q (.ref D) { s with heap := h', toks := tk }) :
    wpAny (model prog w) A (eval (.ListComp (.Name (Str.ofString "item") p12) [⟨.Name (Str.ofString "item") p14, .Name (Str.ofString "items") p13, [.BoolOp .And [.Compare (.Subscript (.Name (Str.ofString "item") p1) (.Constant (.int 0) q1 p2) p3) [.Eq] [.Constant (.str K) q2 p4] p5,
      .Compare (.Subscript (.Name (Str.ofString "item") p6) (.Constant (.int 5) q3 p7) p8) [.Eq] [.Name (Str.ofString "name") p10] p9] p11], 0⟩] scope pos) env) Q E s := by
  have hl : s.heap.IsList li lvs.toArray := ⟨_, (N _ hli).1, rfl, ln, rfl⟩
  have hlt : li < s.heap.objs.size := Heap.lt_size (N _ hli).1
  refine wpAny_ListComp_free (fun v => decide (kd v = K) && decide (nm v = z)) (fun v y => y = v) hclos hcell hkind hnames hx (wpAny_Name (wpAny_loadName_local hek hel F.ns hm (wpAny_pyIter_list hl ?_))) hs
  refine ⟨s.heap.objs.size, [s.heap.objs.size, li], [s.heap.objs.size], lvs.toArray.size, _, _, rfl, Walks.list hh _ _ (Nat.ne_of_lt hlt) lvs.toArray, by rw [List.size_toArray, sizeLine_eq]; omega, ⟨⟨_, Heap.get?_push_size _ rfl, rfl, rfl⟩, hl.push _⟩, fun b hb => ?_, filter_quiet N hv hK hc2 ho2 hcl hck hkind hx, ?_⟩
  · show b < (s.heap.push _).objs.size
    rw [Heap.size_push]
    rcases List.mem_cons.mp hb with rfl | hb
    · exact Nat.lt_succ_self _
    · rw [List.mem_singleton.mp hb]
      exact Nat.lt_succ_of_lt hlt
  · intro D h' tk ys vs' hD _ hpl hlen' hP hF hk
    have e : vs' = lvs := by simpa using list_of_places hlen' hP
    subst e
    have keep : ∀ b o, s.heap.get? b = some o → h'.get? b = some o := fun b o e => hk b o (fun hm => Nat.lt_irrefl _ ((List.mem_singleton.mp hm) ▸ Heap.lt_size e)) (Heap.get?_push_of_some _ e)
    have hD' : s.heap.get? D = none := none_of_push hD
    have hD0 : h₀.get? D = none := by
      cases e : h₀.get? D with
      | none => rfl
      | some o' => rw [F.keep _ _ e] at hD'; cases hD'
    obtain ⟨n, ho⟩ := hpl
    have hys : ys = (vs'.filter fun v => decide (kd v = K) && decide (nm v = z)).toArray := by rw [← paired_eq hF]
    subst hys
    refine h D n h' tk (F.keeps keep) (fun p hp => ?_) (fun p hp e => ?_)
    · rcases List.mem_cons.mp hp with rfl | hp
      · refine ⟨ho, fun e => ?_, hD0⟩
        obtain ⟨oL, heL, _⟩ := LCg.ns_obj F.ns
        have e' : D = env.locals := e
        rw [e', heL] at hD'; cases hD'
      · exact ⟨keep _ _ (N p hp).1, (N p hp).2⟩
    · have := (N p hp).1
      rw [e, hD'] at this; cases this

theorem filter_assign {scope : Scope} {cl : List (Str × Addr)} {pos spos p1 p2 p3 p4 p5 p6 p7 p8 p9 p10 p11 p12 p13 p14 p15 : Pos} {q1 q2 q3 : Nat} {li c2 : Addr} {lvs : List Value} {ln : Nat} {kd nm : Value → Str} {K z y : Str} {u : Tok} {o2 : Obj} {Q : Flow → Shared → Prop}
    (F : Fr h₀ env.locals s.heap m) (N : News h₀ env.locals s.heap news) (hm : m (Str.ofString "items") = some (.ref li)) (hli : (li, listOf lvs.toArray ln) ∈ news) (hlen : lvs.length < 9) (hv : ∀ v ∈ lvs, IsItem news v (kd v) (nm v)) (hK : K = Str.ofString "var" ∨ K = Str.ofString "port")
    (hc2 : (c2, o2) ∈ news) (ho2 : o2.data = .cell (some (.str z u))) (hcl : cl.lookup (Str.ofString "name") = some c2) (hck : ∀ C, (compEnvC scope cl C env).kindOf (Str.ofString "name") = some .cell)
    (hh : A.handled = none) (hek : env.scope.kind = .function) (hel : env.kindOf (Str.ofString "items") = some .local)
    (hclos : closureFor scope env = pure cl) (hcell : ∀ y ∈ scope.names, y.2 ≠ .cell) (hkind : scope.kind = .function)
    (hnames : ∀ y ∈ scope.names, y.2 = .local → scope.names.lookup y.1 = some .local) (hx : scope.names.lookup (Str.ofString "item") = some .local)
    (hs : ∀ x, foldedSetIterable (.Name (Str.ofString "items") p13) env x = pure x)
    (hy : env.kindOf y = some .local) (hp : (env.scope.kind == .class || (env.scope.kind == .module && env.locals != env.globals)) = false)
    (hsw : swapsWith (.ListComp (.Name (Str.ofString "item") p12) [⟨.Name (Str.ofString "item") p14, .Name (Str.ofString "items") p13, [.BoolOp .And [.Compare (.Subscript (.Name (Str.ofString "item") p1) (.Constant (.int 0) q1 p2) p3) [.Eq] [.Constant (.str K) q2 p4] p5,
      .Compare (.Subscript (.Name (Str.ofString "item") p6) (.Constant (.int 5) q3 p7) p8) [.Eq] [.Name (Str.ofString "name") p10] p9] p11], 0⟩] scope pos) (some (.Name y p15)) spos.line env = pure true)
    (h : ∀ D n h' tk, Fr h₀ env.locals h' (fun z => if z = y then some (.ref D) else m z) → News h₀ env.locals h' ((D, listOf (lvs.filter fun v => decide (kd v = K) && decide (nm v = z)).toArray n) :: news) → (∀ p ∈ news, p.1 ≠ D) → Q .next { s with heap := h', toks := tk }) :
    wpAny (model prog w) A (exec (.Assign [.Name y p15] (.ListComp (.Name (Str.ofString "item") p12) [⟨.Name (Str.ofString "item") p14, .Name (Str.ofString "items") p13, [.BoolOp .And [.Compare (.Subscript (.Name (Str.ofString "item") p1) (.Constant (.int 0) q1 p2) p3) [.Eq] [.Constant (.str K) q2 p4] p5,
      .Compare (.Subscript (.Name (Str.ofString "item") p6) (.Constant (.int 5) q3 p7) p8) [.Eq] [.Name (Str.ofString "name") p10] p9] p11], 0⟩] scope pos) spos) env) Q E s := by
  have hl : s.heap.IsList li lvs.toArray := ⟨_, (N _ hli).1, rfl, ln, rfl⟩
  have hlt : li < s.heap.objs.size := Heap.lt_size (N _ hli).1
  refine wpAny_Assign_ListComp_free (fun v => decide (kd v = K) && decide (nm v = z)) (fun v y => y = v) hsw hclos hcell hkind hnames hx hy hp (wpAny_Name (wpAny_loadName_local hek hel F.ns hm (wpAny_pyIter_list hl ?_))) hs
  refine ⟨s.heap.objs.size, [s.heap.objs.size, li], [s.heap.objs.size], lvs.toArray.size, _, _, m, rfl, Walks.list hh _ _ (Nat.ne_of_lt hlt) lvs.toArray, by rw [List.size_toArray, sizeLine_eq]; omega, ⟨⟨_, Heap.get?_push_size _ rfl, rfl, rfl⟩, hl.push _⟩, fun b hb => ?_, fun hb => ?_, (F.push _).ns, filter_quiet N hv hK hc2 ho2 hcl hck hkind hx, ?_⟩
  · show b < (s.heap.push _).objs.size
    rw [Heap.size_push]
    rcases List.mem_cons.mp hb with rfl | hb
    · exact Nat.lt_succ_self _
    · rw [List.mem_singleton.mp hb]
      exact Nat.lt_succ_of_lt hlt
  · exact absurd F.ns.lt ((List.mem_singleton.mp hb) ▸ Nat.lt_irrefl _)
  · intro D h' tk ys vs' hD _ hpl hlen' hP hF hns hk
    have e : vs' = lvs := by simpa using list_of_places hlen' hP
    subst e
    have keep : ∀ b o, b ≠ env.locals → s.heap.get? b = some o → h'.get? b = some o := fun b o hb e => hk b o hb (fun hm => Nat.lt_irrefl _ ((List.mem_singleton.mp hm) ▸ Heap.lt_size e)) (Heap.get?_push_of_some _ e)
    have hD' : s.heap.get? D = none := none_of_push hD
    have hD0 : h₀.get? D = none := by
      cases e : h₀.get? D with
      | none => rfl
      | some o' => rw [F.keep _ _ e] at hD'; cases hD'
    obtain ⟨n, ho⟩ := hpl
    have hys : ys = (vs'.filter fun v => decide (kd v = K) && decide (nm v = z)).toArray := by rw [← paired_eq hF]
    subst hys
    have hL0 : ∀ b o, h₀.get? b = some o → b ≠ env.locals := fun b o e eb => Nat.lt_irrefl _ (Nat.lt_of_lt_of_le (eb ▸ Heap.lt_size e) F.above)
    refine h D n h' tk ⟨hns, fun b o e => keep b o (hL0 b o e) (F.keep b o e), F.above⟩ (fun p hp => ?_) (fun p hp e => ?_)
    · rcases List.mem_cons.mp hp with rfl | hp
      · refine ⟨ho, fun e => ?_, hD0⟩
        obtain ⟨oL, heL, _⟩ := LCg.ns_obj F.ns
        have e' : D = env.locals := e
        rw [e', heL] at hD'; cases hD'
      · exact ⟨keep _ _ (N p hp).2.1 (N p hp).1, (N p hp).2⟩
    · have := (N p hp).1
      rw [e, hD'] at this; cases this
end
end Mine

namespace Mine
open PySem.Calls PySem.Spec

/-! the plain law of a table of last items -/
theorem val_stored (kvs : List (Str × Value)) (k x : Str) (v : Value) : valueAt (stored kvs k v) x = if x = k then some v else valueAt kvs x := by
  unfold stored
  by_cases h : (kvs.any fun kv => decide (kv.1 = k)) = true
  · rw [if_pos h]
    induction kvs with
    | nil => simp at h
    | cons p r ih =>
      simp only [List.map_cons, valueAt, List.find?_cons]
      by_cases e : p.1 = k
      · simp only [e, if_true]
        by_cases ex : k = x
        · subst ex; simp
        · simp only [ex, decide_false]
          by_cases hr : (r.any fun kv => decide (kv.1 = k)) = true
          · have := ih hr
            simp only [valueAt] at this
            rw [this]
          · have hm : r.map (fun kv => if kv.1 = k then (kv.1, v) else kv) = r := by
              conv => rhs; rw [← List.map_id r]
              refine List.map_congr_left fun q hq => ?_
              have : ¬ q.1 = k := fun e => hr (List.any_eq_true.mpr ⟨q, hq, by simpa using e⟩)
              rw [if_neg this]; rfl
            rw [hm, if_neg (fun e => ex e.symm)]
      · have hr : (r.any fun kv => decide (kv.1 = k)) = true := by simpa [e] using h
        simp only [if_neg e]
        by_cases ex : p.1 = x
        · simp only [ex, decide_true]
          rw [if_neg (fun e' => e (ex.trans e'))]
        · simp only [ex, decide_false]
          have := ih hr
          simpa only [valueAt] using this
  · rw [if_neg h]
    simp only [valueAt, List.find?_append]
    have hno : ∀ q ∈ kvs, ¬ q.1 = k := fun q hq e => h (List.any_eq_true.mpr ⟨q, hq, by simpa using e⟩)
    by_cases ex : x = k
    · subst ex
      have : kvs.find? (fun kv => decide (kv.1 = x)) = none := List.find?_eq_none.mpr fun q hq => by simpa using hno q hq
      simp [this]
    · rw [if_neg ex]
      have : ¬ k = x := fun e => ex e.symm
      simp [this]
theorem table_last {nm : Value → Str} {l : List Value} {kvs : List (Str × Value)} (h : StoredAll (fun v k => k = nm v) (fun v y => y = v) l kvs) (x : Str) : valueAt kvs x = (l.filter fun v => decide (nm v = x)).getLast? := by
  induction h with
  | nil => rfl
  | snoc _ hk hy ih =>
    subst hk hy
    rw [val_stored, List.filter_append]
    rename_i l kvs y _
    by_cases e : x = nm y
    · subst e; simp
    · have e' : ¬ nm y = x := fun h => e h.symm
      rw [if_neg e, ih]; simp [e']
def has (kvs : List (Str × Value)) (x : Str) : Nat := if (valueAt kvs x).isSome then 1 else 0
theorem len_stored (kvs : List (Str × Value)) (k : Str) (v : Value) : (stored kvs k v).length = if (valueAt kvs k).isSome then kvs.length else kvs.length + 1 := by
  rw [valueAt_isSome_eq_any]
  unfold stored
  split <;> rename_i h <;> simp [h]
theorem table_len {nm : Value → Str} {l : List Value} {kvs : List (Str × Value)} (h : StoredAll (fun v k => k = nm v) (fun v y => y = v) l kvs) :
    (∀ v ∈ l, nm v = Str.ofString "a" ∨ nm v = Str.ofString "b" ∨ nm v = Str.ofString "c") → kvs.length = has kvs (Str.ofString "a") + has kvs (Str.ofString "b") + has kvs (Str.ofString "c") := by
  induction h with
  | nil => intro _; rfl
  | snoc _ hk hy ih =>
    subst hk hy
    rename_i l kvs y _
    intro hn
    have ih' := ih fun v hv => hn v (List.mem_append.mpr (.inl hv))
    have hab : ¬ Str.ofString "a" = Str.ofString "b" := by decide
    have hac : ¬ Str.ofString "a" = Str.ofString "c" := by decide
    have hbc : ¬ Str.ofString "b" = Str.ofString "c" := by decide
    have hba : ¬ Str.ofString "b" = Str.ofString "a" := by decide
    have hca : ¬ Str.ofString "c" = Str.ofString "a" := by decide
    have hcb : ¬ Str.ofString "c" = Str.ofString "b" := by decide
    rw [len_stored]
    unfold has at ih' ⊢
    rcases hn y (List.mem_append.mpr (.inr (.head _))) with e | e | e <;> rw [e] <;> simp only [val_stored, hab, hac, hbc, hba, hca, hcb, if_true, if_false, Option.isSome_some] <;> split <;> simp_all <;> omega

theorem own_val {kd nm : Value → Str} {lvs : List Value} {kvs : List (Str × Value)} (h : StoredAll (fun v k => k = nm v) (fun v y => y = v) (lvs.filter fun v => decide (kd v = Str.ofString "var")) kvs) (x : Str) :
    valueAt kvs x = (lvs.filter fun v => decide (kd v = Str.ofString "var") && decide (nm v = x)).getLast? := by
  rw [table_last h, List.filter_filter]
  congr 1
  refine List.filter_congr fun v _ => Bool.and_comm _ _
/-- the two cases of a turn -/
theorem own_cases {P : Prop} {kd nm : Value → Str} {lvs : List Value} {kvs : List (Str × Value)} {x : Str} (h : StoredAll (fun v k => k = nm v) (fun v y => y = v) (lvs.filter fun v => decide (kd v = Str.ofString "var")) kvs)
    (a : (lvs.filter fun v => decide (kd v = Str.ofString "var") && decide (nm v = x)) = [] → (valueAt kvs x).isSome = false → P)
    (b : ∀ us v, (lvs.filter fun v => decide (kd v = Str.ofString "var") && decide (nm v = x)) = us ++ [v] → v ∈ lvs → (∀ u ∈ us ++ [v], u ∈ lvs) → valueAt kvs x = some v → (valueAt kvs x).isSome = true → P) : P := by
  have e := own_val h x
  rcases List.eq_nil_or_concat (lvs.filter fun v => decide (kd v = Str.ofString "var") && decide (nm v = x)) with q | ⟨us, v, q⟩
  · exact a q (by rw [e, q]; rfl)
  · have q' : (lvs.filter fun v => decide (kd v = Str.ofString "var") && decide (nm v = x)) = us ++ [v] := by simpa using q
    have ev : valueAt kvs x = some v := by rw [e, q']; simp
    have sub : ∀ u ∈ us ++ [v], u ∈ lvs := fun u hu => by rw [← q'] at hu; exact (List.mem_filter.mp hu).1
    exact b us v q' (sub v (by simp)) sub ev (by rw [ev]; rfl)
theorem port_cases {P : Prop} {lvs : List Value} {p : Value → Bool} (a : lvs.any p = false → lvs.filter p = [] → P) (b : lvs.any p = true → ∀ v us, lvs.filter p = v :: us → (∀ u ∈ v :: us, u ∈ lvs) → P) : P := by
  cases h : lvs.filter p with
  | nil =>
    refine a ?_ h
    rw [List.any_eq_false]
    intro v hv hp
    have : v ∈ lvs.filter p := List.mem_filter.mpr ⟨hv, hp⟩
    rw [h] at this; cases this
  | cons v us =>
    have sub : ∀ u ∈ v :: us, u ∈ lvs.filter p := fun u hu => by rw [h]; exact hu
    exact b (List.any_eq_true.mpr ⟨v, (List.mem_filter.mp (sub v (.head _))).1, (List.mem_filter.mp (sub v (.head _))).2⟩) v us h fun u hu => (List.mem_filter.mp (sub u hu)).1

/-! what an item reads as -/
def ItemR (h : Heap) (v : Value) : Prop := ∃ p as, Reads h v p as ∧ p.canLay0 = true ∧ p.depth ≤ 8
theorem tup0_reads {h₀ h : Heap} {L : Addr} {tl : List (Addr × Obj)} (N : News h₀ L h tl) {v : Value} (x : DatIn tl v (.tuple [])) : ∃ as, Reads h v (.tuple []) as := by
  cases x with
  | tuple hm r => cases r; exact ⟨_, .tuple (N _ hm).1 rfl rfl .nil⟩
theorem item_reads {h₀ h : Heap} {L : Addr} {tl : List (Addr × Obj)} (N : News h₀ L h tl) {v : Value} {d : Dat} (x : DatIn tl v d) (hit : It d) : ItemR h v := by
  obtain ⟨i, y, hy, e⟩ := hit
  rcases e with rfl | rfl | rfl | rfl | rfl
  · cases x with
    | tuple hm r =>
      obtain _ | ⟨h0, r⟩ := r; obtain _ | ⟨h1, r⟩ := r; obtain _ | ⟨h2, r⟩ := r; obtain _ | ⟨h3, r⟩ := r; obtain _ | ⟨h4, r⟩ := r; obtain _ | ⟨h5, r⟩ := r; obtain _ | ⟨h6, r⟩ := r; obtain _ | ⟨h7, r⟩ := r; cases r
      obtain ⟨as, h6⟩ := tup0_reads N h6
      cases h0; cases h1; cases h2; cases h3; cases h4; cases h5; cases h7
      exact ⟨_, _, .tuple (N _ hm).1 rfl rfl (.cons (.str _ _) (.cons (.int _ _) (.cons (.str _ _) (.cons (.bool _) (.cons .none (.cons (.str _ _) (.cons h6 (.cons .none .nil)))))))),
        by rcases hy with rfl | rfl | rfl <;> kernel_rfl, Nat.le_of_ble_eq_true (by kernel_rfl)⟩
  · cases x with
    | tuple hm r =>
      obtain _ | ⟨h0, r⟩ := r; obtain _ | ⟨h1, r⟩ := r; obtain _ | ⟨h2, r⟩ := r; obtain _ | ⟨h3, r⟩ := r; obtain _ | ⟨h4, r⟩ := r; obtain _ | ⟨h5, r⟩ := r; cases r
      cases h0; cases h1; cases h2; cases h3; cases h4; cases h5
      exact ⟨_, _, .tuple (N _ hm).1 rfl rfl (.cons (.str _ _) (.cons (.int _ _) (.cons (.str _ _) (.cons (.bool _) (.cons .none (.cons (.str _ _) .nil)))))),
        by rcases hy with rfl | rfl | rfl <;> kernel_rfl, Nat.le_of_ble_eq_true (by kernel_rfl)⟩
  · cases x with
    | tuple hm r =>
      obtain _ | ⟨h0, r⟩ := r; obtain _ | ⟨h1, r⟩ := r; obtain _ | ⟨h2, r⟩ := r; obtain _ | ⟨h3, r⟩ := r; obtain _ | ⟨h4, r⟩ := r; obtain _ | ⟨h5, r⟩ := r; obtain _ | ⟨h6, r⟩ := r; obtain _ | ⟨h7, r⟩ := r; obtain _ | ⟨h8, r⟩ := r; obtain _ | ⟨h9, r⟩ := r; cases r
      obtain ⟨as, h7⟩ := tup0_reads N h7
      cases h0; cases h1; cases h2; cases h3; cases h4; cases h5; cases h6; cases h8; cases h9
      exact ⟨_, _, .tuple (N _ hm).1 rfl rfl (.cons (.str _ _) (.cons (.int _ _) (.cons (.str _ _) (.cons (.bool _) (.cons .none (.cons .none (.cons (.str _ _) (.cons h7 (.cons .none (.cons .none .nil)))))))))),
        by rcases hy with rfl | rfl | rfl <;> kernel_rfl, Nat.le_of_ble_eq_true (by kernel_rfl)⟩
  · cases x with
    | tuple hm r =>
      obtain _ | ⟨h0, r⟩ := r; obtain _ | ⟨h1, r⟩ := r; obtain _ | ⟨h2, r⟩ := r; obtain _ | ⟨h3, r⟩ := r; obtain _ | ⟨h4, r⟩ := r; obtain _ | ⟨h5, r⟩ := r; obtain _ | ⟨h6, r⟩ := r; cases r
      cases h0; cases h1; cases h2; cases h3; cases h4; cases h5; cases h6
      exact ⟨_, _, .tuple (N _ hm).1 rfl rfl (.cons (.str _ _) (.cons (.int _ _) (.cons (.str _ _) (.cons (.bool _) (.cons .none (.cons (.str _ _) (.cons .none .nil))))))),
        by rcases hy with rfl | rfl | rfl <;> kernel_rfl, Nat.le_of_ble_eq_true (by kernel_rfl)⟩
  · cases x with
    | tuple hm r =>
      obtain _ | ⟨h0, r⟩ := r; obtain _ | ⟨h1, r⟩ := r; obtain _ | ⟨h2, r⟩ := r; cases r
      cases h0; cases h1; cases h2
      exact ⟨_, _, .tuple (N _ hm).1 rfl rfl (.cons (.str _ _) (.cons (.int _ _) (.cons (.str _ _) .nil))),
        by rcases hy with rfl | rfl | rfl <;> kernel_rfl, Nat.le_of_ble_eq_true (by kernel_rfl)⟩
theorem items_read {h₀ h : Heap} {L : Addr} {tl : List (Addr × Obj)} (N : News h₀ L h tl) {lvs : List Value} {xs : List Dat} (hD : DatAll tl lvs xs) (hIt : ∀ x ∈ xs, It x) : ∀ v ∈ lvs, ItemR h v := fun v hv => by
  obtain ⟨d, hd, x⟩ := datall_mem hD v hv
  exact item_reads N x (hIt d hd)
theorem list_reads {h : Heap} : ∀ {ws : List Value}, (∀ v ∈ ws, ItemR h v) → ∃ ps as, ReadsAll h ws ps as ∧ PyData.canLayAll0 ps = true ∧ PyData.depthAll ps ≤ 8 ∧ ps.length = ws.length
  | [], _ => ⟨[], [], .nil, rfl, Nat.zero_le _, rfl⟩
  | v :: ws, hw => by
    obtain ⟨p, as, r, c, d⟩ := hw v (.head _)
    obtain ⟨ps, bs, rs, cs, ds, l⟩ := list_reads fun u hu => hw u (.tail _ hu)
    exact ⟨p :: ps, _, .cons r rs, by simp [PyData.canLayAll0, c, cs], by simp only [PyData.depthAll]; omega, by simp [l]⟩
section
variable {prog : Program} {w : World} {A : Around} {E : Value → Shared → Prop} {s : Shared} {h₀ : Heap} {L : Addr} {news : List (Addr × Obj)} {Q : Value → Shared → Prop}
theorem ne_self {v : Value} (hr : ItemR s.heap v) (hu : A.units + 64 < cLine) (h : Q (.bool false) s) : wpAny (model prog w) A (compareOp .NotEq v v) Q E s := by
  obtain ⟨p, as, r, c, d⟩ := hr
  have sh : SeqAt.shaped p = true := Bool.and_eq_true_iff.mpr ⟨c, decide_eq_true (by omega)⟩
  exact ne_dataH r r sh sh hu (by rw [SeqAt.eqv_refl p c]; exact h)
theorem ne_empty {a b : Addr} {n k : Nat} {ws : List Value} (N : News h₀ L s.heap news) (ha : (a, listOf ws.toArray n) ∈ news) (hb : (b, listOf #[] k) ∈ news) (hr : ∀ v ∈ ws, ItemR s.heap v) (hu : A.units + 64 < cLine) (h : Q (.bool (!ws.isEmpty)) s) :
    wpAny (model prog w) A (compareOp .NotEq (.ref a) (.ref b)) Q E s := by
  obtain ⟨ps, as, rs, c, d, l⟩ := list_reads hr
  have r1 : Reads s.heap (.ref a) (.list ps) (a :: as) := .list (N _ ha).1 rfl rfl rs
  have r2 : Reads s.heap (.ref b) (.list []) [b] := .list (N _ hb).1 rfl rfl .nil
  have sh : SeqAt.shaped (.list ps) = true := Bool.and_eq_true_iff.mpr ⟨c, decide_eq_true (by simp only [PyData.depth]; omega)⟩
  refine ne_dataH r1 r2 sh rfl hu ?_
  have : PyData.eqv (.list ps) (.list []) = ws.isEmpty := by
    cases ws with
    | nil => cases ps with
      | nil => rfl
      | cons _ _ => simp at l
    | cons _ _ => cases ps with
      | nil => simp at l
      | cons _ _ => rfl
  rw [this]; exact h
theorem pick_last {value slice : PySem.Expr} {l : Addr} {us : List Value} {v : Value} {n : Nat} {k : Int} {u : Tok} (N : News h₀ L s.heap news) (hm : (l, listOf (us ++ [v]).toArray n) ∈ news) (hk : k = (us ++ [v]).length - 1) (hfit : (us ++ [v]).length < 1000) (h : Q v s)
    (hs : subscripted slice false (.ref l) (.int k u) = operate [.ref l, .int k u] (getItem (.ref l) (.int k u)) := by with_unfolding_all rfl) :
    wpAny (model prog w) A (subscriptTail value slice (.ref l) (.int k u)) Q E s := by
  have hl : s.heap.IsList l (us ++ [v]).toArray := ⟨_, (N _ hm).1, rfl, n, rfl⟩
  have e : k.toNat = us.length := by rw [hk]; simp
  exact tail_any hl.typeIs slot_list_getitem.lookup (wpAny_getItem_list hl (by rw [hk]; simp) (by omega) (by rw [e]; simp) h) hs
end
end Mine

namespace Mine
open PySem.Calls PySem.Spec

def TurnD (h₀ : Heap) (L d li T c1 c2 : Addr) (oT oD oI o1 : Obj) (tl own : List (Addr × Obj)) (s₁ : Shared) (f : Flow) (s₂ : Shared) : Prop :=
  f = .next ∧ ∃ h' tk m' o2 v0 all, s₂ = { s₁ with heap := h', toks := tk } ∧ Fr h₀ L h' m' ∧ m' (Str.ofString "deck") = some (.ref d) ∧ m' (Str.ofString "items") = some (.ref li) ∧ News h₀ L h' all ∧ o2.data = .cell v0 ∧
    (∀ p ∈ (T, oT) :: (d, oD) :: (li, oI) :: (c1, o1) :: (c2, o2) :: (tl ++ own), p ∈ all)
theorem TurnD.intro {h₀ : Heap} {L d li T c1 c2 : Addr} {oT oD oI o1 : Obj} {tl own : List (Addr × Obj)} {s₁ : Shared} {h' : Heap} {tk : Nat} {m' : Str → Option Value} {o2 : Obj} {v0 : Option Value} {all : List (Addr × Obj)}
    (F : Fr h₀ L h' m') (N : News h₀ L h' all) (g1 : m' (Str.ofString "deck") = some (.ref d)) (g2 : m' (Str.ofString "items") = some (.ref li)) (ho : o2.data = .cell v0)
    (hs : ∀ p ∈ (T, oT) :: (d, oD) :: (li, oI) :: (c1, o1) :: (c2, o2) :: (tl ++ own), p ∈ all) : TurnD h₀ L d li T c1 c2 oT oD oI o1 tl own s₁ .next { s₁ with heap := h', toks := tk } :=
  ⟨rfl, h', tk, m', o2, v0, all, rfl, F, g1, g2, N, ho, hs⟩
section
variable {prog : Program} {w : World} {A : Around} {E : Value → Shared → Prop} {s : Shared} {env : Env} {h₀ : Heap}
theorem names_loop {x : Str} {px : Pos} {body : List Stmt} {Q : Flow → Shared → Prop} {d li T c1 c2 Lst : Addr} {oT oD oI o1 o2 : Obj} {n0 : Nat} {tl : List (Addr × Obj)} {v0 : Option Value} {m₀ : Str → Option Value} {t1 t2 t3 t4 : Tok}
    (hh : A.handled = none) (F : Fr h₀ env.locals s.heap m₀)
    (N : News h₀ env.locals s.heap ((Lst, listOf #[.str (Str.ofString "a") t1, .str (Str.ofString "b") t2, .str (Str.ofString "c") t3, .str (Str.ofString "d") t4] n0) :: (T, oT) :: (d, oD) :: (li, oI) :: (c1, o1) :: (c2, o2) :: tl))
    (hm1 : m₀ (Str.ofString "deck") = some (.ref d)) (hm2 : m₀ (Str.ofString "items") = some (.ref li)) (ho2 : o2.data = .cell v0) (hap : ∀ p ∈ tl, p.1 ≠ c2) (hL2 : @Ne Nat Lst c2)
    (turn : ∀ z t own (m₁ : Str → Option Value) o2 v0 h tk, o2.data = .cell v0 → (∀ p ∈ tl ++ own, p.1 ≠ c2) →
      Fr h₀ env.locals h (fun y => if y = Str.ofString "deck" then some (.ref d) else if y = Str.ofString "items" then some (.ref li) else m₁ y) →
      News h₀ env.locals h ((T, oT) :: (d, oD) :: (li, oI) :: (c1, o1) :: (c2, o2) :: (tl ++ own)) →
      wpAny (model prog w) A (storeName env x (.str z t)) (fun _ s₃ => wpAny (model prog w) A (execs body env) (TurnD h₀ env.locals d li T c1 c2 oT oD oI o1 tl own { s with heap := h, toks := tk }) E s₃) E { s with heap := h, toks := tk })
    (done : ∀ (m₁ : Str → Option Value) o2 v0 h tk, o2.data = .cell v0 →
      Fr h₀ env.locals h (fun y => if y = Str.ofString "deck" then some (.ref d) else if y = Str.ofString "items" then some (.ref li) else m₁ y) →
      News h₀ env.locals h ((T, oT) :: (d, oD) :: (li, oI) :: (c1, o1) :: (c2, o2) :: tl) → Q .next { s with heap := h, toks := tk }) :
    wpAny (model prog w) A (pyIter (.ref Lst)) (fun it s₂ => TurnsAt prog w A h₀ env (.Name x px) body Q E it s₂) E s := by
  have hl : s.heap.IsList Lst #[.str (Str.ofString "a") t1, .str (Str.ofString "b") t2, .str (Str.ofString "c") t3, .str (Str.ofString "d") t4] := ⟨_, (N _ (.head _)).1, rfl, n0, rfl⟩
  have hlt : Lst < s.heap.objs.size := Heap.lt_size (N _ (.head _)).1
  refine wpAny_pyIter_list hl ?_
  refine ⟨s.heap.objs.size, [s.heap.objs.size, Lst], [s.heap.objs.size], 4, _, _, _, m₀, (T, oT) :: (d, oD) :: (li, oI) :: (c1, o1) :: (c2, o2) :: tl,
    fun _ m₁ nx => m₁ (Str.ofString "deck") = some (.ref d) ∧ m₁ (Str.ofString "items") = some (.ref li) ∧ ∃ o2 v0, nx = (T, oT) :: (d, oD) :: (li, oI) :: (c1, o1) :: (c2, o2) :: tl ∧ o2.data = .cell v0,
    rfl, KTurns.ofWalks (Walks.list hh _ _ (Nat.ne_of_lt hlt) #[.str (Str.ofString "a") t1, .str (Str.ofString "b") t2, .str (Str.ofString "c") t3, .str (Str.ofString "d") t4]) (fun _ _ _ _ _ st q => letGo_listiter st.1 q), fun hb => ?_, fun b hb => ?_, fun p hp hb => ?_,
    ⟨⟨_, Heap.get?_push_size _ rfl, rfl, rfl⟩, hl.push _⟩, F.push _, fun p hp => ⟨Heap.get?_push_of_some _ (N p (.tail _ hp)).1, (N p (.tail _ hp)).2⟩, ⟨hm1, hm2, o2, v0, rfl, ho2⟩, ?_, ?_⟩
  · rcases List.mem_cons.mp hb with e | hb
    · exact absurd F.ns.lt (e ▸ Nat.lt_irrefl _)
    · exact (N _ (.head _)).2.1 (List.mem_singleton.mp hb).symm
  · rw [List.mem_singleton.mp hb]
    exact next_is_new F
  · exact absurd (Heap.lt_size (N p (.tail _ hp)).1) ((List.mem_singleton.mp hb) ▸ Nat.lt_irrefl _)
  · rintro i v m₁ nx h tk own hin hP ⟨e1, e2, o2, v0, rfl, ho⟩ hoff hown hmem hall hst F₁ N₁
    have hv : ∃ z t, v = .str z t := by
      have hP' : ([Value.str (Str.ofString "a") t1, .str (Str.ofString "b") t2, .str (Str.ofString "c") t3, .str (Str.ofString "d") t4] : List Value)[i]? = some v := by simpa using hP
      have := List.mem_of_getElem? hP'
      simp only [List.mem_cons, List.not_mem_nil, or_false] at this
      rcases this with rfl | rfl | rfl | rfl <;> exact ⟨_, _, rfl⟩
    obtain ⟨z, t, rfl⟩ := hv
    have hc2 : ∀ p ∈ tl ++ own, p.1 ≠ c2 := fun p hp => (List.mem_append.mp hp).elim (hap p) fun hp e => by
      have := hown p hp
      rw [e] at this
      rcases List.mem_cons.mp this with h | h
      · exact hoff (c2, o2) (by simp) (by rw [show (c2, o2).1 = c2 from rfl, h]; exact .head _)
      · exact hL2 (List.mem_singleton.mp h).symm
    have F₂ := fr_name (fr_name F₁ (x := Str.ofString "items") (v := .ref li) e2) (x := Str.ofString "deck") (v := .ref d) (by
      rw [if_neg (show ¬ Str.ofString "deck" = Str.ofString "items" by decide)]; exact e1)
    have N₂ : News h₀ env.locals h ((T, oT) :: (d, oD) :: (li, oI) :: (c1, o1) :: (c2, o2) :: (tl ++ own)) := fun p hp => N₁ p (by
      simp only [List.mem_cons, List.mem_append] at hp ⊢
      rcases hp with h | h | h | h | h | h | h
      · exact .inr (.inl h)
      · exact .inr (.inr (.inl h))
      · exact .inr (.inr (.inr (.inl h)))
      · exact .inr (.inr (.inr (.inr (.inl h))))
      · exact .inr (.inr (.inr (.inr (.inr (.inl h)))))
      · exact .inr (.inr (.inr (.inr (.inr (.inr h)))))
      · exact .inl h)
    refine wpAny_assign_Name (wpAny_mono (turn z t own m₁ o2 v0 h tk ho hc2 F₂ N₂) (fun _ s₃ q => wpAny_mono q (fun f s₄ q => ?_) fun _ _ e => e) fun _ _ e => e)
    obtain ⟨rfl, h', tk', m', o2', v0', all, rfl, F', g1, g2, N', ho', hsub⟩ := q
    refine ⟨rfl, h', tk', m', (T, oT) :: (d, oD) :: (li, oI) :: (c1, o1) :: (c2, o2') :: tl, rfl, F', fun p hp => N' p (hsub p ?_), fun p hp => ?_, g1, g2, o2', v0', rfl, ho'⟩
    · simp only [List.mem_cons, List.mem_append] at hp ⊢
      rcases hp with h | h | h | h | h | h | h
      · exact .inr (.inr (.inr (.inr (.inr (.inr h)))))
      · exact .inl h
      · exact .inr (.inl h)
      · exact .inr (.inr (.inl h))
      · exact .inr (.inr (.inr (.inl h)))
      · exact .inr (.inr (.inr (.inr (.inl h))))
      · exact .inr (.inr (.inr (.inr (.inr (.inl h)))))
    · rcases List.mem_cons.mp hp with h | hp
      · exact hoff p (h ▸ .head _)
      rcases List.mem_cons.mp hp with h | hp
      · exact hoff p (h ▸ .tail _ (.head _))
      rcases List.mem_cons.mp hp with h | hp
      · exact hoff p (h ▸ .tail _ (.tail _ (.head _)))
      rcases List.mem_cons.mp hp with h | hp
      · exact hoff p (h ▸ .tail _ (.tail _ (.tail _ (.head _))))
      rcases List.mem_cons.mp hp with h | hp
      · rw [h]
        exact hoff (c2, o2) (.tail _ (.tail _ (.tail _ (.tail _ (.head _)))))
      · exact hoff p (.tail _ (.tail _ (.tail _ (.tail _ (.tail _ hp)))))
  · rintro h tk m₁ nx F' N' hoff ⟨e1, e2, o2, v0, rfl, ho⟩
    exact done m₁ o2 v0 h tk ho (fr_name (fr_name F' e2) (by rw [if_neg (by decide)]; exact e1)) N'

/-- what the last comprehension wants of its written list -/
def NamesAt (h₀ : Heap) (L : Addr) (kvs : List (Str × Value)) (T c1 : Addr) (oT o1 : Obj) (Q : Value → Shared → Prop) (xv : Value) (s₁ : Shared) : Prop :=
  ∃ Lst n t1 t2 t3 m news, xv = .ref Lst ∧ Fr h₀ L s₁.heap m ∧ News h₀ L s₁.heap news ∧ (Lst, listOf #[.str (Str.ofString "a") t1, .str (Str.ofString "b") t2, .str (Str.ofString "c") t3] n) ∈ news ∧ (T, oT) ∈ news ∧ (c1, o1) ∈ news ∧
    ∀ D n h' tk (ys : List Value), Fr h₀ L h' m → News h₀ L h' ((D, listOf ys.toArray n) :: news) → (∀ p ∈ news, p.1 ≠ D) → ys.length = has kvs (Str.ofString "a") + has kvs (Str.ofString "b") + has kvs (Str.ofString "c") → Q (.ref D) { s₁ with heap := h', toks := tk }
theorem NamesAt.intro {L : Addr} {kvs : List (Str × Value)} {T c1 Lst : Addr} {oT o1 : Obj} {Q : Value → Shared → Prop} {n : Nat} {t1 t2 t3 : Tok} {m : Str → Option Value} {news : List (Addr × Obj)}
    (F : Fr h₀ L s.heap m) (N : News h₀ L s.heap news) (h1 : (Lst, listOf #[.str (Str.ofString "a") t1, .str (Str.ofString "b") t2, .str (Str.ofString "c") t3] n) ∈ news) (h2 : (T, oT) ∈ news) (h3 : (c1, o1) ∈ news)
    (h : ∀ D n h' tk (ys : List Value), Fr h₀ L h' m → News h₀ L h' ((D, listOf ys.toArray n) :: news) → (∀ p ∈ news, p.1 ≠ D) → ys.length = has kvs (Str.ofString "a") + has kvs (Str.ofString "b") + has kvs (Str.ofString "c") → Q (.ref D) { s with heap := h', toks := tk }) :
    NamesAt h₀ L kvs T c1 oT o1 Q (.ref Lst) s := ⟨Lst, n, t1, t2, t3, m, news, rfl, F, N, h1, h2, h3, h⟩
theorem names_comp {scope : Scope} {cl : List (Str × Addr)} {pos p1 p2 p3 p4 p5 : Pos} {iter : Expr} {T c1 : Addr} {kvs : List (Str × Value)} {oT o1 : Obj} {Q : Value → Shared → Prop}
    (hd : oT.IsDictOf (strKind prog w) kvs) (lo : (T == sysModules) = false) (ho1 : o1.data = .cell (some (.ref T))) (hcl : cl.lookup (Str.ofString "table") = some c1) (hck : ∀ C, (compEnvC scope cl C env).kindOf (Str.ofString "table") = some .cell)
    (hh : A.handled = none) (hclos : closureFor scope env = pure cl) (hcell : ∀ y ∈ scope.names, y.2 ≠ .cell) (hkind : scope.kind = .function)
    (hnames : ∀ y ∈ scope.names, y.2 = .local → scope.names.lookup y.1 = some .local) (hx : scope.names.lookup (Str.ofString "name") = some .local)
    (hs : ∀ x, foldedSetIterable iter env x = pure x)
    (h : wpAny (model prog w) A (eval iter env) (fun xv s₁ => NamesAt h₀ env.locals kvs T c1 oT o1 Q xv s₁) E s) :
    wpAny (model prog w) A (eval (.ListComp (.Name (Str.ofString "name") p1) [⟨.Name (Str.ofString "name") p2, iter, [.Compare (.Name (Str.ofString "name") p3) [.In] [.Name (Str.ofString "table") p4] p5], 0⟩] scope pos) env) Q E s := by
  refine wpAny_ListComp_free (fun v => match v with | .str z _ => (valueAt kvs z).isSome | _ => false) (fun v y => y = v) hclos hcell hkind hnames hx (wpAny_mono h (fun xv s₁ q => ?_) fun _ _ e => e) hs
  obtain ⟨Lst, n, t1, t2, t3, m, news, rfl, F, N, h1, h2, h3, hQ⟩ := q
  have hl : s₁.heap.IsList Lst #[.str (Str.ofString "a") t1, .str (Str.ofString "b") t2, .str (Str.ofString "c") t3] := ⟨_, (N _ h1).1, rfl, n, rfl⟩
  have hlt : Lst < s₁.heap.objs.size := Heap.lt_size (N _ h1).1
  have up : ∀ (s₃ : Shared), (∀ b o, b ∉ [s₁.heap.objs.size] → (s₁.heap.push { cls := .type "list_iterator", data := .fields #[.ref Lst, .int 0 0] }).get? b = some o → s₃.heap.get? b = some o) → ∀ b o, s₁.heap.get? b = some o → s₃.heap.get? b = some o :=
    fun s₃ hk b o e => hk b o (fun hm => Nat.lt_irrefl _ ((List.mem_singleton.mp hm) ▸ Heap.lt_size e)) (Heap.get?_push_of_some _ e)
  refine wpAny_pyIter_list hl ⟨s₁.heap.objs.size, [s₁.heap.objs.size, Lst], [s₁.heap.objs.size], 3, _, _, rfl, Walks.list hh _ _ (Nat.ne_of_lt hlt) #[.str (Str.ofString "a") t1, .str (Str.ofString "b") t2, .str (Str.ofString "c") t3], by rw [sizeLine_eq]; omega, ⟨⟨_, Heap.get?_push_size _ rfl, rfl, rfl⟩, hl.push _⟩, fun b hb => ?_, ⟨?_, ?_⟩, ?_⟩
  · show b < (s₁.heap.push _).objs.size
    rw [Heap.size_push]
    rcases List.mem_cons.mp hb with rfl | hb
    · exact Nat.lt_succ_self _
    · rw [List.mem_singleton.mp hb]
      exact Nat.lt_succ_of_lt hlt
  · intro C i v s₃ m₃ E' _ hP hn hm₃ hk _
    have hv : ∃ z t, v = .str z t := by
      have hP' : ([Value.str (Str.ofString "a") t1, .str (Str.ofString "b") t2, .str (Str.ofString "c") t3] : List Value)[i]? = some v := by simpa using hP
      have := List.mem_of_getElem? hP'
      simp only [List.mem_cons, List.not_mem_nil, or_false] at this
      rcases this with rfl | rfl | rfl <;> exact ⟨_, _, rfl⟩
    obtain ⟨z, t, rfl⟩ := hv
    have hkk : (compEnvC scope cl C env).scope.kind = .function := by simp [compEnvC, relabel, hkind]
    refine wpAny_tests_one (wpAny_isTrue_Compare1 (wpAny_Name (wpAny_loadName_local hkk (lookup_relabel_local hx) hn hm₃ (wpAny_Name (wpAny_loadName_cell hkk (hck C) hcl ⟨o1, up s₃ hk _ _ (N _ h3).1, ho1⟩ ?_)))))
    exact wpAny_in_of (strKind_is _ _ _ _) lo (Heap.dictOf_iff.mpr ⟨oT, up s₃ hk _ _ (N _ h2).1, hd⟩).mapOf (wpAny_truthy_bool ⟨rfl, _, _, rfl, fun _ _ e => e⟩)
  · intro C i v s₃ m₃ E' _ hP hp hn hm₃ hk _
    exact wpAny_Name (wpAny_loadName_local (by simp [compEnvC, relabel, hkind]) (lookup_relabel_local hx) hn hm₃ ⟨rfl, _, _, rfl, fun _ _ e => e⟩)
  · intro D h' tk ys vs' hD _ hpl hlen' hP hF hk
    have e : vs' = [.str (Str.ofString "a") t1, .str (Str.ofString "b") t2, .str (Str.ofString "c") t3] := by simpa using list_of_places hlen' hP
    subst e
    have keep : ∀ b o, s₁.heap.get? b = some o → h'.get? b = some o := up { s₁ with heap := h' } hk
    have hD' : s₁.heap.get? D = none := none_of_push hD
    have hD0 : h₀.get? D = none := by
      cases e : h₀.get? D with
      | none => rfl
      | some o' => rw [F.keep _ _ e] at hD'; cases hD'
    obtain ⟨n', ho⟩ := hpl
    refine hQ D n' h' tk ys.toList (F.keeps keep) (fun p hp => ?_) (fun p hp e => ?_) ?_
    · rcases List.mem_cons.mp hp with rfl | hp
      · refine ⟨ho, fun e => ?_, hD0⟩
        obtain ⟨oL, heL, _⟩ := LCg.ns_obj F.ns
        have e' : D = env.locals := e
        rw [e', heL] at hD'; cases hD'
      · exact ⟨keep _ _ (N p hp).1, (N p hp).2⟩
    · have := (N p hp).1
      rw [e, hD'] at this; cases this
    · rw [paired_eq hF]
      unfold has
      cases h1 : (valueAt kvs (Str.ofString "a")).isSome <;> cases h2 : (valueAt kvs (Str.ofString "b")).isSome <;> cases h3 : (valueAt kvs (Str.ofString "c")).isSome <;> simp [List.filter, h1, h2, h3]
end
end Mine

namespace Mine
open PySem.Calls PySem.Spec
theorem four_ne {D d li c1 c2 : Addr} {oD oI o1 o2 : Obj} {tl : List (Addr × Obj)} (a : ∀ p ∈ (d, oD) :: (li, oI) :: (c1, o1) :: (c2, o2) :: tl, p.1 ≠ D) : @Ne Nat D d ∧ @Ne Nat D li ∧ @Ne Nat D c1 ∧ @Ne Nat D c2 :=
  ⟨Ne.symm (a _ (.head _)), Ne.symm (a _ (.tail _ (.head _))), Ne.symm (a _ (.tail _ (.tail _ (.head _)))), Ne.symm (a _ (.tail _ (.tail _ (.tail _ (.head _)))))⟩
section
variable {prog : Program} {w : World} {A : Around} {E : Value → Shared → Prop} {s : Shared} {env : Env} {h₀ : Heap} {m : Str → Option Value} {news : List (Addr × Obj)}
theorem own_assign {scope : Scope} {cl : List (Str × Addr)} {pos spos p1 p2 p3 p4 p5 p6 p7 p8 p9 p10 p11 p12 p13 p14 p15 : Pos} {q1 q2 q3 : Nat} {li c2 : Addr} {lvs : List Value} {ln : Nat} {kd nm : Value → Str} {z y : Str} {u : Tok} {o2 : Obj} {Q : Flow → Shared → Prop} {kvs : List (Str × Value)}
    (hS : StoredAll (fun v k => k = nm v) (fun v y => y = v) (lvs.filter fun v => decide (kd v = Str.ofString "var")) kvs)
    (F : Fr h₀ env.locals s.heap m) (N : News h₀ env.locals s.heap news) (hm : m (Str.ofString "items") = some (.ref li)) (hli : (li, listOf lvs.toArray ln) ∈ news) (hlen : lvs.length < 9) (hv : ∀ v ∈ lvs, IsItem news v (kd v) (nm v))
    (hc2 : (c2, o2) ∈ news) (ho2 : o2.data = .cell (some (.str z u))) (hcl : cl.lookup (Str.ofString "name") = some c2) (hck : ∀ C, (compEnvC scope cl C env).kindOf (Str.ofString "name") = some .cell)
    (hh : A.handled = none) (hek : env.scope.kind = .function) (hel : env.kindOf (Str.ofString "items") = some .local)
    (hclos : closureFor scope env = pure cl) (hcell : ∀ y ∈ scope.names, y.2 ≠ .cell) (hkind : scope.kind = .function)
    (hnames : ∀ y ∈ scope.names, y.2 = .local → scope.names.lookup y.1 = some .local) (hx : scope.names.lookup (Str.ofString "item") = some .local)
    (hs : ∀ x, foldedSetIterable (.Name (Str.ofString "items") p13) env x = pure x)
    (hy : env.kindOf y = some .local) (hp : (env.scope.kind == .class || (env.scope.kind == .module && env.locals != env.globals)) = false)
    (hsw : swapsWith (.ListComp (.Name (Str.ofString "item") p12) [⟨.Name (Str.ofString "item") p14, .Name (Str.ofString "items") p13, [.BoolOp .And [.Compare (.Subscript (.Name (Str.ofString "item") p1) (.Constant (.int 0) q1 p2) p3) [.Eq] [.Constant (.str (Str.ofString "var")) q2 p4] p5,
      .Compare (.Subscript (.Name (Str.ofString "item") p6) (.Constant (.int 5) q3 p7) p8) [.Eq] [.Name (Str.ofString "name") p10] p9] p11], 0⟩] scope pos) (some (.Name y p15)) spos.line env = pure true)
    (hnil : ∀ D n h' tk, Fr h₀ env.locals h' (fun z => if z = y then some (.ref D) else m z) → News h₀ env.locals h' ((D, listOf ([] : List Value).toArray n) :: news) → (∀ p ∈ news, p.1 ≠ D) → (valueAt kvs z).isSome = false → Q .next { s with heap := h', toks := tk })
    (hsome : ∀ D n us a h' tk, Fr h₀ env.locals h' (fun z => if z = y then some (.ref D) else m z) → News h₀ env.locals h' ((D, listOf (us ++ [Value.ref a]).toArray n) :: news) → (∀ p ∈ news, p.1 ≠ D) → (us ++ [Value.ref a]).length < 1000 → (∀ u ∈ us ++ [Value.ref a], u ∈ lvs) → Value.ref a ∈ lvs →
      valueAt kvs z = some (.ref a) → (valueAt kvs z).isSome = true → Q .next { s with heap := h', toks := tk }) :
    wpAny (model prog w) A (exec (.Assign [.Name y p15] (.ListComp (.Name (Str.ofString "item") p12) [⟨.Name (Str.ofString "item") p14, .Name (Str.ofString "items") p13, [.BoolOp .And [.Compare (.Subscript (.Name (Str.ofString "item") p1) (.Constant (.int 0) q1 p2) p3) [.Eq] [.Constant (.str (Str.ofString "var")) q2 p4] p5,
      .Compare (.Subscript (.Name (Str.ofString "item") p6) (.Constant (.int 5) q3 p7) p8) [.Eq] [.Name (Str.ofString "name") p10] p9] p11], 0⟩] scope pos) spos) env) Q E s := by
  refine filter_assign F N hm hli hlen hv (.inl rfl) hc2 ho2 hcl hck hh hek hel hclos hcell hkind hnames hx hs hy hp hsw fun D n h' tk F' N' a => ?_
  refine own_cases (x := z) hS (fun q e => ?_) (fun us v q hvm hsub ev e => ?_)
  · rw [q] at N'
    exact hnil D n h' tk F' N' a e
  · rw [q] at N'
    obtain ⟨_, b, _, _, _, rfl, _⟩ := hv v hvm
    refine hsome D n us b h' tk F' N' a ?_ hsub hvm ev e
    have := congrArg List.length q
    have l := List.length_filter_le (fun v => decide (kd v = Str.ofString "var") && decide (nm v = z)) lvs
    omega
end
theorem ne_both {prog : Program} {w : World} {A : Around} {E : Value → Shared → Prop} {s : Shared} {h₀ : Heap} {L : Addr} {news : List (Addr × Obj)} {Q : Value → Shared → Prop} {a b : Addr} {n k : Nat} (N : News h₀ L s.heap news) (ha : (a, listOf #[] n) ∈ news) (hb : (b, listOf #[] k) ∈ news) (hu : A.units + 64 < cLine) (h : Q (.bool false) s) :
    wpAny (model prog w) A (compareOp .NotEq (.ref a) (.ref b)) Q E s :=
  ne_empty (ws := []) N ha hb (fun _ h => nomatch h) hu h
theorem port2 {w : World} {mean mg mb} {dp un : Nat} {gd : Option (List Code)} {cn : Str} {cs : Scope} {a : Addr} {ccd : Value} {cl : List (Str × Addr)} {outer : List Env} {A₀ : Around} {base h₀ : Heap} {L : Addr} {m : Str → Option Value} {s : Shared} {li : Addr}
    {ln : Nat} {lvs : List Value} {tl news : List (Addr × Obj)} {Q E : Value → Shared → Prop} {kd nm : Value → Str} {z : Str} {u : Tok}
    (B : Below A₀ base outer h₀) (F : Fr h₀ L s.heap m) (X : (hd.heap_39 w.params).In h₀) (N : News h₀ L s.heap news) (T : lawTop mean mg mb h₀) (hk : cs.kind = .function) (hli : (li, listOf lvs.toArray ln) ∈ news) (hsub : ∀ p ∈ tl, p ∈ news)
    (hlen : lvs.length < 9) (hv : ∀ v ∈ lvs, IsItem tl v (kd v) (nm v)) (hd : dp + 1 < recursionLimit) (hu : un + 200 < cLine)
    (h0 : ∀ h' tk', Fr h₀ L h' m → News h₀ L h' news → (lvs.filter fun v => decide (kd v = Str.ofString "port") && decide (nm v = z)) = [] → Q (.bool false) { s with heap := h', toks := tk' })
    (h1 : ∀ h' tk' v us, Fr h₀ L h' m → News h₀ L h' news → (lvs.filter fun v => decide (kd v = Str.ofString "port") && decide (nm v = z)) = v :: us → (∀ u ∈ v :: us, u ∈ lvs) → Q (.bool true) { s with heap := h', toks := tk' }) :
    wpAny (lawM w) (ktrTop dp un gd cn cs L a ccd cl outer) (call (.ref (nat_lit 80)) [.ref li, .str z u]) Q E s := by
  refine port B F X N T hk hli hsub hlen hv hd hu fun h' tk' F' N' => ?_
  refine port_cases (lvs := lvs) (p := fun v => decide (kd v = Str.ofString "port") && decide (nm v = z)) (fun e q => ?_) (fun e v us q hs => ?_)
  · rw [e]; exact h0 h' tk' F' N' q
  · rw [e]; exact h1 h' tk' v us F' N' q hs
end Mine

namespace Mine
open PySem.Calls PySem.Spec

/-- what stands behind the loop over the names -/
def MidC (w : World) (h₀ : Heap) (L c1 c2 d li : Addr) (s s' : Shared) : Prop :=
  ∃ (h' : Heap) (tk : Nat) (u : Str → Option Value) (T : Addr) (oT o1 o2 oI : Obj) (kvs : List (Str × Value)) (nn : Nat) (vs : List Value) (ns : List Int) (v0 : Option Value), s' = { s with heap := h', toks := tk } ∧
    Fr h₀ L h' (fun y => if y = Str.ofString "deck" then some (.ref d) else u y) ∧
    News h₀ L h' [(T, oT), (d, listOf vs.toArray nn), (li, oI), (c1, o1), (c2, o2)] ∧ o1.data = .cell (some (.ref T)) ∧ o2.data = .cell v0 ∧ (T == sysModules) = false ∧
    (@Ne Nat T d ∧ @Ne Nat T li ∧ @Ne Nat T c1 ∧ @Ne Nat T c2) ∧ IntsAre vs ns ∧ ns.length ≤ 1000000 ∧ oT.IsDictOf (strKind PySem.Challenge.rw_pq0444_01.row.prog w) kvs ∧
    kvs.length = has kvs (Str.ofString "a") + has kvs (Str.ofString "b") + has kvs (Str.ofString "c")
theorem MidC.intro {w : World} {h₀ : Heap} {L c1 c2 d li : Addr} {s : Shared} {h' : Heap} {tk : Nat} {m : Str → Option Value} {T : Addr} {oT o1 o2 : Obj} {kvs : List (Str × Value)} {nn ln : Nat} {vs lvs : List Value} {ns : List Int} {v0 : Option Value} {tl news : List (Addr × Obj)} {kd nm : Value → Str}
    (F : Fr h₀ L h' m) (e : m (Str.ofString "deck") = some (.ref d)) (N : News h₀ L h' news)
    (hs : ∀ p ∈ [(T, oT), (d, listOf vs.toArray nn), (li, listOf lvs.toArray ln), (c1, o1), (c2, o2)], p ∈ news) (h1 : o1.data = .cell (some (.ref T))) (h2 : o2.data = .cell v0) (lo : (T == sysModules) = false)
    (ne : @Ne Nat T d ∧ @Ne Nat T li ∧ @Ne Nat T c1 ∧ @Ne Nat T c2) (hi : IntsAre vs ns) (hl : ns.length ≤ 1000000) (hd : oT.IsDictOf (strKind PySem.Challenge.rw_pq0444_01.row.prog w) kvs)
    (hS : StoredAll (fun v k => k = nm v) (fun v y => y = v) (lvs.filter fun v => decide (kd v = Str.ofString "var")) kvs) (hv : ∀ v ∈ lvs, IsItem tl v (kd v) (nm v)) :
    MidC w h₀ L c1 c2 d li s { s with heap := h', toks := tk } :=
  ⟨h', tk, m, T, oT, o1, o2, _, kvs, nn, vs, ns, v0, rfl, fr_name F e, fun p hp => N p (hs p hp), h1, h2, lo, ne, hi, hl, hd, table_len hS fun v hv' => (hv v (List.mem_filter.mp hv').1).1⟩
theorem segC {A : Around} {E : Value → Shared → Prop} {env : Env} {Q : Flow → Shared → Prop} {s : Shared} {l : List Stmt} {w : World} {h₀ : Heap} {L c1 c2 d li : Addr} {o1 o2 oI : Obj} {m : Str → Option Value} {nn : Nat} {vs : List Value} {tl : List (Addr × Obj)} (k : Nat)
    (_F : Fr h₀ L s.heap m) (_N : News h₀ L s.heap ((d, listOf vs.toArray nn) :: (li, oI) :: (c1, o1) :: (c2, o2) :: tl))
    (h1 : wpAny (lawM w) A (execs (l.take k) env) (SegEnd (MidC w h₀ L c1 c2 d li s)) E s)
    (h2 : ∀ (h' : Heap) (tk : Nat) (u : Str → Option Value) (T : Addr) (oT o1 o2 oI : Obj) (kvs : List (Str × Value)) (nn : Nat) (vs : List Value) (ns : List Int) (v0 : Option Value),
      Fr h₀ L h' (fun y => if y = Str.ofString "deck" then some (.ref d) else u y) →
      News h₀ L h' [(T, oT), (d, listOf vs.toArray nn), (li, oI), (c1, o1), (c2, o2)] → o1.data = .cell (some (.ref T)) → o2.data = .cell v0 → (T == sysModules) = false →
      (@Ne Nat T d ∧ @Ne Nat T li ∧ @Ne Nat T c1 ∧ @Ne Nat T c2) → IntsAre vs ns → ns.length ≤ 1000000 → oT.IsDictOf (strKind PySem.Challenge.rw_pq0444_01.row.prog w) kvs →
      kvs.length = has kvs (Str.ofString "a") + has kvs (Str.ofString "b") + has kvs (Str.ofString "c") → wpAny (lawM w) A (execs (l.drop k) env) Q E { s with heap := h', toks := tk }) :
    wpAny (lawM w) A (execs l env) Q E s := by
  refine execs_cut k h1 ?_
  rintro s' ⟨h', tk, u, T, oT, o1, o2, oI, kvs, nn, vs, ns, v0, rfl, F', N', h1, h2', lo, ne, hi, hl, hd, hk⟩
  exact h2 h' tk u T oT o1 o2 oI kvs nn vs ns v0 F' N' h1 h2' lo ne hi hl hd hk
end Mine

namespace Mine
open PySem.Calls PySem.Spec
section
variable {prog : Program} {w : World} {A : Around} {E : Value → Shared → Prop} {s : Shared} {h₀ : Heap} {L : Addr} {news : List (Addr × Obj)} {Q : Value → Shared → Prop}
theorem ne_snoc {a b : Addr} {n k : Nat} {us : List Value} {v : Value} (N : News h₀ L s.heap news) (ha : (a, listOf (us ++ [v]).toArray n) ∈ news) (hb : (b, listOf #[] k) ∈ news) (hr : ∀ u ∈ us ++ [v], ItemR s.heap u) (hu : A.units + 64 < cLine) (h : Q (.bool true) s) :
    wpAny (model prog w) A (compareOp .NotEq (.ref a) (.ref b)) Q E s := by
  refine ne_empty N ha hb hr hu ?_
  have e : (us ++ [v]).isEmpty = false := by cases us <;> rfl
  rw [e]; exact h
theorem ne_cons {a b : Addr} {n k : Nat} {us : List Value} {v : Value} (N : News h₀ L s.heap news) (ha : (a, listOf (v :: us).toArray n) ∈ news) (hb : (b, listOf #[] k) ∈ news) (hr : ∀ u ∈ v :: us, ItemR s.heap u) (hu : A.units + 64 < cLine) (h : Q (.bool true) s) :
    wpAny (model prog w) A (compareOp .NotEq (.ref a) (.ref b)) Q E s := ne_empty N ha hb hr hu h
theorem len_snoc {l : Addr} {us : List Value} {v : Value} {n : Nat} (N : News h₀ L s.heap news) (hm : (l, listOf (us ++ [v]).toArray n) ∈ news) (hf : (us ++ [v]).length < 1000)
    (h : ∀ k : Int, k = ((us ++ [v]).length : Int) → Q (.int k (s.toks + 1)) { s with toks := s.toks + 1 + 1 }) : wpAny (model prog w) A (call (.builtin "len") [.ref l]) Q E s := by
  have hl : s.heap.IsList l (us ++ [v]).toArray := ⟨_, (N _ hm).1, rfl, n, rfl⟩
  exact len_list hl (by rw [List.size_toArray]; omega) (h _ (by rw [List.size_toArray]))
end
end Mine

namespace Mine
open PySem.Calls PySem.Spec

theorem two_ways {P : Prop} {k : Int} (h2 : k < 2) (h0 : 0 ≤ k) (a : k = 0 → P) (b : k = 1 → P) : P := by
  by_cases h : k = 0
  · exact a h
  · exact b (by omega)

theorem six_ne {D T d li c1 c2 : Addr} {x : Addr × Obj} {oT oD oI o1 o2 : Obj} (a : ∀ p ∈ [x, (T, oT), (d, oD), (li, oI), (c1, o1), (c2, o2)], p.1 ≠ D) : @Ne Nat D T ∧ @Ne Nat D d ∧ @Ne Nat D li ∧ @Ne Nat D c1 ∧ @Ne Nat D c2 :=
  ⟨Ne.symm (a _ (.tail _ (.head _))), Ne.symm (a _ (.tail _ (.tail _ (.head _)))), Ne.symm (a _ (.tail _ (.tail _ (.tail _ (.head _))))), Ne.symm (a _ (.tail _ (.tail _ (.tail _ (.tail _ (.head _)))))), Ne.symm (a _ (.tail _ (.tail _ (.tail _ (.tail _ (.tail _ (.head _)))))))⟩
theorem news_skip2 {h₀ h : Heap} {L : Addr} {a b : Addr × Obj} {r : List (Addr × Obj)} (N : News h₀ L h (a :: b :: r)) : News h₀ L h (a :: r) := fun p hp => N p (by
  rcases List.mem_cons.mp hp with e | e
  · exact e ▸ .head _
  · exact .tail _ (.tail _ e))
theorem has_le (kvs : List (Str × Value)) (x : Str) : has kvs x ≤ 1 := by unfold has; split <;> decide
theorem len_table {prog : Program} {w : World} {A : Around} {E : Value → Shared → Prop} {s : Shared} {h₀ : Heap} {L d : Addr} {news : List (Addr × Obj)} {o : Obj} {kvs : List (Str × Value)} {Q : Value → Shared → Prop} (N : News h₀ L s.heap news) (hp : (d, o) ∈ news) (hd : o.IsDictOf (strKind prog w) kvs) (lo : (d == sysModules) = false)
    (hk : kvs.length = has kvs (Str.ofString "a") + has kvs (Str.ofString "b") + has kvs (Str.ofString "c")) (h : ∀ k : Int, k = ((has kvs (Str.ofString "a") + has kvs (Str.ofString "b") + has kvs (Str.ofString "c") : Nat) : Int) → Q (.int k (s.toks + 1)) { s with toks := s.toks + 1 + 1 }) :
    wpAny (model prog w) A (call (.builtin "len") [.ref d]) Q E s := by
  have a := has_le kvs (Str.ofString "a")
  have b := has_le kvs (Str.ofString "b")
  have c := has_le kvs (Str.ofString "c")
  exact kda_len N hp hd lo (by omega) (h _ (by rw [hk]))
theorem len_names {prog : Program} {w : World} {A : Around} {E : Value → Shared → Prop} {s : Shared} {h₀ : Heap} {L l : Addr} {news : List (Addr × Obj)} {n : Nat} {ys : List Value} {kvs : List (Str × Value)} {Q : Value → Shared → Prop} (N : News h₀ L s.heap news) (hm : (l, listOf ys.toArray n) ∈ news)
    (hk : ys.length = has kvs (Str.ofString "a") + has kvs (Str.ofString "b") + has kvs (Str.ofString "c")) (h : ∀ k : Int, k = ((has kvs (Str.ofString "a") + has kvs (Str.ofString "b") + has kvs (Str.ofString "c") : Nat) : Int) → Q (.int k (s.toks + 1)) { s with toks := s.toks + 1 + 1 }) :
    wpAny (model prog w) A (call (.builtin "len") [.ref l]) Q E s := by
  have a := has_le kvs (Str.ofString "a")
  have b := has_le kvs (Str.ofString "b")
  have c := has_le kvs (Str.ofString "c")
  have hl : s.heap.IsList l ys.toArray := ⟨_, (N _ hm).1, rfl, n, rfl⟩
  exact len_list hl (by rw [List.size_toArray]; omega) (h _ (by rw [List.size_toArray, hk]))

local macro_rules | `(tactic| walk_at "call ref") => `(tactic| (k_here; k_dflt (refine' card ?k1 ?k2 ?k3 ?k4 ?k5 ?k6 ?k7 ?k8 ?k9 ?kA ?kB ?kC ?_; (case k6 => exact rfl); (case k1 => k_asm); (case k2 => k_asm); (case k3 => k_asm); (case k4 => k_asm); (case k5 => k_asm); (case k7 => k_updF); (case k8 => with_reducible assumption); (case k9 => first | assumption | omega); (case kA => decide); (case kB => ktr_room); (case kC => ktr_units)); intro v9 t9 vs9 ns9 nn9 h9 tk9 hv9 hw9 hi9 hl9 F9 N9; (try dsimp only at N9); (try k_sweep); (try dsimp only); (try k_fold); walk_say "CARD"))
local macro_rules | `(tactic| walk_at "call type:range") => `(tactic| (k_here; (rename Fr _ _ _ _ => F'); (rename News _ _ _ _ => N'); (with_unfolding_all refine range1_rows F' N' ?_; intro _ _ _ _ _ _ _ _ _); walk_say "RANGE"))
local macro_rules | `(tactic| k_all) => `(tactic| assumption)
local macro_rules | `(tactic| walk_at "exec For Name Call cons nil") => `(tactic| (k_here; (rename Fr _ _ _ _ => lF'); (with_unfolding_all refine' For_invVF lF' ?k1 ?k2 ?_; (case k1 => exact rfl); (case k2 => exact rfl); k_whole); walk_say "FOR"))
local macro_rules | `(tactic| walk_at "pyIter ref") => `(tactic| (k_here; (rename Fr _ _ _ _ => lF'); (rename News _ _ _ _ => lN'); (rename IsRange _ _ _ _ _ _ _ _ => rgX); (with_unfolding_all refine' loop_items ?k1 rgX ?k2 ?k3 lF' lN' ?k4 ?k5 ?k6 ?k7 ?k8 ?k9 ?kA ?kT6 ?kD6; (case k1 => exact rfl); (case k2 => assumption); (case k3 => assumption); (case k4 => rfl); (case k5 => rfl); (case k6 => assumption); (case k7 => assumption); (case k8 => assumption); (case k9 => decide); (case kA => decide)); (case' kT6 => (intro nn9 vs9 ns9 ln9 lvs9 xs9 o29 v09 tl9 own9 m9 k9 t9 h9 tk9 ho9 a19 a29 a39 hi9 hl9 hll9 hD9 F9 N9)); (case' kD6 => (intro nn9 vs9 ns9 ln9 lvs9 xs9 o29 v09 tl9 m9 h9 tk9 ho9 ha9 hi9 hl9 hll9 hD9 hIt9 F9 N9)); all_goals (clear lF' lN' rgX); walk_say "LOOP"))
local macro_rules | `(tactic| walk_at "subscriptTail") => `(tactic| (k_here; (with_reducible show wpAny _ _ (subscriptTail _ _ (Value.ref _) (Value.int _ _)) _ _ _); k_dflt (refine' pick ?kn ?k1 ?k2 ?k3 ?k4 ?k5 ?_ ?k6; (case k1 => k_asm); (case k2 => k_mem); (case kn => exact Nat.le_of_ble_eq_true rfl); (case k3 => assumption); (case k4 => (simp only [List.length_cons, List.length_nil]; omega)); (case k5 => omega); (case k6 => with_unfolding_all rfl)); intro v9 hv9; walk_say "PICK"))
local macro_rules | `(tactic| walk_at "call ref") => `(tactic| (k_here; k_dflt (refine' vars ?k1 ?k2 ?k3 ?k4 ?k5 ?k6 ?k7 ?k8 ?k9 ?kA ?_; (case k6 => exact rfl); (case k1 => k_asm); (case k2 => k_asm); (case k3 => k_asm); (case k4 => k_asm); (case k5 => k_asm); (case k7 => assumption); (case k8 => assumption); (case k9 => ktr_room); (case kA => ktr_units)); intro D9 oD9 kvs9 h9 tk9 F9 N9 a9 b9 d9 s9; (have e19 := four_ne a9); clear a9; (try k_sweep); (try dsimp only); (try k_fold); walk_say "VARS"))
local macro_rules | `(tactic| walk_at "call ref") => `(tactic| (k_here; k_dflt (refine' port2 ?k1 ?k2 ?k3 ?k4 ?k5 ?k6 ?k7 ?kS ?k8 ?k9 ?kA ?kB ?_ ?_; (case k6 => exact rfl); (case k1 => k_asm); (case k2 => k_asm); (case k3 => k_asm); (case k4 => k_asm); (case k5 => k_asm); (case k7 => k_mem); (case k9 => assumption); (case k8 => assumption); (case kS => (intro p hp; simp only [List.mem_cons, List.mem_append, hp, true_or, or_true])); (case kA => ktr_room); (case kB => ktr_units)); (intro h9 tk9 F9 N9 q9); rotate_left; (intro h9 tk9 v9 us9 F9 N9 q9 hs9); rotate_left; all_goals ((try k_sweep); (try dsimp only); (try k_fold)); walk_say "PORT"))
local macro_rules | `(tactic| walk_at "exec Assign cons ListComp") => `(tactic| (k_here; k_dflt (refine' own_assign ?kO ?k1 ?k2 ?k3 ?k4 ?k5 ?k6 ?k8 ?k9 ?kA ?kB ?kC ?kD ?kE ?kF ?kG ?kH ?kI ?kJ ?kK ?kL ?kM ?kN ?kX ?kY; (case kO => assumption); (case k1 => k_asm); (case k2 => k_asm); (case k3 => exact rfl); (case k4 => k_mem); (case k5 => assumption); (case k6 => (intro v hv; refine' IsItem.mono ?sA ?sB; (case sB => solve_by_elim); (case sA => (intro p hp; simp only [List.mem_cons, List.mem_append, hp, true_or, or_true])))); (case kF => exact rfl); (case kA => exact rfl); (case k8 => k_mem); (case k9 => assumption); (case kB => (intro _; exact rfl)); (case kC => exact rfl); (case kD => exact rfl); (case kE => exact rfl); (case kG => decide); (case kH => exact rfl); (case kI => decide); (case kJ => exact rfl); (case kK => (intro _; exact rfl)); (case kL => exact rfl); (case kM => exact rfl); (case kN => exact rfl)); (case' kX => (intro D9 n9 h9 tk9 F9 N9 a9 i9; clear a9)); (case' kY => (intro D9 n9 us9 b9 h9 tk9 F9 N9 a9 l9 hs9 hm9 ev9 i9; clear a9)); all_goals ((try k_sweep); (try dsimp only); (try k_fold)); walk_say "OWN"))
local macro_rules | `(tactic| walk_at "eval ListComp") => `(tactic| (k_here; (with_reducible show wpAny _ _ (eval (Expr.ListComp _ [⟨_, _, [Expr.BoolOp _ _ _], _⟩] _ _) _) _ _ _); k_dflt (refine' filter_eval ?k1 ?k2 ?k3 ?k4 ?k5 ?k6 ?k7 ?k8 ?k9 ?kA ?kB ?kC ?kD ?kE ?kF ?kG ?kH ?kI ?kJ ?kK ?_; (case k1 => k_asm); (case k2 => k_asm); (case k3 => exact rfl); (case k4 => k_mem); (case k5 => assumption); (case k6 => (intro v hv; refine' IsItem.mono ?sA ?sB; (case sB => solve_by_elim); (case sA => (intro p hp; simp only [List.mem_cons, List.mem_append, hp, true_or, or_true])))); (case k7 => exact .inr rfl); (case kF => exact rfl); (case kA => exact rfl); (case k8 => k_mem); (case k9 => assumption); (case kB => (intro _; exact rfl)); (case kC => exact rfl); (case kD => exact rfl); (case kE => exact rfl); (case kG => decide); (case kH => exact rfl); (case kI => decide); (case kJ => exact rfl); (case kK => (intro _; exact rfl))); intro D9 n9 h9 tk9 F9 N9 a9; clear a9; ((rename List.filter _ _ = _ => q9); rw [q9] at N9); (try k_sweep); (try dsimp only); (try k_fold); walk_say "FILT"))
local macro_rules | `(tactic| walk_at "compareOp In str ref") => `(tactic| (k_here; k_dflt (refine' kda_in (knd := PySem.strKind _ _) ?k1 ?k2 ?k3 ?k4 (strKind_is _ _ _ _) _ ?k5 ?_; (case k1 => k_asm); (case k2 => k_mem); (case k3 => assumption); (case k4 => assumption); (case k5 => assumption)); walk_say "IN"))
local macro_rules | `(tactic| walk_at "compareOp NotEq ref ref") => `(tactic| (k_here; (with_reducible show wpAny _ _ (compareOp CmpOp.NotEq (Value.ref _) (Value.ref _)) _ _ _); k_dflt (refine' ne_snoc ?k1 ?k2 ?k3 ?k4 ?k5 ?_; (case k1 => k_asm); (case k2 => k_mem); (case k3 => k_mem); (case k4 => (intro v hv; refine' items_read (fun p hp => ?kN) ?kD ?kI v ?kM; (case kD => assumption); (case kI => assumption); (case kM => solve_by_elim); (case kN => ((rename News _ _ _ _ => nN); exact nN p (by simp only [List.mem_cons, List.mem_append, hp, true_or, or_true]))))); (case k5 => ktr_units)); walk_say "NSNOC"))
local macro_rules | `(tactic| walk_at "compareOp NotEq ref ref") => `(tactic| (k_here; (with_reducible show wpAny _ _ (compareOp CmpOp.NotEq (Value.ref _) (Value.ref _)) _ _ _); k_dflt (refine' ne_cons ?k1 ?k2 ?k3 ?k4 ?k5 ?_; (case k1 => k_asm); (case k2 => k_mem); (case k3 => k_mem); (case k4 => (intro v hv; refine' items_read (fun p hp => ?kN) ?kD ?kI v ?kM; (case kD => assumption); (case kI => assumption); (case kM => solve_by_elim); (case kN => ((rename News _ _ _ _ => nN); exact nN p (by simp only [List.mem_cons, List.mem_append, hp, true_or, or_true]))))); (case k5 => ktr_units)); walk_say "NCONS"))
local macro_rules | `(tactic| walk_at "compareOp NotEq ref ref") => `(tactic| (k_here; (with_reducible show wpAny _ _ (compareOp CmpOp.NotEq (Value.ref _) (Value.ref _)) _ _ _); k_dflt (refine' ne_self ?k4 ?k5 ?_; (case k4 => (refine' items_read (fun p hp => ?kN) ?kD ?kI _ ?kM; (case kD => assumption); (case kI => assumption); (case kM => assumption); (case kN => ((rename News _ _ _ _ => nN); exact nN p (by simp only [List.mem_cons, List.mem_append, hp, true_or, or_true]))))); (case k5 => ktr_units)); walk_say "NESELF"))
local macro_rules | `(tactic| walk_at "compareOp NotEq ref ref") => `(tactic| (k_here; (with_reducible show wpAny _ _ (compareOp CmpOp.NotEq (Value.ref _) (Value.ref _)) _ _ _); k_dflt (refine' ne_both ?k1 ?k2 ?k3 ?k5 ?_; (case k1 => k_asm); (case k2 => k_mem); (case k3 => k_mem); (case k5 => ktr_units)); walk_say "NBOTH"))
local macro_rules | `(tactic| walk_at "subscriptTail") => `(tactic| (k_here; (with_reducible show wpAny _ _ (subscriptTail _ _ (Value.ref _) (Value.str _ _)) _ _ _); k_dflt (refine' kdt_tail (knd := PySem.strKind _ _) ?k1 ?k2 ?k3 (kdt_getItem (knd := PySem.strKind _ _) ?k1' ?k2' ?k3' (strKind_is _ _ _ _) ?k4 ?_) ?k5; (case k1 => k_asm); (case k2 => k_mem); (case k3 => assumption); (case k1' => k_asm); (case k2' => k_mem); (case k3' => assumption); (case k4 => assumption); (case k5 => with_unfolding_all rfl)); walk_say "TABLE"))
local macro_rules | `(tactic| walk_at "subscriptTail") => `(tactic| (k_here; (with_reducible show wpAny _ _ (subscriptTail _ _ (Value.ref _) (Value.int _ _)) _ _ _); k_dflt (refine' pick_last ?k1 ?k2 ?k3 ?k4 ?_ ?k6; (case k1 => k_asm); (case k2 => k_mem); (case k3 => first | rfl | omega); (case k4 => assumption); (case k6 => with_unfolding_all rfl)); walk_say "LAST"))
local macro_rules | `(tactic| walk_at "call builtin:len") => `(tactic| (k_here; (with_reducible show wpAny _ _ (call (Value.builtin "len") [Value.ref _]) _ _ _); k_dflt (refine' len_snoc ?k1 ?k2 ?k3 ?_; (case k1 => k_asm); (case k2 => k_mem); (case k3 => assumption)); intro k9 e9; walk_say "LENOWN"))
local macro_rules | `(tactic| k_all) => `(tactic| assumption)
local macro_rules | `(tactic| walk_at "exec For Name List cons nil") => `(tactic| (k_here; (rename Fr _ _ _ _ => lF'); (with_unfolding_all refine' For_turns lF' ?_; k_whole); walk_say "FOR"))
local macro_rules | `(tactic| walk_at "pyIter ref") => `(tactic| (k_here; (rename Fr _ _ _ _ => lF'); (rename News _ _ _ _ => lN'); (with_unfolding_all refine' names_loop ?k1 lF' lN' ?k4 ?k5 ?k6 ?k7 ?k8 ?kT9 ?kD9; (case k1 => exact rfl); (case k4 => rfl); (case k5 => rfl); (case k6 => assumption); (case k7 => assumption); (case k8 => (intro e; omega))); (case' kT9 => (intro z9 t9 own9 m9 o29 v09 h9 tk9 ho9 a39 F9 N9)); (case' kD9 => (intro m9 o29 v09 h9 tk9 ho9 F9 N9)); all_goals (clear lF' lN'); walk_say "LOOP"))
local macro_rules | `(tactic| walk_at "call builtin:len") => `(tactic| (k_here; (with_reducible show wpAny _ _ (call (Value.builtin "len") [Value.ref _]) _ _ _); k_dflt (refine' len_table ?k1 ?k2 ?k3 ?k4 ?k5 ?_; (case k1 => k_asm); (case k2 => k_mem); (case k3 => assumption); (case k4 => assumption); (case k5 => assumption)); intro k9 e9; walk_say "LENTAB"))
local macro_rules | `(tactic| walk_at "call builtin:len") => `(tactic| (k_here; (with_reducible show wpAny _ _ (call (Value.builtin "len") [Value.ref _]) _ _ _); k_dflt (refine' len_names ?k1 ?k2 ?k5 ?_; (case k1 => k_asm); (case k2 => k_mem); (case k5 => assumption)); intro k9 e9; walk_say "LENNAM"))
local macro_rules | `(tactic| walk_at "eval ListComp") => `(tactic| (k_here; (with_reducible show wpAny _ _ (eval (Expr.ListComp _ [⟨_, _, [Expr.Compare _ _ _ _], _⟩] _ _) _) _ _ _); k_dflt (refine' names_comp ?k1 ?k2 ?k3 ?k4 ?k5 ?k6 ?k7 ?k8 ?k9 ?kA ?kB ?kC ?_; (case k1 => assumption); (case k2 => assumption); (case k3 => assumption); (case k7 => exact rfl); (case k4 => exact rfl); (case k5 => (intro _; exact rfl)); (case k6 => exact rfl); (case k8 => decide); (case k9 => exact rfl); (case kA => decide); (case kB => exact rfl); (case kC => (intro _; exact rfl))); walk_say "NAMES"))
local macro_rules | `(tactic| walk_at "NamesAt") => `(tactic| (k_dflt (refine' NamesAt.intro ?k1 ?k2 ?k3 ?k4 ?k5 ?_; (case k1 => k_asm); (case k2 => k_asm); (case k3 => k_mem); (case k4 => k_mem); (case k5 => k_mem)); intro D9 n9 h9 tk9 ys9 F9 N9 a9 y9; (have e19 := six_ne a9); (replace N9 := news_skip2 N9); clear a9; (try k_sweep); (try dsimp only); (try k_fold); walk_say "NAMESAT"))
local macro_rules | `(tactic| walk_at "call ref") => `(tactic| (k_here; k_dflt (first
  | (refine' width_ok ?k1 ?k2 ?k3 ?k4 ?k5 ?k6 ?k7 ?k8 ?_; (case k6 => exact rfl); (case k7 => exact rfl); (case k8 => omega); (case k1 => k_asm); (case k2 => k_asm); (case k3 => k_asm); (case k4 => k_asm); (case k5 => k_asm); intro v9 t9 h9 tk9 hv9 F9 N9)
  | (refine' width_bad ?k1 ?k2 ?k3 ?k4 ?k5 ?k6 ?k7 ?k8 ?_; (case k6 => exact rfl); (case k7 => exact rfl); (case k8 => omega); (case k1 => k_asm); (case k2 => k_asm); (case k3 => k_asm); (case k4 => k_asm); (case k5 => k_asm); intro tp9 u9 t9 h9 tk9 F9 N9)); (try k_sweep); (try dsimp only); (try k_fold); walk_say "WIDTH"))
local macro_rules | `(tactic| walk_at "subscriptTail") => `(tactic| (k_here; (with_reducible show wpAny _ _ (subscriptTail _ _ (Value.ref _) (Value.int _ _)) _ _ _); (refine' two_ways ?a2 ?a0 ?a ?b; (case a2 => (with_reducible assumption)); (case a0 => with_reducible assumption)); (case' a => (intro e9; subst e9)); (case' b => (intro e9; subst e9)); walk_say "TWO"))
local macro_rules | `(tactic| walk_at "call ref") => `(tactic| (k_here; k_dflt (refine' cards ?k1 ?k2 ?k3 ?k4 ?k5 ?k6 ?k7 ?k8 ?k9 ?kA ?kB ?_; (case k6 => exact rfl); (case k1 => k_asm); (case k2 => k_asm); (case k3 => k_asm); (case k4 => k_asm); (case k5 => k_asm); (case k7 => assumption); (case k8 => assumption); (case k9 => (have hb := len_ints_list (by lay_of); omega)); (case kA => ktr_room); (case kB => ktr_units)); intro d9 nn9 us9 ms9 h9 tk9 F9 N9 l19 l29 hi9 hl9; (replace l19 := ltN l19); (replace l29 := ltN l29); (try k_sweep); (try dsimp only); (try k_fold); walk_say "CARDS"))
local macro_rules | `(tactic| walk_at "storeName") => `(tactic| (k_here; (simp only [List.length_map, rangeKs_length]); walk_say "LEN"))
local macro_rules | `(tactic| walk_at "SegEnd") => `(tactic| (k_dflt (first
  | (exfalso; omega)
  | (refine' SegEnd.of (MidA.intro ?kF ?kE ?kN ?kS ?k1 ?k2 ?kI ?kL); (case kF => k_asm); (case kE => with_unfolding_all rfl); (case kN => k_asm); (case kS => exact List.forall_mem_cons.mpr ⟨by k_mem, List.forall_mem_cons.mpr ⟨by k_mem, List.forall_mem_cons.mpr ⟨by k_mem, List.forall_mem_nil _⟩⟩⟩); (case k1 => exact ltN (by omega)); (case k2 => exact ltN (by omega)); (case kI => assumption); (case kL => assumption))); walk_say "SEG"))

set_option maxHeartbeats 40000000 in
theorem whole : PySem.Challenge.rw_pq0444_01.Holds := hd (by
  k_with_none
  k_go0; (all_goals try k_fold)
  (rename Fr _ _ _ _ => F0); (rename News _ _ _ _ => N0)
  k_dflt (refine segA 7 F0 N0 ?_ ?_)
  · (try dsimp only [List.take])
    (try k_fold)
    k_steps
    all_goals (try k_data)
  · intro h' tk u d nn vs ns F' N' l1 l2 hi hl
    replace l1 := ltN l1
    replace l2 := ltN l2
    clear F0 N0
    (rename Heap.CodeRec _ _ _ => z1; clear z1)
    (rename CellsAre _ _ _ => z1; clear z1)
    (rename Hook.says _ _ _ => z1; clear z1)
    (rename ReadsAll _ _ _ _ => z1; clear z1)
    (rename Well _ _ _ _ => z1; clear z1)
    (rename Reads _ _ _ _ => z1; clear z1)
    (rename Tables _ _ _ _ => z1; clear z1)
    (rename TopE _ _ _ _ => z1; clear z1)
    (rename TopW _ _ _ => z1; clear z1)
    (rename BMod _ _ _ _ _ => z1; clear z1)
    (rename Glob _ _ _ _ _ _ _ _ => z1; clear z1)
    (rename LooseAre _ _ _ => z1; clear z1)
    (try dsimp only [List.drop])
    (try k_fold)
    k_dflt (refine segB 2 F' N' ?_ ?_)
    · (try dsimp only [List.take])
      (try k_fold)
      k_steps
      all_goals (try k_data)
      · (rename Fr _ _ _ _ => F9); (rename News _ _ _ _ => N9); (rename DatAll _ _ _ => D9); (rename IntsAre _ _ => i9); (rename Apart _ _ _ _ _ => a9)
        refine SegEnd.of (MidB.intro F9 N9 (by assumption) a9 (ltN (by omega)) i9 (by assumption) (by assumption) D9 (by assumption))
      · (rename Fr _ _ _ _ => F9); (rename News _ _ _ _ => N9)
        (rename IntsAre _ _ => i9)
        refine' turn_end F9 N9 ?k1 ?k2 ?k3 i9 ?k5 ?k6 ?k7 ?k8 ?k9 ?kA ?kB ?kC ?kD ?kE
        case k1 => exact rfl
        case k2 => exact rfl
        case k3 => assumption
        all_goals assumption
    · clear F' N' hi hl
      intro h' tk u li nn vs ns ln lvs xs o2 v0 tl F' N' ho ha hlt hi hl hll hD hIt
      obtain ⟨kd, nm, hv⟩ := metas hD hIt
      have hlt := ltN hlt
      have ac1 := fun p hp => (ha p hp).2.2.1
      have ac2 := fun p hp => (ha p hp).2.2.2
      have ad := fun p hp => (ha p hp).1
      (try dsimp only [List.drop])
      (try k_fold)
      k_dflt (refine segC 2 F' N' ?_ ?_)
      · (try dsimp only [List.take])
        (try k_fold)
        k_steps
        all_goals (try k_data)
        all_goals (rename Fr _ _ _ _ => F9)
        all_goals (rename News _ _ _ _ => N9)
        case' kD9 => skip
        · refine SegEnd.of (MidC.intro (nn := nn) (ln := ln) F9 rfl N9 (fun p hp => ?_) (by assumption) (by assumption) (by assumption) (by assumption) hi hl (by assumption) (by assumption) hv)
          simp only [List.mem_cons, List.not_mem_nil, or_false] at hp ⊢
          rcases hp with h | h | h | h | h
          · exact .inl h
          · exact .inr (.inl h)
          · exact .inr (.inr (.inl h))
          · exact .inr (.inr (.inr (.inl h)))
          · exact .inr (.inr (.inr (.inr (.inl h))))
        all_goals ((refine' TurnD.intro F9 N9 ?g1 ?g2 ?go ?gs); (case g1 => exact rfl); (case g2 => exact rfl); (case go => assumption); (case gs => exact fun p hp => by first | exact hp | exact .tail _ hp | exact .tail _ (.tail _ hp) | exact .tail _ (.tail _ (.tail _ hp)) | exact .tail _ (.tail _ (.tail _ (.tail _ hp))) | exact .tail _ (.tail _ (.tail _ (.tail _ (.tail _ hp)))) | exact .tail _ (.tail _ (.tail _ (.tail _ (.tail _ (.tail _ hp))))) | exact .tail _ (.tail _ (.tail _ (.tail _ (.tail _ (.tail _ (.tail _ hp))))))))
      · clear F' N' hi hl hll hD hIt hv ac1 ac2 ad ha
        intro h' tk u T oT o1 o2 oI kvs nn vs ns v0 F' N' ho1 ho2 lo ne hi hl hd hk
        (try dsimp only [List.drop])
        (try k_fold)
        k_steps
        all_goals (try k_data))
end Mine

theorem PySem.Challenge.cw_pq0444_01_holds : PySem.Challenge.rw_pq0444_01.Holds :=
  Mine.whole
