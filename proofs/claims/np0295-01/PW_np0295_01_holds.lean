import PyProof.Rows.All
import Wide.All
import OpenK.AllK
import Wide.FinOn
import KE.KStateText
import PyProof.Rows.RegReprOcc
import Lean
import PySem.Challenge.RW_np0295_01
set_option Elab.async false
set_option linter.all false
open PySem PySem.W PySem.Spec PySem.Calls PyProof.Rows PySem.W.X
namespace Mine
section
open PySem PySem.W PyProof.Rows
section
local macro_rules | `(tactic| o_head $_) => `(tactic| assumption)
set_option maxRecDepth 100000 in
set_option maxHeartbeats 8000000 in
theorem mkK : PySem.Challenge.rw_np0295_01.row.Holds → PySem.Challenge.rw_np0295_01.row.Holds := by
  intro h
  km_head
end

end
end Mine
namespace Mine
section
noncomputable def vw : Program := view PySem.Challenge.pw_np0295_01 [43]
noncomputable def lo : List Str := ["SnobolError","Pattern","Delayed","Holder","is_null","is_plain","fits","whole_of_text","text_of_whole","to_whole","to_text","need_whole","checked_whole","NULL_NODE","is_null_node","joined","either","pattern_of","World","check_length","divided","remainder","raised_to","reckoned","is_part","join_values","either_value","binary_value","unary_value","_law_draw","_law_box","_law_value","_law_due","_law_heard","_law_is_part","_law_text","_law_same","_law_joined_right"].map Str.ofString
set_option maxRecDepth 100000 in
theorem ws : PySem.Challenge.rw_np0295_01.wellSaid = true := by
  unfold OpenLaw.wellSaid OpenRow.wellSaid OpenRow.partSaid looksOpen
  repeat' (with_reducible refine look_both ?_ ?_)
  all_goals try rw [PySem.W.Fast.te8326940854005059898]
  all_goals try rw [PySem.W.Fast.te17119622794617984870]
  all_goals try rw [PySem.W.Fast.te8179353310426384613]
  all_goals try rw [PySem.W.Fast.te9558739934217749035]
  all_goals try rw [PySem.W.Fast.te10501279942588096481]
  all_goals try rw [PySem.W.Fast.te2357444279172408678]
  all_goals try rw [PySem.W.Fast.te13582783067957832011]
  all_goals try rw [PySem.W.Fast.te6984425678791042302]
  all_goals try rw [PySem.W.Fast.te10792542408131684335]
  all_goals try rw [PySem.W.Fast.te12749700546528644094]
  all_goals try rw [PySem.W.Fast.te18344453789297297638]
  all_goals try rw [PySem.W.Fast.named_eq]
  all_goals try rw [PySem.W.Fast.sDec_eq]
  all_goals decide +kernel
noncomputable def asK : List Addr := [2, 3, 15, 18, 23, 24, 25, 27, 28, 30, 31, 32, 33, 34, 35, 45, 47, 48, 50, 51, 52, 53, 54, 55, 56, 66, 68, 69, 71, 72, 73, 74, 75, 76, 77, 87, 89, 90, 92, 93, 94, 95, 96, 97, 98, 101, 103, 104, 106, 107, 108, 110, 111, 113, 114, 115, 117, 118, 120, 121, 122, 124, 125, 127, 128, 129, 131, 132, 134, 135, 136, 138, 139, 141, 142, 143, 145, 146, 148, 149, 150, 152, 153, 155, 156, 157, 159, 160, 162, 163, 164, 165, 167, 168, 170, 171, 172, 174, 175, 177, 178, 179, 181, 182, 184, 185, 186, 188, 189, 191, 192, 200, 201, 203, 204, 206, 207, 208, 209, 210, 211, 212, 215, 217, 218, 220, 221, 222, 224, 225, 227, 228, 229, 231, 232, 234, 235, 236, 238, 239, 241, 242, 243, 245, 246, 248, 249, 250, 252, 253, 255, 256, 257, 259, 260, 262, 263, 264, 266, 267, 269, 270, 271, 273, 274, 276, 277, 278, 280, 281, 283, 284, 285, 287, 288, 290, 291, 292, 295, 296, 297, 299, 300, 302, 303, 304, 306, 307, 309, 310, 311, 313, 314, 316, 317, 318, 320, 321, 323, 324, 325, 327, 328, 330, 331, 332, 334, 335, 337, 338, 339, 341, 342, 344, 345, 346, 348, 349, 351, 352]
noncomputable def HK : Hook := kmHook mkK.heap_1 asK (fun _ => by kernel_rfl) [340, 347]
set_option maxRecDepth 100000 in
theorem left : LeftO PySem.Challenge.rw_np0295_01.row.prog vw lo (fun s => xlAt vw [] s && recOk PySem.Challenge.rw_np0295_01.row.toRowW.records s) HK.obs HK.val 4618 := by
  intro w
  first | (unfold openEnds fencedOpening topFrom; rw [PySem.W.Fast.te10274390034422433532, PySem.W.Fast.te1435165496053646825, PySem.W.Fast.te14289696077712309145, PySem.W.Fast.te14082659384304107361, PySem.W.Fast.te8920871248978507458, PySem.W.Fast.te4187177175401517315, PySem.W.Fast.te14364793385576792824]; kernel_rfl) | kernel_rfl

end
end Mine
namespace Mine
section
open PySem PySem.W PySem.Spec PySem.Calls PyProof.Rows

structure FlyD (base : Heap) (l : List Env) (e dx : Addr) (fl : Value) (h : Heap) : Prop where
  stays : base.StaysIn h
  eNew : base.get? e = none
  frames : h.FunFrames base l
  obj : ∃ oe vs T oT ts, h.get? e = some oe ∧ (oe.cls = .ref 34 ∧ oe.dict = some dx) ∧ oe.data = .fields vs ∧ vs[1]? = some (.ref T) ∧ base.get? T = none ∧ T ≠ e ∧ h.get? T = some oT ∧ oT.data = .fields ts ∧ ts[3]? = some fl

theorem mapFields_cls (f : Array Value → Array Value) (o : Obj) : (Obj.mapFields f o).cls = o.cls := by
  obtain ⟨_, _, d, _⟩ := o; cases d <;> rfl
theorem mapFields_dict (f : Array Value → Array Value) (o : Obj) : (Obj.mapFields f o).dict = o.dict := by
  obtain ⟨_, _, d, _⟩ := o; cases d <;> rfl

section
variable {M : Model} {A : Around} {E : Value → Shared → Prop} {s : Shared}

theorem entryD {base : Heap} {env : Env} {outer : List Env} {L e dx : Addr} {oe : Obj} {vs : Array Value} {head : Value} {hadNext : Bool} {Q : Unit → Shared → Prop}
    (hfr : A.frames = some (env :: outer)) (hl : s.heap.FunFrames base (env :: outer)) (hf : env.frame = some L)
    (he : s.heap.get? e = some oe) (hkb : base.StaysIn s.heap) (hen : base.get? e = none) (hd : oe.data = .fields vs) (hsz : 1 < vs.size) (hc : oe.cls = .ref 34) (hdx : oe.dict = some dx)
    (h : ∀ h', FlyD base (env :: outer) e dx (rawInt L) h' → s.heap.UpToSlots h' → Q () { s with heap := h' }) :
    wpAny M A (do let a ← frameOf env; let pl ← entryPlaceOf L hadNext; let b ← EntryCells.newEntry head a .none (rawInt L) .none pl; setField (.ref e) 1 b) Q E s := by
  refine wpAny_bind (wpAny_frameOf_fun hfr hl hf fun h₁ so => ?_)
  refine wpAny_bind (wpAny_entryPlaceOf fun pl hpl => ?_)
  unfold EntryCells.newEntry newFields
  refine wpAny_bind (wpAny_newObj_type ?_ (hpl.sizeOk5 _ _ _ _ _))
  have notFrame : ∀ b o, s.heap.get? b = some o → (∃ ws, o.data = .fields ws) → b ∉ (env :: outer).filterMap (·.frame) := fun b o hb ⟨ws, hw⟩ hm => by
    obtain ⟨_, o', ho', hn⟩ := hl.mem hm
    rw [hb] at ho'; cases ho'; exact hn ws hw
  have e1 : h₁.get? e = some oe := (so.2.1 e (notFrame e oe he ⟨vs, hd⟩)).trans he
  have k1 : base.StaysIn h₁ := fun b o q => (so.2.1 b fun hm => by rw [(hl.mem hm).1] at q; cases q).trans (hkb b o q)
  generalize hobj : ({ cls := .type "traceback", dict := none, data := .fields ([head, .ref L, .none, rawInt L, .none] ++ (if pl.isEmpty then List.replicate 6 Value.none else pl)).toArray } : Obj) = tb
  have tbd : tb.data = .fields ([head, .ref L, .none, rawInt L, .none] ++ (if pl.isEmpty then List.replicate 6 Value.none else pl)).toArray := by rw [← hobj]
  have tbf : tb.isFreed = false := by rw [← hobj]; rfl
  have e2 : (h₁.push tb).get? e = some oe := Heap.get?_push_of_some _ e1
  have neT : h₁.objs.size ≠ e := Nat.ne_of_gt (Heap.lt_size e1)
  refine wpAny_setField e2 hd hsz (h _ ?_ ?_)
  · have keep : ∀ b o, b ≠ e → h₁.get? b = some o → ((h₁.push tb).update e (Obj.mapFields (·.setIfInBounds 1 (.ref h₁.objs.size)))).get? b = some o := fun b o hbe hb => by
      rw [Heap.get?_update_other _ _ (Ne.symm hbe)]; exact Heap.get?_push_of_some _ hb
    refine ⟨fun b o q => keep b o (fun z => by rw [z, hen] at q; cases q) (k1 b o q), hen, hl.of_keeps fun b o hb hn => ?_, ?_⟩
    · obtain ⟨sl, hs⟩ := so.2.2 b o hb
      exact ⟨_, keep b _ (fun z => by rw [z, he] at hb; cases hb; exact hn vs hd) hs, rfl⟩
    · refine ⟨_, _, h₁.objs.size, tb, _, Heap.get?_update_self _ e2 (Obj.isFreed_of_fields (Obj.data_mapFields hd _)), ⟨(mapFields_cls _ _).trans hc, (mapFields_dict _ _).trans hdx⟩, Obj.data_mapFields hd _, by simp [hsz], k1.fresh, neT, ?_, tbd, ?_⟩
      · rw [Heap.get?_update_other _ _ (Ne.symm neT)]; exact Heap.get?_push_size _ tbf
      · first | (simp; done) | (rcases hpl with rfl | ⟨_, _, _, _, _, _, _, rfl⟩ <;> simp)
  · intro b o hb hn
    obtain ⟨sl, hs⟩ := so.2.2 b o hb
    refine ⟨sl, ?_⟩
    rw [Heap.get?_update_other _ _ (fun z : e = b => by rw [← z, he] at hb; cases hb; exact hn vs hd)]
    exact Heap.get?_push_of_some _ hs

theorem note_freshD {base : Heap} {env : Env} {outer : List Env} {L e dx : Addr} {oe : Obj} {vs : Array Value} {Q : Unit → Shared → Prop}
    (hfr : A.frames = some (env :: outer)) (hl : s.heap.FunFrames base (env :: outer)) (hf : env.frame = some L)
    (he : s.heap.get? e = some oe) (hkb : base.StaysIn s.heap) (hen : base.get? e = none) (hd : oe.data = .fields vs) (h1 : vs[1]? = some .none) (hc : oe.cls = .ref 34) (hdx : oe.dict = some dx)
    (h : ∀ h', FlyD base (env :: outer) e dx (rawInt L) h' → s.heap.UpToSlots h' → Q () { s with heap := h' }) : wpAny M A (noteFrame (.ref e) env) Q E s := by
  unfold noteFrame
  simp only [hf]
  refine wpAny_bind (wpAny_field he hd h1 ?_)
  rw [if_neg (by decide)]
  exact entryD hfr hl hf he hkb hen hd (Array.getElem?_eq_some_iff.mp h1).1 hc hdx h

theorem note_nextD {base : Heap} {env : Env} {outer : List Env} {L e dx : Addr} {Q : Unit → Shared → Prop}
    (hfr : A.frames = some (env :: outer)) (hf : env.frame = some L) (y : FlyD base (env :: outer) e dx .none s.heap)
    (h : ∀ h', FlyD base (env :: outer) e dx (rawInt L) h' → s.heap.UpToSlots h' → Q () { s with heap := h' }) : wpAny M A (noteFrame (.ref e) env) Q E s := by
  obtain ⟨y1, y2, y3, oe, vs, T, oT, ts, he, ⟨hc, hdx⟩, hd, h1, nT, Te, hT, dT, h3⟩ := y
  unfold noteFrame
  simp only [hf]
  refine wpAny_bind (wpAny_field he hd h1 ?_)
  rw [if_pos (show (Value.ref T != Value.none) = true from by simp)]
  refine wpAny_bind (wpAny_field hT dT h3 ?_)
  rw [if_neg (show ¬ ((Value.none == rawInt L) = true) from by simp [rawInt])]
  refine wpAny_bind (wpAny_setField hT dT (Array.getElem?_eq_some_iff.mp h3).1 ?_)
  have oth : ∀ b, b ≠ T → (s.heap.update T (Obj.mapFields (·.setIfInBounds 3 .none))).get? b = s.heap.get? b := fun b hb => Heap.get?_update_other _ _ (Ne.symm hb)
  have nr : ∀ b o, s.heap.get? b = some o → (∀ ws, o.data ≠ .fields ws) → b ≠ T := fun b o hb hn z => by rw [z, hT] at hb; cases hb; exact hn ts dT
  refine entryD hfr (y3.of_keeps fun b o hb hn => ⟨o, (oth b (nr b o hb hn)).trans hb, rfl⟩) hf ((oth e (Ne.symm Te)).trans he)
    (fun b o q => (oth b fun z => by rw [z, nT] at q; cases q).trans (y1 b o q)) y2 hd (Array.getElem?_eq_some_iff.mp h1).1 hc hdx fun h' z1 z2 => h h' z1 fun b o hb hn => z2 b o ((oth b (nr b o hb hn)).trans hb) hn

theorem landD {base : Heap} {l : List Env} {e dx : Addr} {fl : Value} {Q : Unit → Shared → Prop} (y : FlyD base l e dx fl s.heap)
    (h : ∀ h', FlyD base l e dx .none h' → s.heap.UpToSlots h' → Q () { s with heap := h' }) : wpAny M A (setFlight (.ref e) none) Q E s := by
  obtain ⟨y1, y2, y3, oe, vs, T, oT, ts, he, hcd, hd, h1, nT, Te, hT, dT, h3⟩ := y
  have oth : ∀ b, b ≠ T → (s.heap.update T (Obj.mapFields (·.setIfInBounds 3 ((none : Option Addr).elim Value.none fun f => rawInt f)))).get? b = s.heap.get? b := fun b hb => Heap.get?_update_other _ _ (Ne.symm hb)
  have nr : ∀ b o, s.heap.get? b = some o → (∀ ws, o.data ≠ .fields ws) → b ≠ T := fun b o hb hn z => by rw [z, hT] at hb; cases hb; exact hn ts dT
  unfold setFlight
  refine wpAny_bind (wpAny_field he hd h1 ?_)
  rw [if_pos (show (Value.ref T != Value.none) = true from by simp)]
  refine wpAny_setField hT dT (Array.getElem?_eq_some_iff.mp h3).1 (h _ ⟨fun b o q => (oth b fun z => by rw [z, nT] at q; cases q).trans (y1 b o q), y2, y3.of_keeps fun b o hb hn => ⟨o, (oth b (nr b o hb hn)).trans hb, rfl⟩, ?_⟩
    fun b o hb hn => ⟨o.slots, (oth b (nr b o hb hn)).trans hb⟩)
  have sz : 3 < ts.size := (Array.getElem?_eq_some_iff.mp h3).1
  exact ⟨oe, vs, T, _, _, (oth e (Ne.symm Te)).trans he, hcd, hd, h1, nT, Te, Heap.get?_update_self _ hT (Obj.isFreed_of_fields (Obj.data_mapFields dT _)), Obj.data_mapFields dT _, by simp [sz]⟩

theorem FlyD.tail {base h : Heap} {env : Env} {l : List Env} {e dx : Addr} {fl : Value} (y : FlyD base (env :: l) e dx fl h) : FlyD base l e dx fl h :=
  ⟨y.stays, y.eNew, y.frames.2.2, y.obj⟩
theorem FlyD.there {base h : Heap} {l : List Env} {e dx : Addr} {fl : Value} (y : FlyD base l e dx fl h) : ∃ oe vs, h.get? e = some oe ∧ oe.cls = .ref 34 ∧ oe.dict = some dx ∧ oe.data = .fields vs := by
  obtain ⟨_, _, _, oe, vs, _, _, _, he, ⟨hc, hdx⟩, hd, _⟩ := y
  exact ⟨oe, vs, he, hc, hdx, hd⟩
end


noncomputable abbrev numDict (w : World) (n : Int) (t1 : Tok) (told : Str) (t2 k1 k2 : Tok) : Obj :=
  dictOf [⟨PyData.keyHash w.params "number", .str "number" k1, .int n t1⟩, ⟨PyData.keyHash w.params "told", .str "told" k2, .str told t2⟩] 2
noncomputable abbrev excObj (dx t : Addr) : Obj := ⟨.ref 34, some dx, .fields #[.ref t, .none, .none, .none, .bool false, .none], #[]⟩

noncomputable def Boom (w : World) (base G : Heap) (l : List Env) (e : Addr) (n : Int) (news : List (Addr × Obj)) (h : Heap) : Prop :=
  ∃ B dx t1 told t2 k1 k2, base.StaysIn B ∧ (∀ b o, G.get? b = some o → b ∉ l.filterMap (·.frame) → B.get? b = some o) ∧
    (∀ q ∈ news, B.get? q.1 = some q.2 ∧ G.get? q.1 = none ∧ base.get? q.1 = none) ∧ FlyD B l e dx .none h ∧ B.get? dx = some (numDict w n t1 told t2 k1 k2)

theorem Boom.sub {w : World} {base G h : Heap} {l : List Env} {e : Addr} {n : Int} {news news' : List (Addr × Obj)} (b : Boom w base G l e n news h) (hs : ∀ p ∈ news', p ∈ news) : Boom w base G l e n news' h := by
  obtain ⟨B, dx, t1, told, t2, k1, k2, b1, b2, b3, b4, b5⟩ := b
  exact ⟨B, dx, t1, told, t2, k1, k2, b1, b2, fun q hq => b3 q (hs q hq), b4, b5⟩

section
variable {w : World} {M : Model} {A : Around} {E : Value → Shared → Prop} {s' : Shared} {base g g₂ : Heap} {outer : List Env} {L a e : Addr} {m : Str → Option Value} {name : Str} {scope : Scope} {cd : Value} {cl : List (Str × Addr)} {Q : Unit → Shared → Prop} {news news' : List (Addr × Obj)} {n : Int}

theorem pushX {h : Heap} (K : Below A base outer g) (F : Fr g L h m) (hk : scope.kind = .function) : Below (A.deeper (envX name scope L a cd cl)) base (envX name scope L a cd cl :: outer) h := by
  have hnew : base.get? L = none := by
    cases hq : base.get? L with
    | none => rfl
    | some o => exact absurd (Nat.lt_of_lt_of_le (Heap.lt_size (K.stays L o hq)) F.above) (Nat.lt_irrefl _)
  exact ⟨Around.frames_deeper K.stack, fun b o e => F.keep b o (K.stays b o e), .cons (by show scope.kind ≠ .module; rw [hk]; decide) rfl F.ns hnew (K.frames.of_keeps fun b o e _ => ⟨o, F.keep b o e, rfl⟩)⟩

theorem memX {b : Addr} (hm : b ∈ (envX name scope L a cd cl :: outer).filterMap (·.frame)) : b = L ∨ b ∈ outer.filterMap (·.frame) := by
  obtain ⟨env, he, hf⟩ := List.mem_filterMap.mp hm
  rcases List.mem_cons.mp he with rfl | he
  · exact .inl (Option.some.inj hf).symm
  · exact .inr (List.mem_filterMap.mpr ⟨env, he, hf⟩)

theorem leave_madeD {dx t : Addr} {t1 : Tok} {told : Str} {t2 k1 k2 : Tok} (K : Below A base outer g) (F : Fr g L s'.heap m) (N : News g L s'.heap news) (he : (e, excObj dx t) ∈ news) (hdx : (dx, numDict w n t1 told t2 k1 k2) ∈ news)
    (hs : ∀ p ∈ news', p ∈ news ∧ p.1 ≠ e)
    (hQ : ∀ h', Boom w base g outer e n news' h' → g.UpToSlots h' → Q () { s' with heap := h' }) (hk : scope.kind = .function := by rfl) :
    wpAny M (A.deeper (envX name scope L a cd cl)) (leaving (envX name scope L a cd cl) (.ref e)) Q E s' := by
  have K' := pushX (name := name) (a := a) (cd := cd) (cl := cl) K F hk
  have hide : List Addr := e :: (envX name scope L a cd cl :: outer).filterMap (·.frame)
  have heh := N.get he
  have inFrames : ∀ p ∈ news, p.1 ∉ (envX name scope L a cd cl :: outer).filterMap (·.frame) := fun p hp hm => by
    rcases memX hm with z | z
    · exact (N p hp).2.1 z
    · obtain ⟨o, ho, _⟩ := (K.frames.mem z).2
      rw [(N p hp).2.2] at ho; cases ho
  let B := hideAll s'.heap (e :: (envX name scope L a cd cl :: outer).filterMap (·.frame))
  have eG : g.get? e = none := N.fresh he
  have dxe : dx ≠ e := fun z => by
    have h1 := N.get hdx
    rw [z, heh] at h1
    cases h1
  have st : base.StaysIn B := fun b o q => hideAll_get _ (K'.stays b o q) fun hm => by
    rcases List.mem_cons.mp hm with z | z
    · rw [z, fresh_of_stays K.stays eG] at q; cases q
    · rw [(K'.frames.mem z).1] at q; cases q
  have eB : B.get? e = none := hideAll_none _ (.head _)
  have fr : s'.heap.FunFrames B (envX name scope L a cd cl :: outer) := funFrames_hide K'.frames fun env he b hb => .tail _ (List.mem_filterMap.mpr ⟨env, he, hb⟩)
  have BS : B.StaysIn s'.heap := fun b o q => of_hideAll _ q
  unfold leaving
  refine wpAny_bind (note_freshD K'.stack fr rfl heh BS eB rfl rfl rfl rfl fun h₁ y₁ u₁ => ?_)
  refine landD y₁ fun h₂ y₂ u₂ => ?_
  refine hQ h₂ ⟨B, dx, t1, told, t2, k1, k2, st, fun b o q nm => hideAll_get _ (F.keep b o q) fun hm => ?_, fun p hp => ?_, y₂.tail, hideAll_get _ (N.get hdx) fun hm => ?_⟩ ((Heap.UpToSlots.of_keeps F.keep).trans (u₁.trans u₂))
  · rcases List.mem_cons.mp hm with z | z
    · rw [z, eG] at q; cases q
    · rcases memX z with z | z
      · rw [z, kts_self F] at q; cases q
      · exact nm z
  · obtain ⟨h1, h2⟩ := hs p hp
    refine ⟨hideAll_get _ (N.get h1) fun hm => ?_, N.fresh h1, fresh_of_stays K.stays (N.fresh h1)⟩
    rcases List.mem_cons.mp hm with z | z
    · exact h2 z
    · exact inFrames p h1 z
  · rcases List.mem_cons.mp hm with z | z
    · exact dxe z
    · exact inFrames _ hdx z

theorem leave_onD (K : Below A base outer g) (F : Fr g L g₂ m) (R : Boom w base g₂ (envX name scope L a cd cl :: outer) e n news s'.heap) (hsm : g₂.UpToSlots s'.heap)
    (hQ : ∀ h', Boom w base g outer e n news h' → g.UpToSlots h' → Q () { s' with heap := h' }) :
    wpAny M (A.deeper (envX name scope L a cd cl)) (leaving (envX name scope L a cd cl) (.ref e)) Q E s' := by
  obtain ⟨B, dx, t1, told, t2, k1, k2, b1, b2, b3, b4, b5⟩ := R
  unfold leaving
  refine wpAny_bind (note_nextD (Around.frames_deeper K.stack) rfl b4 fun h₁ y₁ u₁ => ?_)
  refine landD y₁ fun h₂ y₂ u₂ => ?_
  exact hQ h₂ ⟨B, dx, t1, told, t2, k1, k2, b1, fun b o q nm => b2 b o (F.keep b o q) (fun hm => by
    rcases memX hm with z | z
    · rw [z, kts_self F] at q; cases q
    · exact nm z), fun p hp => ⟨(b3 p hp).1, kts_none F.keep (b3 p hp).2.1, (b3 p hp).2.2⟩, y₂.tail, b5⟩ ((Heap.UpToSlots.of_keeps F.keep).trans (hsm.trans (u₁.trans u₂)))
end

end
end Mine
namespace Mine
section
open PySem PySem.W PySem.Spec PySem.Calls PyProof.Rows PySem.W.X
noncomputable abbrev Led := List (Addr × Obj)
noncomputable abbrev rawExc (t : Addr) : Obj := ⟨.ref 34, none, .fields #[.ref t, .none, .none, .none, .bool false, .none], #[]⟩
noncomputable abbrev wrapObj (e : Addr) : Obj := { cls := .type "method-wrapper", data := .fields #[.builtin "Exception.__init__", .ref e] }

section
theorem reg0 : True := by
  k_with "m xc" => (refine ⟨_, _, _, rfl, rfl, ?_⟩; assumption)
  exact True.intro
local macro_rules | `(tactic| x_close) => `(tactic| k_extra "m xc")
set_option maxRecDepth 100000 in
set_option maxHeartbeats 8000000 in
theorem wrap_get0 (w : World) (A : Around) (t : Addr) (e : Addr) (E : Value → Shared → Prop) (h : Heap) (g : Array GenState) (d : Drawn) (tk : Nat) (os : OsState) (X : (mkK.heap_1 w.params).In h) (he : h.get? e = some ⟨.ref 34, none, .fields #[.ref t, .none, .none, .none, .bool false, .none], #[]⟩) :
   wpAny (model PySem.Challenge.rw_np0295_01.row.prog w) A (call (.builtin "wrapper_descriptor.__get__") [.builtin "Exception.__init__", .ref e, .ref 34])
     (fun v s' => ∃ q h' tk', v = .ref q ∧ s' = ⟨h', g, d, tk', os⟩ ∧ Mem h h' [] [(q, wrapObj e)]) E ⟨h, g, d, tk, os⟩ := by
  x_run
end

theorem slot_wd_get : Slot "wrapper_descriptor" "__get__" "wrapper_descriptor.__get__" := .of (owner := "wrapper_descriptor") (n := "__get__") (by rw [typeLookup_type, builtinLookup_eq_fast]; kernel_rfl) (by decide +kernel) (by decide +kernel) (by decide +kernel)
  (by first | exact .inl (by decide +kernel) | exact .inr (by decide +kernel)) (by rw [isSubtype_type]; kernel_rfl)

section
variable {w : World} {A : Around} {E : Value → Shared → Prop} {h : Heap} {g : Array GenState} {d : Drawn} {t : Nat} {os : OsState}

set_option maxRecDepth 100000 in
theorem sup_ga {K : Frag} {l l₀ : List Value} {name : Str} {bid : String} {so e C : Addr} {tk : Tok} {Q : Fin → Shared → Prop} (X : K.In h)
    (hso : h.get? so = some { cls := .type "super", dict := none, data := .fields #[.ref C, .ref e, .ref C], slots := #[] }) (hne : e ≠ C)
    (hno : Looks (model PySem.Challenge.rw_np0295_01.row.prog w) h (opaqueClassAbove (.ref C)) none) (hC : Looks (model PySem.Challenge.rw_np0295_01.row.prog w) h (mroOf (.ref C)) l₀) (hl : (l₀.dropWhile (· != .ref C)).drop 1 = l)
    (hf : alongIn K name l = some (some (.builtin bid))) (hn : (name == ("__class__" : Str)) = false) (hbt : builtinType bid = pure (.type "wrapper_descriptor"))
    (hq : wpAny (model PySem.Challenge.rw_np0295_01.row.prog w) A (call (.builtin "wrapper_descriptor.__get__") [.builtin bid, .ref e, .ref C]) (fun v s' => Q (.done (.ret v)) s') E ⟨h, g, d, t, os⟩) :
    wpAny (model PySem.Challenge.rw_np0295_01.row.prog w) A (Builtin.«super.__getattribute__» ⟨[.ref so, .str name tk], []⟩) Q E ⟨h, g, d, t, os⟩ := by
  have hlk := slot_wd_get.lookup
  have hee : (Value.ref e == Value.ref C) = false := by simp [hne]
  have hdt : ({ cls := .type "super", dict := none, data := .fields #[.ref C, .ref e, .ref C], slots := #[] } : Obj).data = .fields #[.ref C, .ref e, .ref C] := rfl
  have f0 : (#[.ref C, .ref e, .ref C] : Array Value)[0]? = some (.ref C) := rfl
  have f1 : (#[.ref C, .ref e, .ref C] : Array Value)[1]? = some (.ref e) := rfl
  have f2 : (#[.ref C, .ref e, .ref C] : Array Value)[2]? = some (.ref C) := rfl
  unfold Builtin.«super.__getattribute__»
  repeat (first
    | (with_reducible refine wpAny_mono hq (fun v s' hv => ?_) (fun _ _ z => z))
    | (with_reducible refine wpAny_field hso hdt f0 ?_) | (with_reducible refine wpAny_field hso hdt f1 ?_) | (with_reducible refine wpAny_field hso hdt f2 ?_)
    | (with_reducible refine ks_wpAny_notOpaque hno ?_)
    | (with_reducible refine Looks.at hC ?_; rw [hl])
    | (refine ks_forIn_along X (fun _ _ => rfl) rfl ?_ hf)
    | (simp only [hn, hee, Bool.or_false, Bool.false_eq_true, if_false])
    | wp_step
    | dsimp only)
  all_goals exact hv

theorem sup_getMethod {K : Frag} {l l₀ : List Value} {name : Str} {pl : Sem Bool} {bid : String} {so e C : Addr} {Q : Value × List Value → Shared → Prop} (X : K.In h)
    (hso : h.get? so = some { cls := .type "super", dict := none, data := .fields #[.ref C, .ref e, .ref C], slots := #[] }) (hne : e ≠ C)
    (hno : Looks (model PySem.Challenge.rw_np0295_01.row.prog w) h (opaqueClassAbove (.ref C)) none) (hC : Looks (model PySem.Challenge.rw_np0295_01.row.prog w) h (mroOf (.ref C)) l₀) (hl : (l₀.dropWhile (· != .ref C)).drop 1 = l)
    (hf : alongIn K name l = some (some (.builtin bid))) (hn : (name == ("__class__" : Str)) = false) (hbt : builtinType bid = pure (.type "wrapper_descriptor"))
    (hq : wpAny (model PySem.Challenge.rw_np0295_01.row.prog w) A.in1 (call (.builtin "wrapper_descriptor.__get__") [.builtin bid, .ref e, .ref C]) (fun v s' => ∃ q, v = .ref q ∧ Q (v, []) s') (fun _ _ => False) ⟨h, g, d, t + 1, os⟩) :
    wpAny (model PySem.Challenge.rw_np0295_01.row.prog w) A (getMethod (.ref so) name pl) Q E ⟨h, g, d, t, os⟩ := by
  have hlk := F.ks_slot_super_ga.lookup
  have hT : ∀ t', (⟨h, g, d, t', os⟩ : Shared).TypeIs (.ref so) "super" := fun _ => ⟨_, hso, rfl⟩
  unfold getMethod
  refine wpAny_bind (wpAny_specialOf (hT _) hlk ?_)
  show wpAny _ _ (if (Manifest.canonical "super.__getattribute__" != "object.__getattribute__") = true then _ else _) _ _ _
  rw [if_pos F.ks_canon_super_ga]
  unfold getAttr getAttrBy
  refine wpAny_bind (wpAny_bind (wpAny_mkText (wpAny_holding (wpAny_bind (wpAny_typeOf (hT _) (wpAny_bind (wpAny_of_eq hlk ?_)))))))
  show wpAny _ _ (getAttrByItsOwn (.ref so) (.str name t) (.type "super") (.builtin "super.__getattribute__") true false) _ _ _
  unfold getAttrByItsOwn hookBefore callGetattribute boundAndCalled
  refine wpAny_bind (wpAny_of_eq (show (if onTheHeap (.type "super") then typeLookup (.type "super") "__getattr__" else pure none) = pure none from rfl) ?_)
  refine wpAny_bind (wpAny_attempt (wpAny_holding ?_))
  show wpAny _ _ (bindSpecial (.builtin "super.__getattribute__") (.ref so) >>= _) _ _ _
  refine wpAny_bind (wpAny_of_eq (F.ks_slot_super_ga.bind _) ?_)
  refine wpAny_mono (Q := fun v s' => ∃ q, v = .ref q ∧ Q (v, []) s') (E := fun _ _ => False)
    (wpAny_call_entry F.ks_slot_super_ga (hT _) F.ks_entry_super_ga (sup_ga X hso hne hno hC hl hf hn hbt (wpAny_mono hq (fun v s' hv => ⟨_, rfl, hv⟩) fun _ _ z => z)) (F.ks_gaArgs_super _ _)) (fun v s' hv => ?_) fun _ _ z => z.elim
  obtain ⟨q, rfl, hv⟩ := hv
  exact wpAny_pure (wpAny_pure hv)
end

end
end Mine
namespace Mine
section
open PySem PySem.W PySem.Spec PySem.Calls PyProof.Rows PySem.W.X
section
variable {w : World} {A : Around} {E : Value → Shared → Prop} {h : Heap} {g : Array GenState} {d : Drawn} {t : Nat} {os : OsState}

theorem keeper_wrap {M : Model} {q e : Addr} {Q : Keeper → Shared → Prop} (hq : h.get? q = some (wrapObj e)) (k : Q .machine ⟨h, g, d, t, os⟩) : wpAny M A (keeperOf (.ref q)) Q E ⟨h, g, d, t, os⟩ := by
  unfold keeperOf
  refine wpAny_bind (wpAny_load hq ?_)
  exact wpAny_pure k

noncomputable def swapTup (h : Heap) (e : Addr) (xs : List Value) : Heap := (h.push { cls := .type "tuple", data := .seq xs.toArray }).update e (Obj.mapFields (·.setIfInBounds 0 (.ref h.objs.size)))

theorem swap_e {h : Heap} {e t0 : Addr} {xs : List Value} (he : h.get? e = some (rawExc t0)) : (swapTup h e xs).get? e = some (rawExc h.objs.size) :=
  Heap.get?_update_self _ (Heap.get?_push_of_some _ he) rfl
theorem swap_keep {h : Heap} {e : Addr} {xs : List Value} (b : Addr) (o : Obj) (nb : b ≠ e) (hb : h.get? b = some o) : (swapTup h e xs).get? b = some o := by
  unfold swapTup
  rw [Heap.get?_update_other _ _ (Ne.symm nb)]
  exact Heap.get?_push_of_some _ hb

theorem wrap_call {nm qn : Str} {C N : Addr} {bs : List Value} {hdct : Bool} {sn : List Str} {sub : List Value} {ab : Bool} {col : Option Bool} {dd : Option Addr} {k0 k1 k2 k3 k5 : Option Value} {newId : String} {bm : List Value}
    {q e t0 : Addr} {oe : Obj} {x : Value} {Q : Value → Shared → Prop} (hbm : bm.contains (.type "Exception") = true) (hC : h.get? C = some (excClassObj nm qn C N bs bm hdct sn sub ab col dd k0 k1 k2 k3 k5 newId))
    (hq : h.get? q = some (wrapObj e)) (he : h.get? e = some oe) (hcls : oe.cls = .ref C) (hd : oe.data = .fields #[.ref t0, .none, .none, .none, .bool false, .none])
    (k : Q .none ⟨swapTup h e [x], g, d, t, os⟩) : wpAny (model PySem.Challenge.rw_np0295_01.row.prog w) A (call (.ref q) [x]) Q E ⟨h, g, d, t, os⟩ := by
  have FC := PySem.F.excBase_Exception
  have hcB : (Value.ref C :: bm).contains (.type "Exception") = true := by rw [List.contains_cons, hbm, Bool.or_true]
  have hshort := FC.noStar
  refine wpAny_call (codeAny_of_tree ?_)
  show wpAny _ _ (callAny (.ref q) _) _ _ _
  unfold callAny
  refine wpAny_bind (wpAny_load hq ?_)
  show wpAny _ _ (checkBoundCall "Exception.__init__" ⟨[.ref e, x], []⟩ >>= fun _ => again (.builtin "Exception.__init__" ⟨[.ref e, x], []⟩)) _ _ _
  refine wpAny_bind ?_
  unfold checkBoundCall
  simp only [FC.initRow, FC.initKind]
  rw [if_pos (by decide)]
  repeat (first | (with_reducible refine wpAny_loadPart_at he ?_; rw [hcls]) | with_reducible refine wpAny_loadPart_at hC ?_ | (with_reducible refine wpAny_isSubtype_exc hC ?_; rw [hcB]) | wp_step)
  refine ⟨plainId_quiet FC.init.plain _, codeAny_builtin FC.initEntry ?_⟩
  rw [Around.under_plainId FC.init.plain _]
  unfold Builtin.«BaseException.__init__»
  have he2 := Heap.get?_push_of_some { cls := .type "tuple", data := .seq [x].toArray } he
  have h0 : (#[Value.ref t0, .none, .none, .none, .bool false, .none] : Array Value)[0]? = some (.ref t0) := rfl
  repeat (first | (with_reducible refine wpAny_newObj_type ?_ (by size_fits)) | (with_reducible refine wpAny_field he2 hd h0 ?_) | (with_reducible refine wpAny_setField he2 hd (by decide) ?_) | wp_step)
  rw [hd]
  show wpAny _ _ (if 0 < (#[Value.ref t0, .none, .none, .none, .bool false, .none] : Array Value).size then _ else _) _ _ _
  rw [if_pos (show 0 < (#[Value.ref t0, .none, .none, .none, .bool false, .none] : Array Value).size from by simp)]
  refine wpAny_update he2 ?_
  unfold letGo
  refine wpAny_bind (wpAny_holding (wpAny_point ?_))
  unfold letGo
  refine wpAny_pure (wpAny_pure ?_)
  exact k
end

end
end Mine
namespace Mine
section
open PySem PySem.W PySem.Spec PySem.Calls PyProof.Rows PySem.W.X PySem.Builtin PySem.Builtin.ObjectAttr
section
variable {prog : Program} {w : World} {A : Around} {E : Value → Shared → Prop} {s : Shared} {K : Frag} {C e : Addr} {cd : ClassData} {ox : Obj} {od : Option Obj} {name : Str} {v : Value} {R : Result → Shared → Prop}

theorem refuse_exc (self : Value) : refuseLoop self "__setattr__" [.type "Exception", .type "BaseException", .type "object"] = pure () := by kernel_rfl

theorem osa_exc {tk : Tok} (X : K.In s.heap) (I : InstAt s.heap e ox C od) (hc : clsIn K C = some cd) (hm : cd.mro = [.ref C, .type "Exception", .type "BaseException", .type "object"]) (hn : findIn K (.ref C) name = some none)
    (h : ∀ b, wpAny (model prog w) A.in1 (storeInOwnDict (.ref e) (.ref C) (.str name tk) name v b)
      (fun fin s' => match fin with | .done f => R (.ok f) s' | .again c' => c'.quiet = true ∧ codeAny (model prog w) A c' R s') (fun e s' => R (.error e) s') s) :
    codeAny (model prog w) A (.call (.builtin "object.__setattr__") ⟨[.ref e, .str name tk, v], []⟩) R s := by
  have SF := PySem.F.store_object
  have ne : cd.mro.isEmpty = false := by rw [hm]; rfl
  have sub : Looks (model prog w) s.heap (isInstance (.ref e) (.type "object")) true := I.type.andThen (looks_mroIn X (by unfold mroIn; rw [hc, Option.bind_some, if_neg (by rw [ne]; decide), hm]; rfl))
  refine codeAny_call_builtin SF.slot.plain SF.entry (@check_slot (model prog w) _ _ s "object.__setattr__" "object" "__setattr__" (.ref e) [.str name tk, v] [] _ SF.kind SF.split sub (SF.args (.ref e) (.str name tk) v) ?_)
  have hmr : Looks (model prog w) s.heap (mroOf (.ref C)) cd.mro := (looks_clsIn X hc).andThen .now
  rw [osa_eq, refuse_eq]
  refine wpAny_bind (wpAny_bind (I.type.here (wpAny_bind (hmr.here ?_))))
  rw [hm, refuseLoop_ref, refuse_exc]
  refine wpAny_pure (wpAny_bind (I.type.here (wpAny_bind ((looks_findIn X hn).here ?_))))
  exact wpAny_bind (wpAny_pure (h _))

theorem putL_len (name : Str) (hs : Int) (k v : Value) : ∀ es : List DictEntry, (putL name hs k v es).length ≤ es.length + 1
  | [] => by simp [putL]
  | a :: r => by
    have ih := putL_len name hs k v r
    unfold putL
    split
    · simp
    · simp only [List.length_cons]; omega

theorem put_dict {tk : Tok} {es : List DictEntry} {n : Nat} {dx : Addr} (hdx : s.heap.get? dx = some (dictOf es n)) (hl : (lookIn name (dictOf es n)).isSome = true) (hz : es.length ≤ 1000)
    (h : ∀ h', h'.get? dx = some (dictOf (putL name (PyData.keyHash w.params name) (.str name s.toks) v es) (putN name es n)) → (∀ b o, b ≠ dx → s.heap.get? b = some o → h'.get? b = some o) → R (.ok (.ret .none)) { s with heap := h', toks := s.toks + 1 }) :
    wpAny (model prog w) A.in1 (storeInDict dx (.str name tk) name v)
      (fun fin s' => match fin with | .done f => R (.ok f) s' | .again c' => c'.quiet = true ∧ codeAny (model prog w) A c' R s') (fun e s' => R (.error e) s') s := by
  have hu := Heap.get?_update_self (Obj.putName name (PyData.keyHash w.params name) (.str name s.toks) v) hdx (by rw [putName_dict]; rfl)
  rw [putName_dict] at hu
  refine wpAny_bind (wpAny_pure (wpAny_bind ?_))
  unfold nsSet
  refine wpAny_bind (wpAny_bind (wpAny_askSetting (wpAny_pure (wpAny_bind (wpAny_mkText (wpAny_bind (wpAny_loadPart hdx ?_)))))))
  unfold lookIn at hl
  split at hl
  · rename_i es₀ n₀ q
    have q' : (dictOf es n).data = .dict es.toArray n := rfl
    rw [q'] at q
    cases q
    dsimp only
    have c : (!es.toArray.any (·.key.isStr name) && es.toArray.any (·.refKey)) = false := by
      split at hl
      · rename_i en he
        rw [← Array.any_toList, List.any_eq_true.mpr ⟨en, List.mem_of_find?_eq_some he, List.find?_some he⟩]; rfl
      · split at hl
        · cases hl
        · rename_i z; rw [Bool.not_eq_true] at z; rw [← Array.any_toList, ← Array.any_toList, z, Bool.and_false]
    rw [aRefKeyMayBeTheName_at, c]
    refine wpAny_updatePart hdx ?_
    refine wpAny_bind (wpAny_lookBehind hu (pastItsLine_dict ?_) (wpAny_pure (h _ hu fun b o nb hb => (Heap.get?_update_other _ _ (Ne.symm nb)).trans hb)))
    rw [List.size_toArray, sizeLine_eq]
    have := putL_len name (PyData.keyHash w.params name) (.str name s.toks) v es
    omega
  · rename_i q; exact absurd rfl (q es.toArray n)

theorem own_dict_new {vs : Array Value} {sl : Array (Option Value)} {tk : Tok} {b : Bool} (X : K.In s.heap) (hc : clsIn K C = some cd) (hd : cd.hasDict = true) (he : s.heap.get? e = some ⟨.ref C, none, .fields vs, sl⟩)
    (h : ∀ h', h'.get? e = some ⟨.ref C, some s.heap.objs.size, .fields vs, sl⟩ → h'.get? s.heap.objs.size = some (dictOf [⟨PyData.keyHash w.params name, .str name s.toks, v⟩] 1) → (∀ b o, b ≠ e → s.heap.get? b = some o → h'.get? b = some o) →
      R (.ok (.ret .none)) { s with heap := h', toks := s.toks + 1 }) :
    wpAny (model prog w) A.in1 (storeInOwnDict (.ref e) (.ref C) (.str name tk) name v b)
      (fun fin s' => match fin with | .done f => R (.ok f) s' | .again c' => c'.quiet = true ∧ codeAny (model prog w) A c' R s') (fun e s' => R (.error e) s') s := by
  have he2 := Heap.get?_push_of_some { cls := .type "dict", data := .dict #[] } he
  have ne : s.heap.objs.size ≠ e := Nat.ne_of_gt (Heap.lt_size he)
  refine wpAny_bind (wpAny_pure (wpAny_bind (wpAny_bind (wpAny_loadPart he (wpAny_bind ((looks_clsIn X hc).here ?_))))))
  rw [hd]
  refine wpAny_bind (wpAny_alloc (wpAny_bind (wpAny_update he2 ?_)))
  refine wpAny_pure (a := some s.heap.objs.size) ?_
  have hD : ((s.heap.push { cls := .type "dict", data := .dict #[] }).update e fun o => { o with dict := some s.heap.objs.size }).get? s.heap.objs.size = some (dictOf [] 0) := by
    rw [Heap.get?_update_other _ _ (Ne.symm ne)]; exact Heap.get?_push_size _ rfl
  refine put_dict (dx := s.heap.objs.size) (es := []) (n := 0) (s := ⟨_, _, _, _, _⟩) hD rfl (by decide) fun h' h1 h2 => ?_
  refine h h' (h2 _ _ (Ne.symm ne) ?_) h1 fun b o nb hb => h2 b o (Nat.ne_of_lt (Heap.lt_size hb)) ?_
  · exact Heap.get?_update_self _ he2 rfl
  · rw [Heap.get?_update_other _ _ (Ne.symm nb)]; exact Heap.get?_push_of_some _ hb

theorem own_dict_old {vs : Array Value} {sl : Array (Option Value)} {tk : Tok} {b : Bool} {dx : Addr} {es : List DictEntry} {n : Nat} (X : K.In s.heap) (hc : clsIn K C = some cd) (hd : cd.hasDict = true) (he : s.heap.get? e = some ⟨.ref C, some dx, .fields vs, sl⟩)
    (hdx : s.heap.get? dx = some (dictOf es n)) (hl : (lookIn name (dictOf es n)).isSome = true) (hz : es.length ≤ 1000)
    (h : ∀ h', h'.get? dx = some (dictOf (putL name (PyData.keyHash w.params name) (.str name s.toks) v es) (putN name es n)) → (∀ b o, b ≠ dx → s.heap.get? b = some o → h'.get? b = some o) → R (.ok (.ret .none)) { s with heap := h', toks := s.toks + 1 }) :
    wpAny (model prog w) A.in1 (storeInOwnDict (.ref e) (.ref C) (.str name tk) name v b)
      (fun fin s' => match fin with | .done f => R (.ok f) s' | .again c' => c'.quiet = true ∧ codeAny (model prog w) A c' R s') (fun e s' => R (.error e) s') s := by
  refine wpAny_bind (wpAny_pure (wpAny_bind (wpAny_bind (wpAny_loadPart he (wpAny_bind ((looks_clsIn X hc).here ?_))))))
  rw [hd]
  refine wpAny_pure (a := some dx) ?_
  exact put_dict hdx hl hz h

theorem set_new {Q : Unit → Shared → Prop} {vs : Array Value} {sl : Array (Option Value)} (X : K.In s.heap) (hs : findIn K (.ref C) "__setattr__" = some (some (.builtin "object.__setattr__"))) (hc : clsIn K C = some cd)
    (hm : cd.mro = [.ref C, .type "Exception", .type "BaseException", .type "object"]) (hd : cd.hasDict = true) (hn : findIn K (.ref C) name = some none) (he : s.heap.get? e = some ⟨.ref C, none, .fields vs, sl⟩)
    (h : ∀ h', h'.get? e = some ⟨.ref C, some s.heap.objs.size, .fields vs, sl⟩ → h'.get? s.heap.objs.size = some (dictOf [⟨PyData.keyHash w.params name, .str name (s.toks + 1), v⟩] 1) → (∀ b o, b ≠ e → s.heap.get? b = some o → h'.get? b = some o) →
      Q () { s with heap := h', toks := s.toks + 2 }) : wpAny (model prog w) A (setAttr (.ref e) name v) Q E s := by
  have I : InstAt s.heap e ⟨.ref C, none, .fields vs, sl⟩ C none := ⟨he, rfl, rfl, trivial⟩
  refine set_plain X I hs ?_
  refine osa_exc (s := { s with toks := s.toks + 1 }) (R := fun r s' => match r with | .ok (.ret _) => Q () s' | .ok _ => False | .error e => E e s') X I hc hm hn fun b => ?_
  exact own_dict_new (s := { s with toks := s.toks + 1 }) (R := fun r s' => match r with | .ok (.ret _) => Q () s' | .ok _ => False | .error e => E e s') X hc hd he h

theorem set_old {Q : Unit → Shared → Prop} {vs : Array Value} {sl : Array (Option Value)} {dx : Addr} {es : List DictEntry} {n : Nat} (X : K.In s.heap) (hs : findIn K (.ref C) "__setattr__" = some (some (.builtin "object.__setattr__"))) (hc : clsIn K C = some cd)
    (hm : cd.mro = [.ref C, .type "Exception", .type "BaseException", .type "object"]) (hd : cd.hasDict = true) (hn : findIn K (.ref C) name = some none) (he : s.heap.get? e = some ⟨.ref C, some dx, .fields vs, sl⟩)
    (hdx : s.heap.get? dx = some (dictOf es n)) (hl : (lookIn name (dictOf es n)).isSome = true) (hz : es.length ≤ 1000)
    (h : ∀ h', h'.get? dx = some (dictOf (putL name (PyData.keyHash w.params name) (.str name (s.toks + 1)) v es) (putN name es n)) → (∀ b o, b ≠ dx → s.heap.get? b = some o → h'.get? b = some o) → Q () { s with heap := h', toks := s.toks + 2 }) :
    wpAny (model prog w) A (setAttr (.ref e) name v) Q E s := by
  have I : InstAt s.heap e ⟨.ref C, some dx, .fields vs, sl⟩ C (some (dictOf es n)) := ⟨he, rfl, rfl, hdx⟩
  refine set_plain X I hs ?_
  refine osa_exc (s := { s with toks := s.toks + 1 }) (R := fun r s' => match r with | .ok (.ret _) => Q () s' | .ok _ => False | .error e => E e s') X I hc hm hn fun b => ?_
  exact own_dict_old (s := { s with toks := s.toks + 1 }) (R := fun r s' => match r with | .ok (.ret _) => Q () s' | .ok _ => False | .error e => E e s') X hc hd he hdx hl hz h
end

end
end Mine
namespace Mine
section
open PySem PySem.W PySem.Spec PySem.Calls PyProof.Rows PySem.W.X PySem.Builtin PySem.Builtin.ObjectAttr
theorem fr_change {g h h' : Heap} {L e : Addr} {m : Str → Option Value} (F : Fr g L h m) (hg : g.get? e = none) (hL : e ≠ L) (k : ∀ b o, b ≠ e → h.get? b = some o → h'.get? b = some o) : Fr g L h' m := by
  obtain ⟨oL, es, ep, a, r⟩ := F.ns
  exact ⟨⟨oL, es, ep, k _ _ (Ne.symm hL) a, r⟩, fun b o q => k b o (fun z => by rw [z, hg] at q; cases q) (F.keep b o q), F.above⟩
theorem news_change {g h h' : Heap} {L e : Addr} {o o' : Obj} {rest : Led} (N : News g L h ((e, o) :: rest)) (hne : ∀ p ∈ rest, p.1 ≠ e) (h1 : h'.get? e = some o') (k : ∀ b ob, b ≠ e → h.get? b = some ob → h'.get? b = some ob) : News g L h' ((e, o') :: rest) := by
  intro p hp
  rcases List.mem_cons.mp hp with rfl | hp
  · exact ⟨h1, (N _ (.head _)).2⟩
  · exact ⟨k _ _ (hne p hp) (N _ (.tail _ hp)).1, (N _ (.tail _ hp)).2⟩
theorem news_add {g h : Heap} {L q : Addr} {o : Obj} {news : Led} (N : News g L h news) (hq : h.get? q = some o) (hL : q ≠ L) (hg : g.get? q = none) : News g L h ((q, o) :: news) := by
  intro p hp
  cases List.mem_cons.mp hp with
  | inl e => subst e; exact ⟨hq, hL, hg⟩
  | inr hp => exact N _ hp
theorem mem_keep {h h' : Heap} {news : Led} (D : X.Mem h h' [] news) : ∀ b o, h.get? b = some o → h'.get? b = some o := fun b o e => D.keep b o e (by simp [away])
theorem fr_keep {g h h' : Heap} {L : Addr} {m : Str → Option Value} (F : Fr g L h m) (k : ∀ b o, h.get? b = some o → h'.get? b = some o) : Fr g L h' m := by
  obtain ⟨oL, es, ep, a, r⟩ := F.ns
  exact ⟨⟨oL, es, ep, k _ _ a, r⟩, fun b o q => k b o (F.keep b o q), F.above⟩
theorem news_keep {g h h' : Heap} {L : Addr} {news : Led} (N : News g L h news) (k : ∀ b o, h.get? b = some o → h'.get? b = some o) : News g L h' news := fun p hp => ⟨k _ _ (N p hp).1, (N p hp).2⟩
theorem fr_fresh {g h : Heap} {L q : Addr} {m : Str → Option Value} (F : Fr g L h m) (hq : h.get? q = none) : q ≠ L ∧ g.get? q = none := by
  obtain ⟨oL, es, ep, a, r⟩ := F.ns
  refine ⟨fun z => (by rw [z, a] at hq; cases hq), ?_⟩
  cases z : g.get? q with
  | none => rfl
  | some o => rw [F.keep _ _ z] at hq; cases hq


set_option maxRecDepth 100000 in
set_option maxHeartbeats 8000000 in
theorem cls34 (P : Params) : ∃ cd, clsIn (mkK.heap_1 P) 34 = some cd ∧ cd.mro = [.ref 34, .type "Exception", .type "BaseException", .type "object"] ∧ cd.hasDict = true := ⟨_, by k_is, rfl, rfl⟩
set_option maxRecDepth 100000 in
set_option maxHeartbeats 8000000 in
theorem opq34 (P : Params) : nsIn (mkK.heap_1 P) cStatics "thirdparty.any" = some none := by k_is
theorem along34 (P : Params) : alongIn (mkK.heap_1 P) "__init__" [.type "Exception", .type "BaseException", .type "object"] = some (some (.builtin "Exception.__init__")) := by kernel_rfl
theorem wd34 : builtinType "Exception.__init__" = pure (.type "wrapper_descriptor") := by kernel_rfl
set_option maxRecDepth 100000 in
set_option maxHeartbeats 8000000 in
theorem set34 (P : Params) : findIn (mkK.heap_1 P) (.ref 34) "__setattr__" = some (some (.builtin "object.__setattr__")) := by k_is
set_option maxRecDepth 100000 in
set_option maxHeartbeats 8000000 in
theorem num34 (P : Params) : findIn (mkK.heap_1 P) (.ref 34) "number" = some none := by k_is
set_option maxRecDepth 100000 in
set_option maxHeartbeats 8000000 in
theorem told34 (P : Params) : findIn (mkK.heap_1 P) (.ref 34) "told" = some none := by k_is
theorem kts34 (P : Params) : ktsIn (mkK.heap_1 P) 34 "Exception" = true := by kernel_rfl

section
set_option maxRecDepth 100000 in
set_option maxHeartbeats 8000000 in
theorem exc_init (w : World) (A A₀ : Around) (env : Env) (outer : List Env) (base h₀ : Heap) (L : Addr) (m : Str → Option Value)
   (loose : List Str) (mean : ExcName → Option Value) (mg mb : Str → Option Value) (news : Led) (s : Shared) (R : Result → Shared → Prop) (n : Int) (t1 t2 : Tok) (told : Str) (e t : Addr)
   (B : Below A₀ base outer h₀) (F : Fr h₀ L s.heap m) (X : (mkK.heap_1 w.params).In h₀) (N : News h₀ L s.heap ((e, rawExc t) :: news)) (hne : ∀ p ∈ news, p.1 ≠ e) (T : Top topProg loose mean mg mb h₀)
   (hA : A.frames = some (env :: outer)) (hf : env.frame = some L) (hke : env.scope.kind = .function) (hroom : A.depth < recursionLimit)
   (ret : ∀ dx t' k1 k2 h' tk', Fr h₀ L h' m → News h₀ L h' ((dx, numDict w n t1 told t2 k1 k2) :: (e, excObj dx t') :: news) → (∀ p ∈ news, p.1 < dx) → e < dx → R (.ok (.ret .none)) { s with heap := h', toks := tk' }) :
   codeAny (model PySem.Challenge.rw_np0295_01.row.prog w) A (.call (.ref 31) ⟨[.ref e, .int n t1, .str told t2], []⟩) R s := by
  (refine' ks_code_super ?k1 ?k2 ?k3 ?k4 ?k5 ?kA ?kF ?kK ?k6 ?k7 ?k8 ?k9 ?kB ?_ ?c1 ?c2 ?c3 ?c4; (case kA => exact hA); (case kF => exact hf); (case kK => assumption); (case k1 => k_asm); (case k2 => k_asm); (case k3 => k_asm); (case k4 => k_asm); (case k5 => k_asm); (case k6 => k_is); (case k7 => k_is); (case k8 => exact hroom); (case k9 => exact binds_K (by k_in) rfl (by k_is) rfl rfl rfl); (case kB => exact locs rfl); (case c1 => decide); (case c2 => exact rfl); (case c3 => exact rfl); (case c4 => exact rfl); intro g' L' h' FG' F' N' B' X' T' l1; (try k_lt l1); (try dsimp only); (try k_lift B'))
  try k_fold
  have I' : InstAt h' e (rawExc t) 34 none := ⟨(N' _ (.head _)).1, rfl, rfl, trivial⟩
  k_steps
  (refine ks_node (by k_asm) (by k_asm) (by k_asm) (by k_asm) (by k_is) (by rfl) (by rfl) I' (by k_is) (by rfl) (by first | rfl | decide +kernel) (by k_is) (by k_is) (by k_is) (by k_is) (by decide) (by rfl) (by rfl) (by rfl) (by rfl) (by decide +kernel) (by first | boot_by_name | rfl | kernel_rfl) ?_; intro so' h'' F'' N'' l1'; (try k_lt l1'))
  have X'' : (mkK.heap_1 w.params).In h'' := X'.keeps F''.keep
  obtain ⟨cd, hc34, hm34, hd34⟩ := cls34 w.params
  have e34 : e ≠ 34 := fun z => by
    have h1 := (N' _ (.head _)).1
    rw [z] at h1
    have h2 : ∃ o, (mkK.heap_1 w.params).lookup 34 = some o ∧ o.cls = .type "type" := ⟨_, by k_is, rfl⟩
    obtain ⟨o, h3, h4⟩ := h2
    rw [(X'.keeps F'.keep) _ _ h3] at h1
    cases h1
    cases h4
  refine sup_getMethod X'' (N''.get (.head _)) e34 (looks_opaque X'' (opq34 _)) ((looks_clsIn X'' hc34).andThen .now) (by rw [hm34]; rfl) (along34 _) (by decide) wd34 ?_
  refine wpAny_mono (wrap_get0 w _ t e _ _ _ _ _ _ X'' (N''.get (.tail _ (.head _)))) (fun v s₃ hv => ?_) fun _ _ z => z
  obtain ⟨q, h3, tk3, rfl, rfl, D3⟩ := hv
  refine ⟨q, rfl, ?_⟩
  have k3 := mem_keep D3
  have F3 := fr_keep F'' k3
  have q3 := D3.nw _ (.head _)
  have N3 := news_add (news_keep N'' k3) q3.1 (fr_fresh F'' q3.2).1 (fr_fresh F'' q3.2).2
  dsimp only
  have ne3 : q ≠ e := fun z => by rw [z, N''.get (.tail _ (.head _))] at q3; cases q3.2
  have hk3 : ∀ h, h.get? q = some (wrapObj e) → ∃ k, (k = Keeper.frame ∨ k = Keeper.machine ∨ k = Keeper.boundFrame) ∧ Looks (model PySem.Challenge.rw_np0295_01.row.prog w) h (keeperOf (.ref q)) k := fun h hP => ⟨.machine, .inr (.inl rfl), (Looks.ld (part := none) hP).andThen .now⟩
  refine callWith_of (P := fun h => h.get? q = some (wrapObj e)) rfl hk3 (evalArgs_plain ?_)
  refine Calls.spliced_cons ?_
  rw [if_neg (by decide)]
  k_steps
  · exact q3.1
  obtain ⟨nm, qn, NN, bs, bm, hdct, sn, sub, ab, col, dd, k0, k1, k2, k3', k5, newId, hC, hbase, hbT⟩ := kts_cls (X'.keeps F3.keep) (kts34 w.params)
  have he3 : h3.get? e = some (rawExc t) := k3 _ _ (N''.get (.tail _ (.head _)))
  refine wrap_call (oe := rawExc t) hbT hC q3.1 he3 rfl rfl ?_
  have he4 := swap_e (xs := [.str "error" tk3]) he3
  have k4 := fun b o nb hb => swap_keep (h := h3) (e := e) (xs := [.str "error" tk3]) b o nb hb
  generalize swapTup h3 e [.str "error" tk3] = h4 at he4 k4 ⊢
  have eL : e ≠ L' := (N'.get (.head _) |> fun _ => (N' _ (.head _)).2.1)
  have F4 := fr_change F3 (N' _ (.head _)).2.2 eL k4
  have N4 : News g' L' h4 ((e, rawExc h3.objs.size) :: news) := news_change (o := rawExc t) (h := h3) (fun p hp => N3 p (.tail _ (.tail _ hp))) (fun p hp => hne p hp) he4 k4
  clear he4 k4 he3 hk3 ne3 N3 q3 F3 k3 D3 N'' F'' X'' I' N' F' hC
  generalize h3.objs.size = t4 at N4
  k_steps
  have X4 := X'.keeps F4.keep
  refine set_new (cd := cd) X4 (set34 _) hc34 hm34 hd34 (num34 _) (N4.get (.head _)) fun h5 a1 a2 a3 => ?_
  dsimp only at a1 a2 a3 ⊢
  have eh4 := Heap.lt_size (N4.get (.head _))
  have lt4 : ∀ p ∈ news, p.1 < h4.objs.size := fun p hp => Heap.lt_size (N4.get (.tail _ hp))
  have fresh4 : h4.get? h4.objs.size = none := Heap.get?_none_of_le (Nat.le_refl _)
  have ff4 := fr_fresh F4 fresh4
  have F5 := fr_change F4 (N4 _ (.head _)).2.2 eL a3
  have N5 : News g' L' h5 ((e, excObj h4.objs.size t4) :: news) := news_change N4 (fun p hp => hne p hp) a1 a3
  have N5' := news_add N5 a2 ff4.1 ff4.2
  clear N5 a1 a2 a3 N4 F4 X4 fresh4
  generalize h4.objs.size = dx at *
  k_steps
  have X5 := X'.keeps F5.keep
  refine set_old (cd := cd) X5 (set34 _) hc34 hm34 hd34 (told34 _) (N5'.get (.tail _ (.head _))) (N5'.get (.head _)) rfl (by simp) fun h6 a1 a2 => ?_
  dsimp only at a2 ⊢
  have a1 : h6.get? dx = some (numDict w n t1 told t2 _ _) := a1
  have dL : dx ≠ L' := (N5' _ (.head _)).2.1
  have F6 := fr_change F5 (N5' _ (.head _)).2.2 dL a2
  have N6 : News g' L' h6 ((dx, numDict w n t1 told t2 _ _) :: (e, excObj dx t4) :: news) := news_change N5' (fun p hp => by
    rcases List.mem_cons.mp hp with rfl | hp
    · exact Nat.ne_of_lt eh4
    · exact Nat.ne_of_lt (lt4 p hp)) a1 a2
  clear a1 a2 N5' F5 X5
  k_steps
  exact ret dx t4 _ _ _ _ (by k_asm) (by k_asm) lt4 eh4
end

end
end Mine
namespace Mine
section
open PySem PySem.W PySem.Spec PySem.Calls PyProof.Rows PySem.W.X
theorem in_of {K : Frag} {h : Heap} {a : Addr} {o : Obj} {P : Obj → Prop} (X : K.In h) (e : K.lookup a = some o) (hp : P o) : ∃ o, h.get? a = some o ∧ P o := ⟨o, X _ _ e, hp⟩
set_option maxRecDepth 100000 in
set_option maxHeartbeats 8000000 in
theorem ns34 {P : Params} {h : Heap} (X : (mkK.heap_1 P).In h) : ∃ mN, h.Ns 33 mN ∧ mN "__init__" = some (.ref 31) := by
  have key : ∃ o, h.get? 33 = some o ∧ ∃ es ep, o.data = .dict es ep ∧ StrKeys es ∧ nsFind es "__init__" = some (.ref 31) := by
    refine' in_of X ?h1 ?h2
    case h1 => k_is
    case h2 =>
      refine ⟨_, _, rfl, ?_, by kernel_rfl⟩
      intro en he
      simp only [List.mem_toArray, List.mem_cons, List.not_mem_nil, or_false] at he
      rcases he with rfl | rfl | rfl | rfl | rfl | rfl <;> exact ⟨_, _, rfl⟩
  obtain ⟨o, ho, es, ep, hd, hs, hi⟩ := key
  exact ⟨fun x => nsFind es x, ⟨o, es, ep, ho, hd, hs, fun _ => rfl⟩, hi⟩

set_option maxRecDepth 100000 in
set_option maxHeartbeats 8000000 in
theorem obj34 {P : Params} {h : Heap} (X : (mkK.heap_1 P).In h) : ∃ o, h.get? 34 = some o ∧ ∃ nm q bs hdct sn sub ab col dd k0 k1 k2 k3 k5, o = (excClassObj nm q 34 33 bs [.type "Exception", .type "BaseException", .type "object"] hdct sn sub ab col dd k0 k1 k2 k3 k5 "Exception.__new__") := by
  refine' in_of X ?h1 ?h2
  case h1 => k_is
  case h2 => exact ⟨_, _, _, _, _, _, _, _, _, _, _, _, _, _, rfl⟩

set_option maxRecDepth 100000 in
set_option maxHeartbeats 8000000 in
theorem fn31 {P : Params} {h : Heap} (X : (mkK.heap_1 P).In h) : ∃ o, h.get? 31 = some o ∧ o.cls = .type "function" := by
  refine' in_of X ?h1 ?h2
  case h1 => k_is
  case h2 => rfl

theorem under_frames (A : Around) (args : Args) : (A.under (.builtin "type.__call__" args)).frames = A.frames := by
  rfl

theorem exc_made (w : World) (A A₀ : Around) (env : Env) (outer : List Env) (base h₀ : Heap) (L : Addr) (m : Str → Option Value)
   (loose : List Str) (mean : ExcName → Option Value) (mg mb : Str → Option Value) (news : Led) (s : Shared) (Q E : Value → Shared → Prop) (n : Int) (t1 t2 : Tok) (told : Str)
   (B : Below A₀ base outer h₀) (F : Fr h₀ L s.heap m) (X : (mkK.heap_1 w.params).In h₀) (N : News h₀ L s.heap news) (T : Top topProg loose mean mg mb h₀)
   (hA : A.frames = some (env :: outer)) (hf : env.frame = some L) (hke : env.scope.kind = .function) (hroom : A.depth + 2 < recursionLimit)
   (ret : ∀ e dx t' k1 k2 h' tk', Fr h₀ L h' m → News h₀ L h' ((dx, numDict w n t1 told t2 k1 k2) :: (e, excObj dx t') :: news) → (∀ p ∈ news, p.1 ≠ e) → e < dx → Q (.ref e) { s with heap := h', toks := tk' }) :
   wpAny (model PySem.Challenge.rw_np0295_01.row.prog w) A (call (.ref 34) [.int n t1, .str told t2]) Q E s := by
  have Xs := X.keeps F.keep
  obtain ⟨oC, hC, nm, q, bs, hdct, sn, sub, ab, col, dd, k0, k1, k2, k3, k5, rfl⟩ := obj34 Xs
  obtain ⟨mN, hN, hi⟩ := ns34 Xs
  obtain ⟨oI, hfI, hfc⟩ := fn31 Xs
  obtain ⟨h, g, d, tk, os⟩ := s
  refine wpAny_call_exc_init PySem.F.excBase_Exception hC hN hi hfI hfc fun h' e M => ?_
  obtain ⟨t, te, tn, tt⟩ := M.there
  have F' := fr_keep F M.keeps
  have N' := news_add (news_keep N M.keeps) te (fr_fresh F M.new).1 (fr_fresh F M.new).2
  have lt : ∀ p ∈ news, p.1 ≠ e := fun p hp z => by
    have h1 := (N p hp).1
    rw [z, M.new] at h1; cases h1
  refine wpAny_call (exc_init w _ A₀ env outer base h₀ L m loose mean mg mb news ⟨h', g, d, tk, os⟩ _ n t1 t2 told e t B F' X N' lt T ((under_frames _ _).trans hA) hf hke (show A.depth + 1 < recursionLimit by omega) fun dx t' k1 k2 h2 tk2 F2 N2 l1 l2 => ?_)
  exact ⟨rfl, ret _ _ _ _ _ _ _ F2 N2 lt l2⟩

end
end Mine
namespace Mine
section
open PySem PySem.W PySem.Spec PySem.Calls PyProof.Rows PySem.W.X
section
variable {M : Model} {A : Around} {E : Value → Shared → Prop} {env : Env} {w : World}

theorem raise_stmt {s : Shared} {x : Sem Value} {Q : Flow → Shared → Prop} (hh : A.handled = none)
    (h : wpAny M A x (fun v s₁ => ∃ e dx t, v = .ref e ∧ s₁.heap.get? e = some (excObj dx t) ∧ (mkK.heap_1 w.params).In s₁.heap ∧ E (.ref e) s₁) E s) :
    wpAny M A (raiseStmt env (some x) none) Q E s := by
  unfold raiseStmt
  refine wpAny_bind (wpAny_mono h (fun v s₁ h₁ => ?_) fun _ _ x => x)
  obtain ⟨e, dx, t, rfl, he, X, hE⟩ := h₁
  obtain ⟨oC, hC, nm, q, bs, hdct, sn, sub, ab, col, dd, k0, k1, k2, k3, k5, rfl⟩ := obj34 X
  obtain ⟨hp, g, d, tk, os⟩ := s₁
  have hcB : (Value.ref 34 :: [.type "Exception", .type "BaseException", .type "object"]).contains (.type "BaseException") = true := by decide
  have h1 : (#[Value.ref t, .none, .none, .none, .bool false, .none] : Array Value)[1]? = some .none := rfl
  repeat (first | with_reducible refine wpAny_loadPart_at he ?_ | with_reducible refine wpAny_loadPart_at hC ?_ | (with_reducible refine wpAny_isSubtype_exc hC ?_; rw [hcB]) | wp_step)
  exact wpAny_raiseNew_none hh hE

noncomputable def RaisePost (w : World) (E : Value → Shared → Prop) (v : Value) (s : Shared) : Prop := ∃ e dx t, v = .ref e ∧ s.heap.get? e = some (excObj dx t) ∧ (mkK.heap_1 w.params).In s.heap ∧ E (.ref e) s

theorem raise_exec {s : Shared} {x : Expr} {pos : Pos} {Q : Flow → Shared → Prop} (hh : A.handled = none)
    (h : wpAny M A (PySem.eval x env) (RaisePost w E) E s) : wpAny M A (exec (.Raise (some x) none pos) env) Q E s := by
  rw [arm_exec_Raise]
  first
    | exact wpAny_bind (wpAny_standAt (raise_stmt hh (wpAny_bind (wpAny_mono h (fun v s₁ h₁ => wpAny_bind (wpAny_standAt (wpAny_pure h₁))) fun _ _ x => x))))
    | (simp only [evalOpt, Option.map]; exact wpAny_bind (wpAny_standAt (raise_stmt hh (wpAny_bind (wpAny_mono h (fun v s₁ h₁ => wpAny_bind (wpAny_standAt (wpAny_pure h₁))) fun _ _ x => x)))))
    | (show wpAny M A (do standAt pos; raiseStmt env (some (do let v ← PySem.eval x env; standAt pos; pure v)) none) Q E s; exact wpAny_bind (wpAny_standAt (raise_stmt hh (wpAny_bind (wpAny_mono h (fun v s₁ h₁ => wpAny_bind (wpAny_standAt (wpAny_pure h₁))) fun _ _ x => x)))))
end

noncomputable def Ctr (w : World) (k : Nat) (f : Addr) (args : List Value) (news : Led) (Ok : Value → Led → Prop) (Bad : Int → Prop) : Prop :=
  ∀ (dp un : Nat) (gd : Option (List Code)) (cn : Str) (cs : Scope) (a : Addr) (ccd : Value) (cl : List (Str × Addr)) (outer : List Env) (A₀ : Around) (base h₀ : Heap) (L : Addr) (m : Str → Option Value)
    (loose : List Str) (mean : ExcName → Option Value) (mg mb : Str → Option Value) (s : Shared) (Q E : Value → Shared → Prop),
    Below A₀ base outer h₀ → Fr h₀ L s.heap m → (mkK.heap_1 w.params).In h₀ → News h₀ L s.heap news → Top topProg loose mean mg mb h₀ → cs.kind = .function →
    dp + k < recursionLimit → un + 8 * k < cLine →
    (∀ r tl h' tk', Fr h₀ L h' m → News h₀ L h' (tl ++ news) → Ok r tl → Q r { s with heap := h', toks := tk' }) →
    (∀ g e n h' tk', Fr h₀ L g m → Boom w base g (envX cn cs L a ccd cl :: outer) e n news h' → g.UpToSlots h' → Bad n → E (.ref e) { s with heap := h', toks := tk' }) →
    wpAny (model PySem.Challenge.rw_np0295_01.row.prog w) (ktrTop dp un gd cn cs L a ccd cl outer) (call (.ref f) args) Q E s

theorem Ctr.use {w : World} {k : Nat} {f : Addr} {args : List Value} {news : Led} {Ok : Value → Led → Prop} {Bad : Int → Prop} (C : Ctr w k f args news Ok Bad)
    {dp un : Nat} {gd : Option (List Code)} {cn : Str} {cs : Scope} {a : Addr} {ccd : Value} {cl : List (Str × Addr)} {outer : List Env} {A₀ : Around} {base h₀ : Heap} {L : Addr} {m : Str → Option Value}
    {loose : List Str} {mean : ExcName → Option Value} {mg mb : Str → Option Value} {s : Shared} {Q E : Value → Shared → Prop}
    (B : Below A₀ base outer h₀) (F : Fr h₀ L s.heap m) (X : (mkK.heap_1 w.params).In h₀) (N : News h₀ L s.heap news) (T : Top topProg loose mean mg mb h₀) (hk : cs.kind = .function)
    (hd : dp + k < recursionLimit) (hu : un + 8 * k < cLine)
    (ret : ∀ r tl h' tk', Fr h₀ L h' m → News h₀ L h' (tl ++ news) → Ok r tl → Q r { s with heap := h', toks := tk' })
    (exc : ∀ g e n h' tk', Fr h₀ L g m → Boom w base g (envX cn cs L a ccd cl :: outer) e n news h' → g.UpToSlots h' → Bad n → E (.ref e) { s with heap := h', toks := tk' }) :
    wpAny (model PySem.Challenge.rw_np0295_01.row.prog w) (ktrTop dp un gd cn cs L a ccd cl outer) (call (.ref f) args) Q E s :=
  C _ _ _ _ _ _ _ _ _ _ _ _ _ _ _ _ _ _ _ _ _ B F X N T hk hd hu ret exc

end
end Mine
namespace Mine
section
open PySem PySem.W PySem.Spec PySem.Calls PyProof.Rows PySem.W.X

theorem ite_cf {c : Bool} {A B : Prop} {i : Decidable (c = true)} (h : c = false) (k : B) : @ite Prop (c = true) i A B := by rw [if_neg (by rw [h]; decide)]; exact k
theorem ite_ct {c : Bool} {A B : Prop} {i : Decidable (c = true)} (h : c = true) (k : A) : @ite Prop (c = true) i A B := by rw [if_pos h]; exact k
theorem rm1 {d K a k : Nat} (h : d + K < recursionLimit) (e : Nat.ble (a + k) K = true) : d + a + k < recursionLimit := by
  have := Nat.le_of_ble_eq_true e
  omega
theorem rm2 {u K a k : Nat} (h : u + K < cLine) (e : Nat.ble (a + k) K = true) : u + a + k < cLine := by
  have := Nat.le_of_ble_eq_true e
  omega
theorem ndrop {h₀ h : Heap} {L : Addr} {x : Addr × Obj} {news : Led} (N : News h₀ L h (x :: news)) : News h₀ L h news := fun p hp => N p (.tail _ hp)
theorem fits_t {P n : Int} (h : -(1 * P) ≤ n) : decide (n < 1 * P) = decide (-P ≤ n ∧ n < P) := by
  rw [Int.one_mul] at *; simp only [h, true_and]
theorem fits_f {P n : Int} (h : ¬ -(1 * P) ≤ n) : decide (-(1 * P) ≤ n) = decide (-P ≤ n ∧ n < P) := by
  rw [Int.one_mul] at *; simp only [h, false_and]
set_option maxRecDepth 100000 in
set_option maxHeartbeats 8000000 in
theorem c_fits (w : World) (n wd : Int) (t1 t2 : Tok) (h5 : 5 ≤ wd) (h40 : wd ≤ 40) (news : Led) :
   Ctr w 3 121 [.int n t1, .int wd t2] news (fun r tl => tl = [] ∧ r = .bool (decide (-(2 ^ (wd - 1).toNat) ≤ n ∧ n < 2 ^ (wd - 1).toNat))) (fun _ => False) := by
  intro dp un gd cn cs a ccd cl outer A₀ base h₀ L m loose mean mg mb s Q E B F X N T hk hd hu ret exc
  refine wpAny_call ?_
  k_dflt ktr_enter
  k_steps
  · exact ret _ [] _ _ (by k_asm) (by k_asm) ⟨rfl, congrArg Value.bool (fits_t (by assumption))⟩
  · exact ret _ [] _ _ (by k_asm) (by k_asm) ⟨rfl, congrArg Value.bool (fits_f (by assumption))⟩

end
end Mine
section
local macro_rules | `(tactic| walk_at $s:str) => do
  let t := Lean.Syntax.mkStrLit ("m " ++ s.getString)
  `(tactic| k_extra $t)
local macro_rules | `(tactic| k_mem) => `(tactic| k_extra "m mem")
local macro_rules | `(tactic| k_all) => `(tactic| k_extra "m all")
local macro_rules | `(tactic| ktr_room) => `(tactic| k_extra "m room")
local macro_rules | `(tactic| ktr_units) => `(tactic| k_extra "m units")
namespace Mine
section
theorem reg1 : True := by
  k_with_none
  k_with "m room" => (exact rm1 (by assumption) (by exact rfl))
  k_with "m units" => (exact rm2 (by assumption) (by exact rfl))
  k_with "m ctr" => (((case k1Z => k_asm); (case k2Z => k_asm); (case k3Z => k_asm); (case k4Z => k_asm); (case k5Z => k_asm); (case kKZ => first | exact rfl | assumption); (case kdZ => ktr_room); (case kuZ => ktr_units)))
  k_with "m exec Raise some none" => ((k_here; k_dflt (refine raise_exec (w := ‹World›) rfl ?_)))
  k_with "m RaisePost" => ((refine ⟨_, _, _, rfl, News.get (by k_asm) (List.Mem.tail _ (List.Mem.head _)), by k_in, ?_⟩))
  k_with "m call ref" => ((k_here; k_dflt ( (with_reducible show wpAny _ _ (call (Value.ref 34) _ _) _ _ _); refine' exc_made _ _ _ _ _ _ _ _ _ _ _ _ _ _ _ _ _ _ _ _ _ ?k1Z ?k2Z ?k3Z ?k4Z ?k5Z ?kAZ ?kFZ ?kKZ ?kRZ ?_; (case kAZ => exact rfl); (case k1Z => k_asm); (case k2Z => k_asm); (case k3Z => k_asm); (case k4Z => k_asm); (case k5Z => k_asm); (case kFZ => exact rfl); (case kKZ => first | exact rfl | assumption); (case kRZ => ktr_room); intro e9k d9k t9k k9k k9k' h9k tk9k F9k N9k ne9k lt9k; (try dsimp only))))
  k_with "m leaving" => ((k_here; k_dflt (first | (refine' leave_madeD ?k1Z ?k2Z ?k3Z (List.Mem.tail _ (List.Mem.head _)) (List.Mem.head _) ?k4Z ?_; (case k1Z => k_asm); (case k2Z => k_asm); (case k3Z => k_asm); (case k4Z => exact fun p hp => ⟨List.Mem.tail _ (List.Mem.tail _ hp), by solve_by_elim⟩); intro h9k B9k U9k) | (refine' leave_onD ?k1Z ?k2Z ?k3Z ?k4Z ?_; (case k1Z => k_asm); (case k2Z => k_asm); (case k3Z => k_asm); (case k4Z => k_asm); intro h9k B9k U9k))))
  k_with "m mem" => (first | exact List.mem_cons_self | (refine' List.mem_cons_of_mem _ ?_; k_mem))
  k_with "m news" => (first | with_reducible assumption | assumption | exact ndrop (by assumption) | exact ndrop (ndrop (by assumption)) | exact ndrop (ndrop (ndrop (by assumption))))
  k_with "m eval Call Name" => ((k_here; (fail_if_success (with_reducible show wpAny _ _ (eval (Expr.Call (Expr.Name "range" _) _ _ _) _) _ _ _)); k_dflt (refine Call_ ?_)))
  k_with "m boom" => (first | with_reducible assumption | exact Boom.sub (by assumption) (fun p hp => List.Mem.tail _ hp) | exact Boom.sub (by assumption) (fun p hp => List.Mem.tail _ (List.Mem.tail _ hp)) | exact Boom.sub (by assumption) (fun p hp => List.Mem.tail _ (List.mem_append.mpr (Or.inl hp))) | exact Boom.sub (by assumption) (fun p hp => List.mem_append.mpr (Or.inl hp)))
  k_with "m led" => (first | exact fun _ h => h | exact fun _ h => List.Mem.tail _ h | exact fun _ h => List.Mem.tail _ (List.Mem.tail _ h) | exact fun _ h => List.Mem.tail _ (List.Mem.tail _ (List.Mem.tail _ h)) | exact fun _ h => List.mem_append.mpr (Or.inr h) | exact fun _ h => List.mem_append.mpr (Or.inl h) | exact fun _ h => List.Mem.tail _ (List.mem_append.mpr (Or.inr h)) | exact fun _ h => List.mem_append.mpr (Or.inr (List.mem_append.mpr (Or.inr h))) | exact fun _ h => List.mem_append.mpr (Or.inr (List.Mem.tail _ h)))
  k_with "m call ref" => ((k_here; k_dflt (refine' call_cls ?k1Z ?k2Z ?k3Z ?k4Z ?k5Z ?k6Z ?_; (case k1Z => k_asm); (case k2Z => k_asm); (case k3Z => k_asm); (case k4Z => k_is); (case k5Z => k_is); (case k6Z => k_is); k_whole; intro x' d' h' F' N' l1k l2k; (try k_lt l1k); (try k_lt2 l2k); (try k_sweep); (refine' code_def ?k1Z ?k2Z ?k3Z ?k4Z ?k5Z ?kAZ ?kFZ ?kKZ ?k6Z ?k7Z ?k8Z ?k9Z ?kBZ ?_ ?c2Z ?c3Z ?c4Z ?c5Z; (case kAZ => exact rfl); (case kFZ => exact rfl); (case kKZ => first | exact rfl | assumption); (case k1Z => k_asm); (case k2Z => k_asm); (case k3Z => k_asm); (case k4Z => k_asm); (case k5Z => k_asm); (case k6Z => k_is); (case k7Z => k_is); (case k8Z => ktr_room); (case k9Z => exact BindsTo.of_eq rfl); (case c5Z => decide); (case kBZ => exact locs rfl); (case c2Z => exact rfl); (case c3Z => exact rfl); (case c4Z => exact rfl); k_whole; intro g' L' h' FG' F' N' B' X' T'; (try dsimp only); (try k_fold)))))
  k_with "m ite" => ((k_here; k_openite; with_reducible first | refine ite_pos (by assumption) ?_ | refine ite_neg (by assumption) ?_ | refine ite_isFalse (by assumption) ?_ | (refine split_ine ?_ ?_ <;> intro _) | (refine split_ieq ?_ ?_ <;> intro _) | refine split_not ?_ | (refine split_dec ?_ ?_ <;> intro _) | (refine split_bool ?_ ?_ <;> intro _)))
  k_with "m ite" => ((with_reducible first | refine ite_tt ?_ | refine ite_ff ?_))
  k_with "m testChain" => (dsimp only)
  k_with "m evalPairs" => (dsimp only)
  k_with "m compareChain" => (dsimp only)
  k_with "m ite" => ((k_closed; first | ((with_reducible refine ite_cf ?chZ ?_); (case chZ => decide +kernel)) | ((with_reducible refine ite_ct ?chZ ?_); (case chZ => decide +kernel))))
  k_with "m InvEndN" => (k_dflt kst_close)
  exact True.intro
inductive Pv where
  | int (i : Int)
  | str (x : Str)
  | pat (d : Dat)
  | del
  | hold
noncomputable abbrev nm (x : String) : Str := Str.ofString x
noncomputable abbrev lenD (n : Int) : Dat := .tuple [.str (nm "len"), .int n]
noncomputable abbrev charsD (x : Str) : Dat := .tuple [.str (nm "chars"), .str x]
noncomputable abbrev treeD : Dat := .tuple [.str (nm "name"), .str (nm "X")]
noncomputable abbrev delayD : Dat := .tuple [.str (nm "delay"), treeD]
noncomputable abbrev catD (a b : Dat) : Dat := .tuple [.str (nm "cat"), a, b]
noncomputable abbrev altD (a b : Dat) : Dat := .tuple [.str (nm "alt"), a, b]
noncomputable abbrev nullD : Dat := charsD (nm "")
noncomputable abbrev nodeDict (w : World) (k : Tok) (v : Value) : Obj := dictOf [⟨PyData.keyHash w.params (nm "node"), .str (nm "node") k, v⟩] 1
noncomputable abbrev treeDict (w : World) (k : Tok) (v : Value) : Obj := dictOf [⟨PyData.keyHash w.params (nm "tree"), .str (nm "tree") k, v⟩] 1
noncomputable abbrev holdDict (w : World) (k1 k2 k3 : Tok) (v1 v2 v3 : Value) : Obj := dictOf [⟨PyData.keyHash w.params (nm "word"), .str (nm "word") k1, v1⟩, ⟨PyData.keyHash w.params (nm "number"), .str (nm "number") k2, v2⟩, ⟨PyData.keyHash w.params (nm "mark"), .str (nm "mark") k3, v3⟩] 3
inductive IsPv (w : World) (news : Led) : Value → Pv → Prop
  | int (i : Int) (t : Tok) : IsPv w news (.int i t) (.int i)
  | str (x : Str) (t : Tok) : IsPv w news (.str x t) (.str x)
  | pat {a dx : Addr} {k : Tok} {v : Value} {d : Dat} : (a, instObj 54 dx) ∈ news → (dx, nodeDict w k v) ∈ news → DatIn news v d → IsPv w news (.ref a) (.pat d)
  | del {a dx : Addr} {k : Tok} {v : Value} : (a, instObj 75 dx) ∈ news → (dx, treeDict w k v) ∈ news → DatIn news v treeD → IsPv w news (.ref a) .del
  | hold {a dx : Addr} {k1 k2 k3 t2 : Tok} {v1 v3 : Value} : (a, instObj 96 dx) ∈ news → (dx, holdDict w k1 k2 k3 v1 (.int 1 t2) v3) ∈ news → IsPv w news (.ref a) .hold
theorem IsPv.mono {w : World} {news news' : Led} {v : Value} {p : Pv} (h : IsPv w news v p) (hs : ∀ q ∈ news, q ∈ news') : IsPv w news' v p := by
  cases h with
  | int => exact .int _ _
  | str => exact .str _ _
  | pat a b c => exact .pat (hs _ a) (hs _ b) (c.mono hs)
  | del a b c => exact .del (hs _ a) (hs _ b) (c.mono hs)
  | hold a b => exact .hold (hs _ a) (hs _ b)
noncomputable def Pv.isNull : Pv → Bool
  | .str x => x == nm ""
  | _ => false
noncomputable def Pv.isPlain : Pv → Bool
  | .str _ => true
  | .int _ => true
  | _ => false
noncomputable def Pv.isPart : Pv → Bool
  | .hold => false
  | _ => true


theorem nl_int (i : Int) : (Pv.int i).isNull = false := rfl
theorem nl_str (x : Str) : (Pv.str x).isNull = (x == nm "") := rfl
theorem nl_pat (d : Dat) : (Pv.pat d).isNull = false := rfl
theorem nl_del : Pv.del.isNull = false := rfl
theorem nl_hold : Pv.hold.isNull = false := rfl
theorem pl_int (i : Int) : (Pv.int i).isPlain = true := rfl
theorem pl_str (x : Str) : (Pv.str x).isPlain = true := rfl
theorem pl_pat (d : Dat) : (Pv.pat d).isPlain = false := rfl
theorem pl_del : Pv.del.isPlain = false := rfl
theorem pl_hold : Pv.hold.isPlain = false := rfl
theorem pa_int (i : Int) : (Pv.int i).isPart = true := rfl
theorem pa_str (x : Str) : (Pv.str x).isPart = true := rfl
theorem pa_pat (d : Dat) : (Pv.pat d).isPart = true := rfl
theorem pa_del : Pv.del.isPart = true := rfl
theorem pa_hold : Pv.hold.isPart = false := rfl
theorem datMono {news news' : Led} {v : Value} {d : Dat} (h : DatIn news v d) (hs : ∀ q ∈ news, q ∈ news') : DatIn news' v d := h.mono hs
noncomputable def dg : Nat → Nat → List Nat → List Nat
  | 0, _, acc => acc
  | f + 1, n, acc => if n = 0 ∧ acc ≠ [] then acc else dg f (n / 10) ((48 + n % 10) :: acc)
noncomputable def tow (n : Int) : Str := if n < 0 then nm "-" ++ ⟨(dg 40 n.natAbs []).toArray⟩ else ⟨(dg 40 n.natAbs []).toArray⟩
noncomputable def wotLoop : List Nat → Int → Option Int
  | [], acc => some acc
  | c :: r, acc => if 48 ≤ c ∧ c ≤ 57 then wotLoop r (10 * acc + c - 48) else none
noncomputable def wotDigits : List Nat → List Nat
  | 43 :: r => r
  | 45 :: r => r
  | l => l
noncomputable def fitsB (n wd : Int) : Bool := decide (-(2 ^ (wd - 1).toNat) ≤ n ∧ n < 2 ^ (wd - 1).toNat)
noncomputable def wot (x : Str) (wd : Int) : Option Int :=
  if x.cps.toList = [] then some 0
  else if wotDigits x.cps.toList = [] ∨ wd < ((wotDigits x.cps.toList).length : Int) then none
  else match wotLoop (wotDigits x.cps.toList) 0 with
    | none => none
    | some n => if fitsB (if x.cps.toList.head? = some 45 then -n else n) wd then some (if x.cps.toList.head? = some 45 then -n else n) else none
noncomputable def Pv.whole (wd : Int) : Pv → Option Int
  | .int i => some i
  | .str x => wot x wd
  | _ => none
noncomputable def Pv.text : Pv → Option Str
  | .int i => some (tow i)
  | .str x => some x
  | _ => none
inductive IsOpt : Value → Option Int → Prop
  | none : IsOpt .none none
  | some (i : Int) (t : Tok) : IsOpt (.int i t) (some i)
inductive IsOptS : Value → Option Str → Prop
  | none : IsOptS .none none
  | some (x : Str) (t : Tok) : IsOptS (.str x t) (some x)
theorem reg2 : True := by
  k_with "m call ref" => ((k_here; k_dflt (refine' Ctr.use (c_fits _ _ _ _ _ ?a1Z ?a2Z _) ?k1Z ?k2Z ?k3Z ?k4Z ?k5Z ?kKZ ?kdZ ?kuZ ?_ ?excZ; (case a1Z => first | assumption); (case a2Z => first | assumption); walk_at "ctr"; (case excZ => exact fun _ _ _ _ _ _ _ _ h => h.elim); intro r9k tl9k h9k tk9k F9k N9k o9k; (obtain ⟨o9k, p9k⟩ := o9k); subst o9k; subst p9k; (try simp only [List.nil_append] at N9k); (try dsimp only [nl_int, nl_str, nl_pat, nl_del, nl_hold, pl_int, pl_str, pl_pat, pl_del, pl_hold, pa_int, pa_str, pa_pat, pa_del, pa_hold]); (try k_fold))))
  exact True.intro
set_option maxRecDepth 100000 in
set_option maxHeartbeats 8000000 in
theorem c_checked (w : World) (n wd : Int) (t1 t2 : Tok) (h5 : 5 ≤ wd) (h40 : wd ≤ 40) (news : Led) :
   Ctr w 6 163 [.int n t1, .int wd t2] news (fun r tl => tl = [] ∧ r = .int n t1 ∧ (-(2 ^ (wd - 1).toNat) ≤ n ∧ n < 2 ^ (wd - 1).toNat)) (fun e => e = 2 ∧ ¬ (-(2 ^ (wd - 1).toNat) ≤ n ∧ n < 2 ^ (wd - 1).toNat)) := by
  intro dp un gd cn cs a ccd cl outer A₀ base h₀ L m loose mean mg mb s Q E B F X N T hk hd hu ret exc
  refine wpAny_call ?_
  k_dflt ktr_enter
  k_steps
  · exact ret _ [] _ _ (by k_asm) (by k_asm) ⟨rfl, rfl, by assumption⟩
  · exact exc _ _ _ _ _ (by k_asm) (by k_asm) (by k_asm) ⟨rfl, by assumption⟩

set_option maxRecDepth 100000 in
set_option maxHeartbeats 8000000 in
theorem c_is_null (w : World) (v : Value) (p : Pv) (news : Led) (hp : IsPv w news v p) :
   Ctr w 3 107 [v] news (fun r tl => tl = [] ∧ r = .bool p.isNull) (fun _ => False) := by
  intro dp un gd cn cs a ccd cl outer A₀ base h₀ L m loose mean mg mb s Q E B F X N T hk hd hu ret exc
  have hq := hp
  cases hp
  all_goals (refine wpAny_call ?_; k_dflt ktr_enter)
  all_goals k_steps
  all_goals exact ret _ [] _ _ (by k_asm) (by walk_at "news") ⟨rfl, rfl⟩

set_option maxRecDepth 100000 in
set_option maxHeartbeats 8000000 in
theorem c_is_plain (w : World) (v : Value) (p : Pv) (news : Led) (hp : IsPv w news v p) :
   Ctr w 3 114 [v] news (fun r tl => tl = [] ∧ r = .bool p.isPlain) (fun _ => False) := by
  intro dp un gd cn cs a ccd cl outer A₀ base h₀ L m loose mean mg mb s Q E B F X N T hk hd hu ret exc
  have hq := hp
  cases hp
  all_goals (refine wpAny_call ?_; k_dflt ktr_enter)
  all_goals k_steps
  all_goals exact ret _ [] _ _ (by k_asm) (by walk_at "news") ⟨rfl, rfl⟩

theorem reg3 : True := by
  k_with "m call ref" => ((k_here; k_dflt (refine' Ctr.use (c_is_plain _ _ _ _ ?a1Z) ?k1Z ?k2Z ?k3Z ?k4Z ?k5Z ?kKZ ?kdZ ?kuZ ?_ ?excZ; (case a1Z => first | assumption); walk_at "ctr"; (case excZ => exact fun _ _ _ _ _ _ _ _ h => h.elim); intro r9k tl9k h9k tk9k F9k N9k o9k; (obtain ⟨o9k, p9k⟩ := o9k); subst o9k; subst p9k; (try simp only [List.nil_append] at N9k); (try dsimp only [nl_int, nl_str, nl_pat, nl_del, nl_hold, pl_int, pl_str, pl_pat, pl_del, pl_hold, pa_int, pa_str, pa_pat, pa_del, pa_hold]); (try k_fold))))
  exact True.intro
set_option maxRecDepth 100000 in
set_option maxHeartbeats 8000000 in
theorem c_is_part (w : World) (v : Value) (p : Pv) (news : Led) (hp : IsPv w news v p) :
   Ctr w 6 256 [v] news (fun r tl => tl = [] ∧ r = .bool p.isPart) (fun _ => False) := by
  intro dp un gd cn cs a ccd cl outer A₀ base h₀ L m loose mean mg mb s Q E B F X N T hk hd hu ret exc
  have hq := hp
  cases hp
  all_goals (refine wpAny_call ?_; k_dflt ktr_enter)
  all_goals k_steps
  all_goals exact ret _ [] _ _ (by k_asm) (by walk_at "news") ⟨rfl, rfl⟩

set_option maxRecDepth 100000 in
set_option maxHeartbeats 8000000 in
theorem c_law_is_part (w : World) (v : Value) (p : Pv) (news : Led) (hp : IsPv w news v p) :
   Ctr w 3 324 [v] news (fun r tl => tl = [] ∧ r = .bool p.isPart) (fun _ => False) := by
  intro dp un gd cn cs a ccd cl outer A₀ base h₀ L m loose mean mg mb s Q E B F X N T hk hd hu ret exc
  have hq := hp
  cases hp
  all_goals (refine wpAny_call ?_; k_dflt ktr_enter)
  all_goals k_steps
  all_goals exact ret _ [] _ _ (by k_asm) (by walk_at "news") ⟨rfl, rfl⟩


end
end Mine
namespace Mine
section
open PySem PySem.W PySem.Spec PySem.Calls PyProof PyProof.Rows PySem.W.X
theorem fm_range {α : Type} : ∀ r : List α, (List.range r.length).filterMap (r[·]?) = r
  | [] => rfl
  | a :: s => by
    rw [List.length_cons, List.range_succ_eq_map, List.filterMap_cons]
    show a :: _ = _
    rw [List.filterMap_map]
    exact congrArg (a :: ·) (fm_range s)
theorem slice_tail {x : Str} {c : Nat} {r : List Nat} (h : x.cps.toList = c :: r) : Txt.slice x (some 1) none = ⟨r.toArray⟩ := by
  have hn : x.length = r.length + 1 := by show x.cps.size = _; rw [← Array.length_toList, h, List.length_cons]
  have e : Builtin.Str.strSliceIndices (some 1) none 1 x.length = (List.range r.length).map (· + 1) := by
    unfold Builtin.Str.strSliceIndices sliceRange
    rw [hn]
    simp only [show (1 : Int) > 0 by decide, if_true, show ¬ (1 : Int) < 0 by decide, if_false]
    have h1 : max 0 (min (1 : Int) ((r.length + 1 : Nat) : Int)) = 1 := by omega
    rw [h1]
    by_cases hr : r.length = 0
    · rw [if_neg (by omega), hr]; rfl
    · rw [if_pos (by omega)]
      have h2 : (((r.length + 1 : Nat) : Int) - 1 + 1 - 1) / 1 = (r.length : Int) := by rw [Int.ediv_one]; omega
      rw [h2, Int.toNat_natCast]
      refine List.map_congr_left fun k _ => ?_
      rw [Int.one_mul]
      omega
  unfold Txt.slice
  rw [e]
  rw [if_neg (by simp only [List.length_map, List.length_range, hn]; simp)]
  congr 2
  rw [List.filterMap_map]
  have : ((x.cps[·]?) ∘ (· + 1) : Nat → Option Nat) = (r[·]?) := by
    funext i
    show x.cps[i + 1]? = r[i]?
    rw [← Array.getElem?_toList, h]; rfl
  rw [this, fm_range]
theorem item_head {x : Str} {c : Nat} {r : List Nat} (h : x.cps.toList = c :: r) : Txt.item x 0 = ⟨#[c]⟩ := by
  have hn : x.length = r.length + 1 := by show x.cps.size = _; rw [← Array.length_toList, h, List.length_cons]
  have e : seqIndex? 0 x.length = some 0 := by
    unfold seqIndex?; rw [hn]
    simp
  unfold Txt.item Txt.charAt
  rw [e]
  show Str.mk #[(x.cps[0]?).getD 0] = _
  rw [← Array.getElem?_toList, h]; rfl
theorem ne_cons {x : Str} (h : (x == nm "") = false) : ∃ c r, x.cps.toList = c :: r := by
  cases hx : x.cps.toList with
  | nil =>
    exfalso
    have : x = nm "" := by cases x; rw [Str.mk.injEq, ← Array.toList_inj]; exact hx.trans (by decide)
    rw [this] at h
    exact absurd h (by decide)
  | cons c r => exact ⟨c, r, rfl⟩
theorem sgn_occ (c : Nat) : (Builtin.Str.occurrences (nm "+-") ⟨#[c]⟩ 0 (nm "+-").length 1).isEmpty = !(decide (c = 43) || decide (c = 45)) := by
  rw [empty_one]
  rw [show (nm "+-").cps.toList = [43, 45] by decide]
  simp
theorem wotLoop_app : ∀ (a b : List Nat) (i : Int), wotLoop (a ++ b) i = (wotLoop a i).bind (wotLoop b)
  | [], b, i => rfl
  | c :: a, b, i => by
    rw [List.cons_append, wotLoop, wotLoop]
    split
    · exact wotLoop_app a b _
    · rfl
noncomputable def wotP (pre : List Int) (number : Int) : Prop := wotLoop (pre.map Int.toNat) 0 = some number
theorem wotP_0 : wotP [] 0 := rfl
theorem lt_one {a b : Nat} : ([a] < [b]) ↔ a < b := by
  constructor
  · intro h
    cases h with
    | rel h => exact h
    | cons h => cases h
  · exact fun h => .rel h
theorem wotP_s {pre : List Int} {f : Int} {k : Nat} (h : wotP pre f) (g1 : ¬ (⟨#[k]⟩ : Str).cps.toList < (nm "0").cps.toList) (g2 : ¬ (nm "9").cps.toList < (⟨#[k]⟩ : Str).cps.toList) : wotP (pre ++ [(k : Int)]) (10 * f + k - 48) := by
  have e1 : 48 ≤ k := by
    have : ¬ [k] < [48] := g1
    rw [lt_one] at this; omega
  have e2 : k ≤ 57 := by
    have : ¬ [57] < [k] := g2
    rw [lt_one] at this; omega
  unfold wotP at *
  rw [List.map_append, wotLoop_app, h]
  show wotLoop [k] f = _
  rw [wotLoop, if_pos ⟨e1, e2⟩, wotLoop]
theorem codes_nat (y : Str) : (KStt.codes y).map Int.toNat = y.cps.toList := by
  unfold KStt.codes
  rw [List.map_map]
  exact (List.map_congr_left (fun c _ => rfl)).trans (List.map_id _)
theorem wotP_end {y : Str} {f : Int} (h : wotP (KStt.codes y) f) : wotLoop y.cps.toList 0 = some f := by
  unfold wotP at h; rw [codes_nat] at h; exact h
theorem wotP_bad {y : Str} {pre post : List Int} {k : Nat} {f : Int} (e : KStt.codes y = pre ++ (k : Int) :: post) (h : wotP pre f) (g : ¬ (48 ≤ k ∧ k ≤ 57)) : wotLoop y.cps.toList 0 = none := by
  rw [← codes_nat, e, List.map_append, wotLoop_app, h]
  show wotLoop (k :: _) f = none
  rw [wotLoop, if_neg g]
theorem wotP_b1 {y : Str} {pre post : List Int} {k : Nat} {f : Int} (e : KStt.codes y = pre ++ (k : Int) :: post) (h : wotP pre f) (g : (⟨#[k]⟩ : Str).cps.toList < (nm "0").cps.toList) : wotLoop y.cps.toList 0 = none := wotP_bad e h (by
  have : [k] < [48] := g
  rw [lt_one] at this; omega)
theorem wotP_b2 {y : Str} {pre post : List Int} {k : Nat} {f : Int} (e : KStt.codes y = pre ++ (k : Int) :: post) (h : wotP pre f) (g : (nm "9").cps.toList < (⟨#[k]⟩ : Str).cps.toList) : wotLoop y.cps.toList 0 = none := wotP_bad e h (by
  have : [57] < [k] := g
  rw [lt_one] at this; omega)
theorem dig_f {x : Str} (h : (x == nm "") = false) (o : (Builtin.Str.occurrences (nm "+-") (Txt.item x 0) 0 (nm "+-").length 1).isEmpty = true) : wotDigits x.cps.toList = x.cps.toList := by
  obtain ⟨c, r, e⟩ := ne_cons h
  rw [item_head e, sgn_occ] at o
  simp at o
  rw [e]
  unfold wotDigits
  split
  · rename_i z; injection z with z1; omega
  · rename_i z; injection z with z1; omega
  · rfl
theorem dig_t {x : Str} (h : (x == nm "") = false) (o : (Builtin.Str.occurrences (nm "+-") (Txt.item x 0) 0 (nm "+-").length 1).isEmpty = false) : wotDigits x.cps.toList = (Txt.slice x (some 1) none).cps.toList := by
  obtain ⟨c, r, e⟩ := ne_cons h
  rw [item_head e, sgn_occ] at o
  simp at o
  rw [slice_tail e, e]
  by_cases z : c = 43
  · subst z; rfl
  · have := o z
    subst this; rfl
theorem neg_t {x : Str} (h : (x == nm "") = false) (g : (Txt.item x 0 == nm "-") = true) : (x.cps.toList.head? = some 45) = True := by
  obtain ⟨c, r, e⟩ := ne_cons h
  rw [item_head e] at g
  have := eq_of_beq g
  have z : (⟨#[c]⟩ : Str).cps.toList = [45] := by rw [this]; decide
  injection z with z1
  rw [e, z1]; simp
theorem neg_f {x : Str} (h : (x == nm "") = false) (g : (Txt.item x 0 == nm "-") = false) : (x.cps.toList.head? = some 45) = False := by
  obtain ⟨c, r, e⟩ := ne_cons h
  rw [item_head e] at g
  rw [e]
  simp
  intro z
  subst z
  exact absurd g (by decide)
theorem wot_0 {x : Str} {wd : Int} (t : Tok) (h : (x == nm "") = true) : IsOpt (.int 0 t) (wot x wd) := by
  rw [wot, if_pos (by rw [eq_of_beq h]; decide)]; exact .some _ _
theorem ne_nil {x : Str} (h : (x == nm "") = false) : ¬ x.cps.toList = [] := by
  obtain ⟨c, r, e⟩ := ne_cons h
  rw [e]; exact List.cons_ne_nil _ _
theorem wot_no {x y : Str} {wd : Int} (h : (x == nm "") = false) (d : wotDigits x.cps.toList = y.cps.toList) (g : y.cps.toList = [] ∨ wd < (y.length : Int) ∨ wotLoop y.cps.toList 0 = none) : IsOpt .none (wot x wd) := by
  have : wot x wd = none := by
    rw [wot, if_neg (ne_nil h), d]
    split
    · rfl
    · rename_i k
      have e : ((y.cps.toList.length : Nat) : Int) = (y.length : Int) := by rw [Array.length_toList]; rfl
      rw [e] at k
      rcases g with g | g | g
      · exact absurd (.inl g) k
      · exact absurd (.inr g) k
      · rw [g]
  rw [this]; exact .none
theorem wot_long {x y : Str} {wd : Int} (h : (x == nm "") = false) (d : wotDigits x.cps.toList = y.cps.toList) (g : wd < (y.length : Int)) : IsOpt .none (wot x wd) := wot_no h d (.inr (.inl g))
theorem wot_empty {x y : Str} {wd : Int} (h : (x == nm "") = false) (d : wotDigits x.cps.toList = y.cps.toList) (g : (y == nm "") = true) : IsOpt .none (wot x wd) := wot_no h d (.inl (by rw [eq_of_beq g]; decide))
theorem wot_bad {x y : Str} {wd : Int} (h : (x == nm "") = false) (d : wotDigits x.cps.toList = y.cps.toList) (g : wotLoop y.cps.toList 0 = none) : IsOpt .none (wot x wd) := wot_no h d (.inr (.inr g))
theorem wot_yes {x y : Str} {wd f : Int} (h : (x == nm "") = false) (d : wotDigits x.cps.toList = y.cps.toList) (g : (y == nm "") = false) (g2 : ¬ wd < (y.length : Int)) (l : wotLoop y.cps.toList 0 = some f) :
    wot x wd = if fitsB (if x.cps.toList.head? = some 45 then -f else f) wd then some (if x.cps.toList.head? = some 45 then -f else f) else none := by
  have e : ((y.cps.toList.length : Nat) : Int) = (y.length : Int) := by rw [Array.length_toList]; rfl
  rw [wot, if_neg (ne_nil h), d, if_neg, l]
  rw [e]
  rintro (z | z)
  · exact ne_nil g z
  · exact g2 z
theorem wot_pt {x y : Str} {wd f : Int} (t : Tok) (h : (x == nm "") = false) (d : wotDigits x.cps.toList = y.cps.toList) (g : (y == nm "") = false) (g2 : ¬ wd < (y.length : Int)) (l : wotP (KStt.codes y) f) (n : (Txt.item x 0 == nm "-") = false) (k : fitsB f wd = true) : IsOpt (.int f t) (wot x wd) := by
  rw [wot_yes h d g g2 (wotP_end l)]; simp only [neg_f h n, if_false, k, if_true]; exact .some _ _
theorem wot_pf {x y : Str} {wd f : Int} (h : (x == nm "") = false) (d : wotDigits x.cps.toList = y.cps.toList) (g : (y == nm "") = false) (g2 : ¬ wd < (y.length : Int)) (l : wotP (KStt.codes y) f) (n : (Txt.item x 0 == nm "-") = false) (k : ¬ fitsB f wd = true) : IsOpt .none (wot x wd) := by
  rw [wot_yes h d g g2 (wotP_end l)]; simp only [neg_f h n, if_false, k, if_false]; exact .none
theorem wot_nt {x y : Str} {wd f : Int} (t : Tok) (h : (x == nm "") = false) (d : wotDigits x.cps.toList = y.cps.toList) (g : (y == nm "") = false) (g2 : ¬ wd < (y.length : Int)) (l : wotP (KStt.codes y) f) (n : (Txt.item x 0 == nm "-") = true) (k : fitsB (-f) wd = true) : IsOpt (.int (-f) t) (wot x wd) := by
  rw [wot_yes h d g g2 (wotP_end l)]; simp only [neg_t h n, if_true, k]; exact .some _ _
theorem wot_nf {x y : Str} {wd f : Int} (h : (x == nm "") = false) (d : wotDigits x.cps.toList = y.cps.toList) (g : (y == nm "") = false) (g2 : ¬ wd < (y.length : Int)) (l : wotP (KStt.codes y) f) (n : (Txt.item x 0 == nm "-") = true) (k : ¬ fitsB (-f) wd = true) : IsOpt .none (wot x wd) := by
  rw [wot_yes h d g g2 (wotP_end l)]; simp only [neg_t h n, if_true, k, if_false]; exact .none

end
end Mine
namespace Mine
section

theorem reg4 : True := by
  k_with_none
  k_with "m room" => (exact rm1 (by assumption) (by exact rfl))
  k_with "m units" => (exact rm2 (by assumption) (by exact rfl))
  k_with "m ctr" => (((case k1Z => k_asm); (case k2Z => k_asm); (case k3Z => k_asm); (case k4Z => k_asm); (case k5Z => k_asm); (case kKZ => first | exact rfl | assumption); (case kdZ => ktr_room); (case kuZ => ktr_units)))
  k_with "m exec Raise some none" => ((k_here; k_dflt (refine raise_exec (w := ‹World›) rfl ?_)))
  k_with "m RaisePost" => ((refine ⟨_, _, _, rfl, News.get (by k_asm) (List.Mem.tail _ (List.Mem.head _)), by k_in, ?_⟩))
  k_with "m call ref" => ((k_here; k_dflt ( (with_reducible show wpAny _ _ (call (Value.ref 34) _ _) _ _ _); refine' exc_made _ _ _ _ _ _ _ _ _ _ _ _ _ _ _ _ _ _ _ _ _ ?k1Z ?k2Z ?k3Z ?k4Z ?k5Z ?kAZ ?kFZ ?kKZ ?kRZ ?_; (case kAZ => exact rfl); (case k1Z => k_asm); (case k2Z => k_asm); (case k3Z => k_asm); (case k4Z => k_asm); (case k5Z => k_asm); (case kFZ => exact rfl); (case kKZ => first | exact rfl | assumption); (case kRZ => ktr_room); intro e9k d9k t9k k9k k9k' h9k tk9k F9k N9k ne9k lt9k; (try dsimp only))))
  k_with "m leaving" => ((k_here; k_dflt (first | (refine' leave_madeD ?k1Z ?k2Z ?k3Z (List.Mem.tail _ (List.Mem.head _)) (List.Mem.head _) ?k4Z ?_; (case k1Z => k_asm); (case k2Z => k_asm); (case k3Z => k_asm); (case k4Z => exact fun p hp => ⟨List.Mem.tail _ (List.Mem.tail _ hp), by solve_by_elim⟩); intro h9k B9k U9k) | (refine' leave_onD ?k1Z ?k2Z ?k3Z ?k4Z ?_; (case k1Z => k_asm); (case k2Z => k_asm); (case k3Z => k_asm); (case k4Z => k_asm); intro h9k B9k U9k))))
  k_with "m mem" => (first | exact List.mem_cons_self | (refine' List.mem_cons_of_mem _ ?_; k_mem))
  k_with "m news" => (first | with_reducible assumption | assumption | exact ndrop (by assumption) | exact ndrop (ndrop (by assumption)) | exact ndrop (ndrop (ndrop (by assumption))))
  k_with "m eval Call Name" => ((k_here; (fail_if_success (with_reducible show wpAny _ _ (eval (Expr.Call (Expr.Name "range" _) _ _ _) _) _ _ _)); k_dflt (refine Call_ ?_)))
  k_with "m boom" => (first | with_reducible assumption | exact Boom.sub (by assumption) (fun p hp => List.Mem.tail _ hp) | exact Boom.sub (by assumption) (fun p hp => List.Mem.tail _ (List.Mem.tail _ hp)) | exact Boom.sub (by assumption) (fun p hp => List.Mem.tail _ (List.mem_append.mpr (Or.inl hp))) | exact Boom.sub (by assumption) (fun p hp => List.mem_append.mpr (Or.inl hp)))
  k_with "m led" => (first | exact fun _ h => h | exact fun _ h => List.Mem.tail _ h | exact fun _ h => List.Mem.tail _ (List.Mem.tail _ h) | exact fun _ h => List.Mem.tail _ (List.Mem.tail _ (List.Mem.tail _ h)) | exact fun _ h => List.mem_append.mpr (Or.inr h) | exact fun _ h => List.mem_append.mpr (Or.inl h) | exact fun _ h => List.Mem.tail _ (List.mem_append.mpr (Or.inr h)) | exact fun _ h => List.mem_append.mpr (Or.inr (List.mem_append.mpr (Or.inr h))) | exact fun _ h => List.mem_append.mpr (Or.inr (List.Mem.tail _ h)))
  k_with "m call ref" => ((k_here; k_dflt (refine' call_cls ?k1Z ?k2Z ?k3Z ?k4Z ?k5Z ?k6Z ?_; (case k1Z => k_asm); (case k2Z => k_asm); (case k3Z => k_asm); (case k4Z => k_is); (case k5Z => k_is); (case k6Z => k_is); k_whole; intro x' d' h' F' N' l1k l2k; (try k_lt l1k); (try k_lt2 l2k); (try k_sweep); (refine' code_def ?k1Z ?k2Z ?k3Z ?k4Z ?k5Z ?kAZ ?kFZ ?kKZ ?k6Z ?k7Z ?k8Z ?k9Z ?kBZ ?_ ?c2Z ?c3Z ?c4Z ?c5Z; (case kAZ => exact rfl); (case kFZ => exact rfl); (case kKZ => first | exact rfl | assumption); (case k1Z => k_asm); (case k2Z => k_asm); (case k3Z => k_asm); (case k4Z => k_asm); (case k5Z => k_asm); (case k6Z => k_is); (case k7Z => k_is); (case k8Z => ktr_room); (case k9Z => exact BindsTo.of_eq rfl); (case c5Z => decide); (case kBZ => exact locs rfl); (case c2Z => exact rfl); (case c3Z => exact rfl); (case c4Z => exact rfl); k_whole; intro g' L' h' FG' F' N' B' X' T'; (try dsimp only); (try k_fold)))))
  k_with "m ite" => ((k_here; k_openite; with_reducible first | refine ite_pos (by assumption) ?_ | refine ite_neg (by assumption) ?_ | refine ite_isFalse (by assumption) ?_ | (refine split_ine ?_ ?_ <;> intro _) | (refine split_ieq ?_ ?_ <;> intro _) | refine split_not ?_ | (refine split_dec ?_ ?_ <;> intro _) | (refine split_bool ?_ ?_ <;> intro _)))
  k_with "m ite" => ((with_reducible first | refine ite_tt ?_ | refine ite_ff ?_))
  k_with "m testChain" => (dsimp only)
  k_with "m evalPairs" => (dsimp only)
  k_with "m compareChain" => (dsimp only)
  k_with "m ite" => ((k_closed; first | ((with_reducible refine ite_cf ?chZ ?_); (case chZ => decide +kernel)) | ((with_reducible refine ite_ct ?chZ ?_); (case chZ => decide +kernel))))
  k_with "m InvEndN" => (k_dflt kst_close)
  exact True.intro
noncomputable abbrev okS (x : Str) : Prop := x.cps.size ≤ 60 ∧ PyData.strOk x = true
noncomputable abbrev okI (i : Int) : Prop := -1000000000000 < i ∧ i < 1000000000000
noncomputable def Pv.ok : Pv → Prop
  | .int i => okI i
  | .str x => okS x
  | .pat d => ∃ n, d = lenD n
  | _ => True
noncomputable def towI (n left : Int) (found : Str) : Prop := 0 ≤ left ∧ left < 1000000000000 ∧ found.cps.size ≤ 40 ∧ ∃ f : Nat, f + found.cps.size = 40 ∧ left.toNat < 10 ^ f ∧ dg f left.toNat found.cps.toList = dg 40 n.natAbs []
theorem cat_cons (a : Nat) (f : Str) : ((⟨#[a]⟩ : Str) ++ f).cps.toList = a :: f.cps.toList := by
  show (#[a] ++ f.cps).toList = _
  rw [Array.toList_append]; rfl
theorem abs_lt {n b : Int} (h : -b < n) (h2 : n < b) : (if n < 0 then -n else n) < b := by
  split
  · exact Int.neg_lt_of_neg_lt h
  · exact h2
theorem abs_toNat (n : Int) : (if n < 0 then -n else n).toNat = n.natAbs := by
  cases n with
  | ofNat a => rw [if_neg (show ¬ Int.ofNat a < 0 from Int.not_lt.mpr (Int.natCast_nonneg a))]; rfl
  | negSucc a => rw [if_pos (show Int.negSucc a < 0 from Int.negSucc_lt_zero a)]; rfl
theorem abs_ge (n : Int) : 0 ≤ (if n < 0 then -n else n) := by
  split
  · exact Int.le_of_lt (Int.neg_pos_of_neg (by assumption))
  · exact Int.not_lt.mp (by assumption)
theorem towI_start {n : Int} (h : okI n) : towI n (if n < 0 then -n else n) (nm "") := by
  have hl : (if n < 0 then -n else n) < 1000000000000 := abs_lt h.1 h.2
  refine ⟨abs_ge n, hl, by decide, 40, by decide, ?_, ?_⟩
  · exact Nat.lt_of_lt_of_le ((Int.toNat_lt (abs_ge n)).mpr hl) (show 1000000000000 ≤ 10 ^ 40 by decide)
  · rw [abs_toNat]; rfl
theorem div_facts {l f : Nat} (h : l < 10 ^ (f + 1)) : l / 10 < 10 ^ f := Nat.div_lt_of_lt_mul (by rwa [Nat.pow_succ, Nat.mul_comm] at h)
theorem towI_step {n left : Int} {found c : Str} (h : towI n left found) (g : ¬ (left = 0 ∧ found.cps.toList ≠ [])) (hc : c = ⟨#[(48 + left.fmod 10).toNat]⟩) : towI n (left.fdiv 10) (c ++ found) := by
  obtain ⟨h0, h1, h2, f, hf, hl, hd⟩ := h
  obtain ⟨l, rfl⟩ := Int.eq_ofNat_of_zero_le h0
  have hm : (l : Int).fmod 10 = ((l % 10 : Nat) : Int) := Int.fmod_eq_emod_of_nonneg _ (by decide)
  have hq : (l : Int).fdiv 10 = ((l / 10 : Nat) : Int) := Int.fdiv_eq_ediv_of_nonneg _ (by decide)
  have e1 : (c ++ found).cps.toList = (48 + l % 10) :: found.cps.toList := by
    rw [hc, hm]; exact cat_cons _ _
  have e2 : (c ++ found).cps.size = found.cps.size + 1 := by
    rw [← Array.length_toList, e1, List.length_cons, Array.length_toList]
  cases f with
  | zero =>
    refine absurd ⟨congrArg Int.ofNat (Nat.lt_one_iff.mp hl), fun z => ?_⟩ g
    have := congrArg List.length z
    rw [Array.length_toList, ← (Nat.zero_add found.cps.size), hf] at this
    exact absurd this (by decide)
  | succ f =>
    have hf' : f + (c ++ found).cps.size = 40 := by rw [e2, ← Nat.add_assoc, Nat.add_right_comm]; exact hf
    rw [hq]
    refine ⟨Int.natCast_nonneg _, Int.lt_of_le_of_lt (Int.ofNat_le.mpr (Nat.div_le_self _ _)) h1, hf' ▸ Nat.le_add_left _ _, f, hf', div_facts hl, ?_⟩
    rw [e1, ← hd]
    conv => rhs; unfold dg
    rw [if_neg]
    · rfl
    · intro z
      exact g ⟨congrArg Int.ofNat z.1, z.2⟩
theorem towI_end {n left : Int} {found : Str} (h : towI n left found) (g : left ≤ 0) (g2 : found.cps.toList ≠ []) : found = ⟨(dg 40 n.natAbs []).toArray⟩ := by
  obtain ⟨h0, h1, h2, f, hf, hl, hd⟩ := h
  have e : left.toNat = 0 := by omega
  rw [e] at hd
  have : found.cps.toList = dg 40 n.natAbs [] := by
    rw [← hd]
    cases f with
    | zero => rfl
    | succ f => unfold dg; rw [if_pos ⟨rfl, g2⟩]
  cases found
  simp only [Str.mk.injEq] at this ⊢
  rw [← this]

theorem towI_s1 {n l : Int} {f : Str} (h : towI n l f) (g : 0 < l) : towI n (l.fdiv 10) ((⟨#[(48 + l.fmod 10).toNat]⟩ : Str) ++ f) := towI_step h (fun z => by omega) rfl
theorem towI_s2 {n l : Int} {f : Str} (h : towI n l f) (g : ¬ 0 < l) (g2 : (f == nm "") = true) : towI n (l.fdiv 10) ((⟨#[(48 + l.fmod 10).toNat]⟩ : Str) ++ f) := towI_step h (fun z => z.2 (by rw [eq_of_beq g2]; rfl)) rfl
noncomputable def towM (l : Int) (f : Str) : Nat := l.toNat + (if f.cps.toList = [] then 1 else 0)
theorem towM_lt {l : Int} {f : Str} (h : (l.fdiv 10).toNat + 0 < l.toNat + (if f.cps.toList = [] then 1 else 0)) : towM (l.fdiv 10) ((⟨#[(48 + l.fmod 10).toNat]⟩ : Str) ++ f) < towM l f := by
  unfold towM
  rw [cat_cons, if_neg (List.cons_ne_nil _ _)]
  exact h
theorem fdiv_nat (l : Int) (h : 0 ≤ l) : (l.fdiv 10).toNat = l.toNat / 10 := by
  obtain ⟨k, rfl⟩ := Int.eq_ofNat_of_zero_le h
  rw [Int.fdiv_eq_ediv_of_nonneg _ (by decide)]; rfl
theorem towM_s1 {n l : Int} {f : Str} (h : towI n l f) (g : 0 < l) : towM (l.fdiv 10) ((⟨#[(48 + l.fmod 10).toNat]⟩ : Str) ++ f) < towM l f := by
  refine towM_lt ?_
  rw [fdiv_nat l h.1]
  exact Nat.lt_of_lt_of_le (Nat.div_lt_self (Int.lt_toNat.mpr g) (by decide)) (Nat.le_add_right _ _)
theorem towM_s2 {n l : Int} {f : Str} (h : towI n l f) (g : ¬ 0 < l) (g2 : (f == nm "") = true) : towM (l.fdiv 10) ((⟨#[(48 + l.fmod 10).toNat]⟩ : Str) ++ f) < towM l f := by
  refine towM_lt ?_
  rw [fdiv_nat l h.1, if_pos (by rw [eq_of_beq g2]; rfl)]
  exact Nat.lt_succ_of_le (Nat.div_le_self _ _)
theorem tow_e {n l : Int} {f : Str} (h : towI n l f) (g : ¬ 0 < l) (g2 : (f == nm "") = false) : f = ⟨(dg 40 n.natAbs []).toArray⟩ := towI_end h (by omega) (by
  intro z
  have : f = nm "" := by cases f; rw [Str.mk.injEq, ← Array.toList_inj]; exact z.trans (by decide)
  rw [this] at g2
  exact absurd g2 (by decide))
theorem tow_ep {n l : Int} {f : Str} (h : towI n l f) (g : ¬ 0 < l) (g2 : (f == nm "") = false) (g3 : ¬ n < 0) : f = tow n := by rw [tow, if_neg g3]; exact tow_e h g g2
theorem tow_en {n l : Int} {f : Str} (h : towI n l f) (g : ¬ 0 < l) (g2 : (f == nm "") = false) (g3 : n < 0) : nm "-" ++ f = tow n := by rw [tow, if_pos g3]; exact congrArg _ (tow_e h g g2)
theorem tow_fit {n l : Int} {x f : Str} (h : towI n l f) (g : x.length ≤ 1) : x.length + f.length ≤ sizeLine := by
  have h1 : f.length ≤ 40 := h.2.2.1
  exact Nat.le_trans (show x.length + f.length ≤ 41 by omega) (by decide)
theorem ret_str {Q : Value → Shared → Prop} {x y : Str} {t : Tok} {s : Shared} (h : x = y) (k : Q (.str y t) s) : Q (.str x t) s := by rw [h]; exact k
theorem reg5 : True := by
  k_with "m binaryOp Add str str" => ((k_here; (refine add_str ?_ (tow_fit (by assumption) (by first | exact Nat.le_refl 1 | decide))); intro _ _))
  exact True.intro
set_option maxRecDepth 100000 in
set_option maxHeartbeats 8000000 in
theorem c_tow (w : World) (n : Int) (t : Tok) (hn : okI n) (news : Led) : Ctr w 6 135 [.int n t] news (fun r tl => tl = [] ∧ ∃ t', r = .str (tow n) t') (fun _ => False) := by
  intro dp un gd cn cs a ccd cl outer A₀ base h₀ L m loose mean mg mb s Q E B F X N T hk hd hu ret exc
  (k_with "exec While BoolOp cons nil" => k_while (fun (_ : List Int) left found => towI n left found) (fun (_ : List Int) left found => towM left found) "left" "found")
  (k_with "state" => first | exact towI_start (by assumption) | exact towI_s1 (by assumption) (by assumption) | exact towI_s2 (by assumption) (by assumption) (by assumption))
  (k_with "measure" => first | exact towM_s1 (by assumption) (by assumption) | exact towM_s2 (by assumption) (by assumption) (by assumption))
  all_goals (refine wpAny_call ?_; k_dflt ktr_enter)
  all_goals k_steps
  · refine ret_str (tow_en (by assumption) (by assumption) (by assumption) (by assumption)) ?_
    exact ret _ [] _ _ (by k_asm) (by walk_at "news") ⟨rfl, _, rfl⟩
  · refine ret_str (tow_ep (by assumption) (by assumption) (by assumption) (by assumption)) ?_
    exact ret _ [] _ _ (by k_asm) (by walk_at "news") ⟨rfl, _, rfl⟩

theorem reg6 : True := by
  k_with "m call ref" => ((k_here; k_dflt (refine' Ctr.use (c_fits _ _ _ _ _ ?a1Z ?a2Z _) ?k1Z ?k2Z ?k3Z ?k4Z ?k5Z ?kKZ ?kdZ ?kuZ ?_ ?excZ; (case a1Z => first | assumption); (case a2Z => first | assumption); walk_at "ctr"; (case excZ => exact fun _ _ _ _ _ _ _ _ h => h.elim); intro r9k tl9k h9k tk9k F9k N9k o9k; (obtain ⟨o9k, p9k⟩ := o9k); subst o9k; subst p9k; (try simp only [List.nil_append] at N9k); (try dsimp only [nl_int, nl_str, nl_pat, nl_del, nl_hold, pl_int, pl_str, pl_pat, pl_del, pl_hold, pa_int, pa_str, pa_pat, pa_del, pa_hold]); (try k_fold))))
  exact True.intro
set_option maxRecDepth 100000 in
set_option maxHeartbeats 8000000 in
theorem c_wot (w : World) (x : Str) (t : Tok) (wd : Int) (t2 : Tok) (hx : okS x) (h5 : 5 ≤ wd) (h40 : wd ≤ 40) (news : Led) : Ctr w 9 128 [.str x t, .int wd t2] news (fun r tl => tl = [] ∧ IsOpt r (wot x wd)) (fun _ => False) := by
  intro dp un gd cn cs a ccd cl outer A₀ base h₀ L m loose mean mg mb s Q E B F X N T hk hd hu ret exc
  have hxl : x.length ≤ 60 := hx.1
  (k_with "pyIter str" => k_state (fun (pre : List Int) number => wotP pre number) "number")
  (k_with "state" => first | exact wotP_0 | exact wotP_s (by assumption) (by assumption) (by assumption))
  all_goals (refine wpAny_call ?_; k_dflt ktr_enter)
  all_goals k_steps
  · exact ret _ [] _ _ (by k_asm) (by walk_at "news") ⟨rfl, wot_0 _ (by with_reducible assumption)⟩
  · exact ret _ [] _ _ (by k_asm) (by walk_at "news") ⟨rfl, wot_long (by with_reducible assumption) (dig_f (by with_reducible assumption) (by with_reducible assumption)) (by with_reducible assumption)⟩
  · exact ret _ [] _ _ (by k_asm) (by exact KStt.news_of (a := _ ++ _) (by assumption) (fun p hp => List.mem_append_left _ hp)) ⟨rfl, wot_bad (by with_reducible assumption) (dig_f (by with_reducible assumption) (by with_reducible assumption)) (wotP_b1 (by with_reducible assumption) (by with_reducible assumption) (by with_reducible assumption))⟩
  · exact ret _ [] _ _ (by k_asm) (by exact KStt.news_of (a := _ ++ _) (by assumption) (fun p hp => List.mem_append_left _ hp)) ⟨rfl, wot_bad (by with_reducible assumption) (dig_f (by with_reducible assumption) (by with_reducible assumption)) (wotP_b2 (by with_reducible assumption) (by with_reducible assumption) (by with_reducible assumption))⟩
  · exact ret _ [] _ _ (by k_asm) (by walk_at "news") ⟨rfl, wot_nt _ (by with_reducible assumption) (dig_f (by with_reducible assumption) (by with_reducible assumption)) (by with_reducible assumption) (by with_reducible assumption) (by with_reducible assumption) (by with_reducible assumption) (decide_eq_true (by with_reducible assumption))⟩
  · exact ret _ [] _ _ (by k_asm) (by walk_at "news") ⟨rfl, wot_nf (by with_reducible assumption) (dig_f (by with_reducible assumption) (by with_reducible assumption)) (by with_reducible assumption) (by with_reducible assumption) (by with_reducible assumption) (by with_reducible assumption) (fun z => absurd (of_decide_eq_true z) (by with_reducible assumption))⟩
  · exact ret _ [] _ _ (by k_asm) (by walk_at "news") ⟨rfl, wot_pt _ (by with_reducible assumption) (dig_f (by with_reducible assumption) (by with_reducible assumption)) (by with_reducible assumption) (by with_reducible assumption) (by with_reducible assumption) (by with_reducible assumption) (decide_eq_true (by with_reducible assumption))⟩
  · exact ret _ [] _ _ (by k_asm) (by walk_at "news") ⟨rfl, wot_pf (by with_reducible assumption) (dig_f (by with_reducible assumption) (by with_reducible assumption)) (by with_reducible assumption) (by with_reducible assumption) (by with_reducible assumption) (by with_reducible assumption) (fun z => absurd (of_decide_eq_true z) (by with_reducible assumption))⟩
  · exact ret _ [] _ _ (by k_asm) (by walk_at "news") ⟨rfl, wot_empty (by with_reducible assumption) (dig_t (by with_reducible assumption) (by with_reducible assumption)) (by with_reducible assumption)⟩
  · exact ret _ [] _ _ (by k_asm) (by walk_at "news") ⟨rfl, wot_long (by with_reducible assumption) (dig_t (by with_reducible assumption) (by with_reducible assumption)) (by with_reducible assumption)⟩
  · exact ret _ [] _ _ (by k_asm) (by exact KStt.news_of (a := _ ++ _) (by assumption) (fun p hp => List.mem_append_left _ hp)) ⟨rfl, wot_bad (by with_reducible assumption) (dig_t (by with_reducible assumption) (by with_reducible assumption)) (wotP_b1 (by with_reducible assumption) (by with_reducible assumption) (by with_reducible assumption))⟩
  · exact ret _ [] _ _ (by k_asm) (by exact KStt.news_of (a := _ ++ _) (by assumption) (fun p hp => List.mem_append_left _ hp)) ⟨rfl, wot_bad (by with_reducible assumption) (dig_t (by with_reducible assumption) (by with_reducible assumption)) (wotP_b2 (by with_reducible assumption) (by with_reducible assumption) (by with_reducible assumption))⟩
  · exact ret _ [] _ _ (by k_asm) (by walk_at "news") ⟨rfl, wot_nt _ (by with_reducible assumption) (dig_t (by with_reducible assumption) (by with_reducible assumption)) (by with_reducible assumption) (by with_reducible assumption) (by with_reducible assumption) (by with_reducible assumption) (decide_eq_true (by with_reducible assumption))⟩
  · exact ret _ [] _ _ (by k_asm) (by walk_at "news") ⟨rfl, wot_nf (by with_reducible assumption) (dig_t (by with_reducible assumption) (by with_reducible assumption)) (by with_reducible assumption) (by with_reducible assumption) (by with_reducible assumption) (by with_reducible assumption) (fun z => absurd (of_decide_eq_true z) (by with_reducible assumption))⟩
  · exact ret _ [] _ _ (by k_asm) (by walk_at "news") ⟨rfl, wot_pt _ (by with_reducible assumption) (dig_t (by with_reducible assumption) (by with_reducible assumption)) (by with_reducible assumption) (by with_reducible assumption) (by with_reducible assumption) (by with_reducible assumption) (decide_eq_true (by with_reducible assumption))⟩
  · exact ret _ [] _ _ (by k_asm) (by walk_at "news") ⟨rfl, wot_pf (by with_reducible assumption) (dig_t (by with_reducible assumption) (by with_reducible assumption)) (by with_reducible assumption) (by with_reducible assumption) (by with_reducible assumption) (by with_reducible assumption) (fun z => absurd (of_decide_eq_true z) (by with_reducible assumption))⟩


end
end Mine
namespace Mine
section
theorem reg7 : True := by
  k_with_none
  k_with "m room" => (exact rm1 (by assumption) (by exact rfl))
  k_with "m units" => (exact rm2 (by assumption) (by exact rfl))
  k_with "m ctr" => (((case k1Z => k_asm); (case k2Z => k_asm); (case k3Z => k_asm); (case k4Z => k_asm); (case k5Z => k_asm); (case kKZ => first | exact rfl | assumption); (case kdZ => ktr_room); (case kuZ => ktr_units)))
  k_with "m exec Raise some none" => ((k_here; k_dflt (refine raise_exec (w := ‹World›) rfl ?_)))
  k_with "m RaisePost" => ((refine ⟨_, _, _, rfl, News.get (by k_asm) (List.Mem.tail _ (List.Mem.head _)), by k_in, ?_⟩))
  k_with "m call ref" => ((k_here; k_dflt ( (with_reducible show wpAny _ _ (call (Value.ref 34) _ _) _ _ _); refine' exc_made _ _ _ _ _ _ _ _ _ _ _ _ _ _ _ _ _ _ _ _ _ ?k1Z ?k2Z ?k3Z ?k4Z ?k5Z ?kAZ ?kFZ ?kKZ ?kRZ ?_; (case kAZ => exact rfl); (case k1Z => k_asm); (case k2Z => k_asm); (case k3Z => k_asm); (case k4Z => k_asm); (case k5Z => k_asm); (case kFZ => exact rfl); (case kKZ => first | exact rfl | assumption); (case kRZ => ktr_room); intro e9k d9k t9k k9k k9k' h9k tk9k F9k N9k ne9k lt9k; (try dsimp only))))
  k_with "m leaving" => ((k_here; k_dflt (first | (refine' leave_madeD ?k1Z ?k2Z ?k3Z (List.Mem.tail _ (List.Mem.head _)) (List.Mem.head _) ?k4Z ?_; (case k1Z => k_asm); (case k2Z => k_asm); (case k3Z => k_asm); (case k4Z => exact fun p hp => ⟨List.Mem.tail _ (List.Mem.tail _ hp), by solve_by_elim⟩); intro h9k B9k U9k) | (refine' leave_onD ?k1Z ?k2Z ?k3Z ?k4Z ?_; (case k1Z => k_asm); (case k2Z => k_asm); (case k3Z => k_asm); (case k4Z => k_asm); intro h9k B9k U9k))))
  k_with "m mem" => (first | exact List.mem_cons_self | (refine' List.mem_cons_of_mem _ ?_; k_mem))
  k_with "m news" => (first | with_reducible assumption | assumption | exact ndrop (by assumption) | exact ndrop (ndrop (by assumption)) | exact ndrop (ndrop (ndrop (by assumption))))
  k_with "m eval Call Name" => ((k_here; (fail_if_success (with_reducible show wpAny _ _ (eval (Expr.Call (Expr.Name "range" _) _ _ _) _) _ _ _)); k_dflt (refine Call_ ?_)))
  k_with "m boom" => (first | with_reducible assumption | exact Boom.sub (by assumption) (fun p hp => List.Mem.tail _ hp) | exact Boom.sub (by assumption) (fun p hp => List.Mem.tail _ (List.Mem.tail _ hp)) | exact Boom.sub (by assumption) (fun p hp => List.Mem.tail _ (List.mem_append.mpr (Or.inl hp))) | exact Boom.sub (by assumption) (fun p hp => List.mem_append.mpr (Or.inl hp)))
  k_with "m led" => (first | exact fun _ h => h | exact fun _ h => List.Mem.tail _ h | exact fun _ h => List.Mem.tail _ (List.Mem.tail _ h) | exact fun _ h => List.Mem.tail _ (List.Mem.tail _ (List.Mem.tail _ h)) | exact fun _ h => List.mem_append.mpr (Or.inr h) | exact fun _ h => List.mem_append.mpr (Or.inl h) | exact fun _ h => List.Mem.tail _ (List.mem_append.mpr (Or.inr h)) | exact fun _ h => List.mem_append.mpr (Or.inr (List.mem_append.mpr (Or.inr h))) | exact fun _ h => List.mem_append.mpr (Or.inr (List.Mem.tail _ h)))
  k_with "m call ref" => ((k_here; k_dflt (refine' call_cls ?k1Z ?k2Z ?k3Z ?k4Z ?k5Z ?k6Z ?_; (case k1Z => k_asm); (case k2Z => k_asm); (case k3Z => k_asm); (case k4Z => k_is); (case k5Z => k_is); (case k6Z => k_is); k_whole; intro x' d' h' F' N' l1k l2k; (try k_lt l1k); (try k_lt2 l2k); (try k_sweep); (refine' code_def ?k1Z ?k2Z ?k3Z ?k4Z ?k5Z ?kAZ ?kFZ ?kKZ ?k6Z ?k7Z ?k8Z ?k9Z ?kBZ ?_ ?c2Z ?c3Z ?c4Z ?c5Z; (case kAZ => exact rfl); (case kFZ => exact rfl); (case kKZ => first | exact rfl | assumption); (case k1Z => k_asm); (case k2Z => k_asm); (case k3Z => k_asm); (case k4Z => k_asm); (case k5Z => k_asm); (case k6Z => k_is); (case k7Z => k_is); (case k8Z => ktr_room); (case k9Z => exact BindsTo.of_eq rfl); (case c5Z => decide); (case kBZ => exact locs rfl); (case c2Z => exact rfl); (case c3Z => exact rfl); (case c4Z => exact rfl); k_whole; intro g' L' h' FG' F' N' B' X' T'; (try dsimp only); (try k_fold)))))
  k_with "m ite" => ((k_here; k_openite; with_reducible first | refine ite_pos (by assumption) ?_ | refine ite_neg (by assumption) ?_ | refine ite_isFalse (by assumption) ?_ | (refine split_ine ?_ ?_ <;> intro _) | (refine split_ieq ?_ ?_ <;> intro _) | refine split_not ?_ | (refine split_dec ?_ ?_ <;> intro _) | (refine split_bool ?_ ?_ <;> intro _)))
  k_with "m ite" => ((with_reducible first | refine ite_tt ?_ | refine ite_ff ?_))
  k_with "m testChain" => (dsimp only)
  k_with "m evalPairs" => (dsimp only)
  k_with "m compareChain" => (dsimp only)
  k_with "m ite" => ((k_closed; first | ((with_reducible refine ite_cf ?chZ ?_); (case chZ => decide +kernel)) | ((with_reducible refine ite_ct ?chZ ?_); (case chZ => decide +kernel))))
  k_with "m InvEndN" => (k_dflt kst_close)
  k_with "m call ref" => ((k_here; (with_reducible show wpAny _ _ (call (Value.ref 135) _ _) _ _ _); k_dflt (refine' Ctr.use (c_tow _ _ _ ?a1Z _) ?k1Z ?k2Z ?k3Z ?k4Z ?k5Z ?kKZ ?kdZ ?kuZ ?_ ?_; walk_at "ctr"; (case a1Z => first | assumption | exact IsPv.mono (by assumption) (by walk_at "led") | exact IsWorld.mono (by assumption) (by walk_at "led") | exact datMono (by assumption) (by walk_at "led")); rotate_left; exact (fun _ _ _ _ _ _ _ _ h => h.elim); intro r9k tl9k h9k tk9k F9k N9k o9k; (obtain ⟨o9k, p9k⟩ := o9k); subst o9k; (obtain ⟨t9k, p9k⟩ := p9k); subst p9k; (try simp only [List.nil_append] at N9k); (try dsimp only [nl_int, nl_str, nl_pat, nl_del, nl_hold, pl_int, pl_str, pl_pat, pl_del, pl_hold, pa_int, pa_str, pa_pat, pa_del, pa_hold]); (try k_fold))))
  k_with "m call ref" => ((k_here; (with_reducible show wpAny _ _ (call (Value.ref 128) _ _) _ _ _); k_dflt (refine' Ctr.use (c_wot _ _ _ _ _ ?a1Z ?a2Z ?a3Z _) ?k1Z ?k2Z ?k3Z ?k4Z ?k5Z ?kKZ ?kdZ ?kuZ ?_ ?_; walk_at "ctr"; (case a3Z => first | assumption | exact IsPv.mono (by assumption) (by walk_at "led") | exact IsWorld.mono (by assumption) (by walk_at "led") | exact datMono (by assumption) (by walk_at "led")); (case a2Z => first | assumption | exact IsPv.mono (by assumption) (by walk_at "led") | exact IsWorld.mono (by assumption) (by walk_at "led") | exact datMono (by assumption) (by walk_at "led")); (case a1Z => first | assumption | exact IsPv.mono (by assumption) (by walk_at "led") | exact IsWorld.mono (by assumption) (by walk_at "led") | exact datMono (by assumption) (by walk_at "led")); rotate_left; exact (fun _ _ _ _ _ _ _ _ h => h.elim); intro r9k tl9k h9k tk9k F9k N9k o9k; (obtain ⟨o9k, p9k⟩ := o9k); subst o9k; (try simp only [List.nil_append] at N9k); (try dsimp only [nl_int, nl_str, nl_pat, nl_del, nl_hold, pl_int, pl_str, pl_pat, pl_del, pl_hold, pa_int, pa_str, pa_pat, pa_del, pa_hold]); (try k_fold))))
  exact True.intro
set_option maxRecDepth 100000 in
set_option maxHeartbeats 8000000 in
theorem c_to_whole (w : World) (v : Value) (p : Pv) (wd : Int) (t : Tok) (ok : p.ok) (h5 : 5 ≤ wd) (h40 : wd ≤ 40) (news : Led) (hp : IsPv w news v p) :
   Ctr w 12 142 [v, .int wd t] news (fun r tl => tl = [] ∧ IsOpt r (p.whole wd)) (fun e => False) := by
  intro dp un gd cn cs a ccd cl outer A₀ base h₀ L m loose mean mg mb s Q E B F X N T hk hd hu ret exc
  cases hp
  all_goals (try (have ok1 : okS _ := ok))
  all_goals (refine wpAny_call ?_; k_dflt ktr_enter)
  all_goals k_steps
  all_goals first | exact ret _ [] _ _ (by k_asm) (by walk_at "news") ⟨rfl, by assumption⟩ | exact ret _ [] _ _ (by k_asm) (by walk_at "news") ⟨rfl, by constructor⟩

set_option maxRecDepth 100000 in
set_option maxHeartbeats 8000000 in
theorem c_to_text (w : World) (v : Value) (p : Pv) (ok : p.ok) (news : Led) (hp : IsPv w news v p) :
   Ctr w 9 149 [v] news (fun r tl => tl = [] ∧ IsOptS r p.text) (fun e => False) := by
  intro dp un gd cn cs a ccd cl outer A₀ base h₀ L m loose mean mg mb s Q E B F X N T hk hd hu ret exc
  cases hp
  all_goals (try (have ok1 : okI _ := ok))
  all_goals (refine wpAny_call ?_; k_dflt ktr_enter)
  all_goals k_steps
  all_goals exact ret _ [] _ _ (by k_asm) (by walk_at "news") ⟨rfl, by constructor⟩

theorem reg8 : True := by
  k_with "m call ref" => ((k_here; (with_reducible show wpAny _ _ (call (Value.ref 142) _ _) _ _ _); k_dflt (refine' Ctr.use (c_to_whole _ _ _ _ _ ?a1Z ?a2Z ?a3Z _ ?a4Z) ?k1Z ?k2Z ?k3Z ?k4Z ?k5Z ?kKZ ?kdZ ?kuZ ?_ ?_; walk_at "ctr"; (case a4Z => first | assumption | exact IsPv.mono (by assumption) (by walk_at "led") | exact IsWorld.mono (by assumption) (by walk_at "led") | exact datMono (by assumption) (by walk_at "led")); (case a3Z => first | assumption | exact IsPv.mono (by assumption) (by walk_at "led") | exact IsWorld.mono (by assumption) (by walk_at "led") | exact datMono (by assumption) (by walk_at "led")); (case a2Z => first | assumption | exact IsPv.mono (by assumption) (by walk_at "led") | exact IsWorld.mono (by assumption) (by walk_at "led") | exact datMono (by assumption) (by walk_at "led")); (case a1Z => first | assumption | exact IsPv.mono (by assumption) (by walk_at "led") | exact IsWorld.mono (by assumption) (by walk_at "led") | exact datMono (by assumption) (by walk_at "led")); rotate_left; exact (fun _ _ _ _ _ _ _ _ h => h.elim); intro r9k tl9k h9k tk9k F9k N9k o9k; (obtain ⟨o9k, p9k⟩ := o9k); subst o9k; (generalize hw9k : Pv.whole _ _ = ow9k at p9k); cases p9k; (try simp only [List.nil_append] at N9k); (try dsimp only [nl_int, nl_str, nl_pat, nl_del, nl_hold, pl_int, pl_str, pl_pat, pl_del, pl_hold, pa_int, pa_str, pa_pat, pa_del, pa_hold]); (try k_fold))))
  exact True.intro
set_option maxRecDepth 100000 in
set_option maxHeartbeats 8000000 in
theorem c_need_whole (w : World) (v : Value) (p : Pv) (wd : Int) (t : Tok) (ok : p.ok) (h5 : 5 ≤ wd) (h40 : wd ≤ 40) (news : Led) (hp : IsPv w news v p) :
   Ctr w 15 156 [v, .int wd t] news (fun r tl => tl = [] ∧ ∃ i t1, r = .int i t1 ∧ p.whole wd = some i) (fun e => e = 1 ∧ p.whole wd = none) := by
  intro dp un gd cn cs a ccd cl outer A₀ base h₀ L m loose mean mg mb s Q E B F X N T hk hd hu ret exc
  all_goals (refine wpAny_call ?_; k_dflt ktr_enter)
  all_goals k_steps
  · exact exc _ _ _ _ _ (by k_asm) (by walk_at "boom") (by k_asm) ⟨rfl, by assumption⟩
  · exact ret _ [] _ _ (by k_asm) (by walk_at "news") ⟨rfl, _, _, rfl, by assumption⟩


end
end Mine
namespace Mine
section
theorem reg9 : True := by
  k_with_none
  k_with "m room" => (exact rm1 (by assumption) (by exact rfl))
  k_with "m units" => (exact rm2 (by assumption) (by exact rfl))
  k_with "m ctr" => (((case k1Z => k_asm); (case k2Z => k_asm); (case k3Z => k_asm); (case k4Z => k_asm); (case k5Z => k_asm); (case kKZ => first | exact rfl | assumption); (case kdZ => ktr_room); (case kuZ => ktr_units)))
  k_with "m exec Raise some none" => ((k_here; k_dflt (refine raise_exec (w := ‹World›) rfl ?_)))
  k_with "m RaisePost" => ((refine ⟨_, _, _, rfl, News.get (by k_asm) (List.Mem.tail _ (List.Mem.head _)), by k_in, ?_⟩))
  k_with "m call ref" => ((k_here; k_dflt ( (with_reducible show wpAny _ _ (call (Value.ref 34) _ _) _ _ _); refine' exc_made _ _ _ _ _ _ _ _ _ _ _ _ _ _ _ _ _ _ _ _ _ ?k1Z ?k2Z ?k3Z ?k4Z ?k5Z ?kAZ ?kFZ ?kKZ ?kRZ ?_; (case kAZ => exact rfl); (case k1Z => k_asm); (case k2Z => k_asm); (case k3Z => k_asm); (case k4Z => k_asm); (case k5Z => k_asm); (case kFZ => exact rfl); (case kKZ => first | exact rfl | assumption); (case kRZ => ktr_room); intro e9k d9k t9k k9k k9k' h9k tk9k F9k N9k ne9k lt9k; (try dsimp only))))
  k_with "m leaving" => ((k_here; k_dflt (first | (refine' leave_madeD ?k1Z ?k2Z ?k3Z (List.Mem.tail _ (List.Mem.head _)) (List.Mem.head _) ?k4Z ?_; (case k1Z => k_asm); (case k2Z => k_asm); (case k3Z => k_asm); (case k4Z => exact fun p hp => ⟨List.Mem.tail _ (List.Mem.tail _ hp), by solve_by_elim⟩); intro h9k B9k U9k) | (refine' leave_onD ?k1Z ?k2Z ?k3Z ?k4Z ?_; (case k1Z => k_asm); (case k2Z => k_asm); (case k3Z => k_asm); (case k4Z => k_asm); intro h9k B9k U9k))))
  k_with "m mem" => (first | exact List.mem_cons_self | (refine' List.mem_cons_of_mem _ ?_; k_mem))
  k_with "m news" => (first | with_reducible assumption | assumption | exact ndrop (by assumption) | exact ndrop (ndrop (by assumption)) | exact ndrop (ndrop (ndrop (by assumption))))
  k_with "m eval Call Name" => ((k_here; (fail_if_success (with_reducible show wpAny _ _ (eval (Expr.Call (Expr.Name "range" _) _ _ _) _) _ _ _)); k_dflt (refine Call_ ?_)))
  k_with "m boom" => (first | with_reducible assumption | exact Boom.sub (by assumption) (fun p hp => List.Mem.tail _ hp) | exact Boom.sub (by assumption) (fun p hp => List.Mem.tail _ (List.Mem.tail _ hp)) | exact Boom.sub (by assumption) (fun p hp => List.Mem.tail _ (List.mem_append.mpr (Or.inl hp))) | exact Boom.sub (by assumption) (fun p hp => List.mem_append.mpr (Or.inl hp)))
  k_with "m led" => (first | exact fun _ h => h | exact fun _ h => List.Mem.tail _ h | exact fun _ h => List.Mem.tail _ (List.Mem.tail _ h) | exact fun _ h => List.Mem.tail _ (List.Mem.tail _ (List.Mem.tail _ h)) | exact fun _ h => List.mem_append.mpr (Or.inr h) | exact fun _ h => List.mem_append.mpr (Or.inl h) | exact fun _ h => List.Mem.tail _ (List.mem_append.mpr (Or.inr h)) | exact fun _ h => List.mem_append.mpr (Or.inr (List.mem_append.mpr (Or.inr h))) | exact fun _ h => List.mem_append.mpr (Or.inr (List.Mem.tail _ h)))
  k_with "m call ref" => ((k_here; k_dflt (refine' call_cls ?k1Z ?k2Z ?k3Z ?k4Z ?k5Z ?k6Z ?_; (case k1Z => k_asm); (case k2Z => k_asm); (case k3Z => k_asm); (case k4Z => k_is); (case k5Z => k_is); (case k6Z => k_is); k_whole; intro x' d' h' F' N' l1k l2k; (try k_lt l1k); (try k_lt2 l2k); (try k_sweep); (refine' code_def ?k1Z ?k2Z ?k3Z ?k4Z ?k5Z ?kAZ ?kFZ ?kKZ ?k6Z ?k7Z ?k8Z ?k9Z ?kBZ ?_ ?c2Z ?c3Z ?c4Z ?c5Z; (case kAZ => exact rfl); (case kFZ => exact rfl); (case kKZ => first | exact rfl | assumption); (case k1Z => k_asm); (case k2Z => k_asm); (case k3Z => k_asm); (case k4Z => k_asm); (case k5Z => k_asm); (case k6Z => k_is); (case k7Z => k_is); (case k8Z => ktr_room); (case k9Z => exact BindsTo.of_eq rfl); (case c5Z => decide); (case kBZ => exact locs rfl); (case c2Z => exact rfl); (case c3Z => exact rfl); (case c4Z => exact rfl); k_whole; intro g' L' h' FG' F' N' B' X' T'; (try dsimp only); (try k_fold)))))
  k_with "m ite" => ((k_here; k_openite; with_reducible first | refine ite_pos (by assumption) ?_ | refine ite_neg (by assumption) ?_ | refine ite_isFalse (by assumption) ?_ | (refine split_ine ?_ ?_ <;> intro _) | (refine split_ieq ?_ ?_ <;> intro _) | refine split_not ?_ | (refine split_dec ?_ ?_ <;> intro _) | (refine split_bool ?_ ?_ <;> intro _)))
  k_with "m ite" => ((with_reducible first | refine ite_tt ?_ | refine ite_ff ?_))
  k_with "m testChain" => (dsimp only)
  k_with "m evalPairs" => (dsimp only)
  k_with "m compareChain" => (dsimp only)
  k_with "m ite" => ((k_closed; first | ((with_reducible refine ite_cf ?chZ ?_); (case chZ => decide +kernel)) | ((with_reducible refine ite_ct ?chZ ?_); (case chZ => decide +kernel))))
  k_with "m InvEndN" => (k_dflt kst_close)
  exact True.intro
theorem absdiv_t {x y : Int} (h : (decide (x < 0) == decide (y < 0)) = true) : (if x < 0 then -x else x).fdiv (if y < 0 then -y else y) = x.tdiv y := by
  by_cases hx : x < 0 <;> by_cases hy : y < 0 <;> simp only [hx, hy, if_true, if_false, decide_true, decide_false] at h ⊢
  · rw [Int.fdiv_eq_tdiv_of_nonneg (by omega) (by omega), Int.neg_tdiv, Int.tdiv_neg, Int.neg_neg]
  · cases h
  · cases h
  · rw [Int.fdiv_eq_tdiv_of_nonneg (by omega) (by omega)]
theorem absdiv_f {x y : Int} (h : (decide (x < 0) == decide (y < 0)) = false) : -(if x < 0 then -x else x).fdiv (if y < 0 then -y else y) = x.tdiv y := by
  by_cases hx : x < 0 <;> by_cases hy : y < 0 <;> simp only [hx, hy, if_true, if_false, decide_true, decide_false] at h ⊢
  · cases h
  · rw [Int.fdiv_eq_tdiv_of_nonneg (by omega) (by omega), Int.neg_tdiv, Int.neg_neg]
  · rw [Int.fdiv_eq_tdiv_of_nonneg (by omega) (by omega), Int.tdiv_neg, Int.neg_neg]
  · cases h
theorem log_small {y : Int} (h : y.natAbs < 2 ^ 9000) : y.natAbs.log2 < 9000 := by
  by_cases h0 : y.natAbs = 0
  · rw [h0]; decide
  · exact (Nat.log2_lt h0).mpr h

theorem ok_nat {x : Int} (h : okI x) : okI (if x < 0 then -x else x) := by unfold okI at *; split <;> omega
theorem ok_pos {y : Int} (h : y ≠ 0) : (if y < 0 then -y else y) ≠ 0 := by
  split <;> omega
theorem noPy {a b : Int} (h : okI b) : Builtin.divisionGoesByPylong a b = false := PyProof.noPylong_of_log2 (log_small (Nat.lt_of_lt_of_le (show b.natAbs < 2 ^ 40 by unfold okI at h; omega) (Nat.pow_le_pow_right (by decide) (by decide))))
theorem reg10 : True := by
  k_with "m binaryOp FloorDiv int int" => ((k_here; refine floordiv_int (ok_pos (by assumption)) ?_ (Or.inl (noPy (ok_nat (by assumption))))))
  exact True.intro
set_option maxRecDepth 100000 in
set_option maxHeartbeats 8000000 in
theorem c_divided (w : World) (x y : Int) (t1 t2 : Tok) (hy : okI y) (news : Led) :
   Ctr w 9 228 [.int x t1, .int y t2] news (fun r tl => tl = [] ∧ (∃ t, r = .int (Int.tdiv x y) t) ∧ y ≠ 0) (fun e => e = 2 ∧ y = 0) := by
  intro dp un gd cn cs a ccd cl outer A₀ base h₀ L m loose mean mg mb s Q E B F X N T hk hd hu ret exc
  skip
  all_goals (refine wpAny_call ?_; k_dflt ktr_enter)
  all_goals k_steps
  · exact exc _ _ _ _ _ (by k_asm) (by walk_at "boom") (by k_asm) ⟨rfl, by assumption⟩
  · exact ret _ [] _ _ (by k_asm) (by walk_at "news") ⟨rfl, ⟨_, congrArg (Value.int · _) (absdiv_t (by assumption))⟩, by assumption⟩
  · exact ret _ [] _ _ (by k_asm) (by walk_at "news") ⟨rfl, ⟨_, congrArg (Value.int · _) (absdiv_f (by assumption))⟩, by assumption⟩

theorem reg11 : True := by
  k_with "m call ref" => ((k_here; (with_reducible show wpAny _ _ (call (Value.ref 228) _ _) _ _ _); k_dflt (refine' Ctr.use (c_divided _ _ _ _ _ ?a1Z _) ?k1Z ?k2Z ?k3Z ?k4Z ?k5Z ?kKZ ?kdZ ?kuZ ?_ ?_; walk_at "ctr"; (case a1Z => first | assumption | exact IsPv.mono (by assumption) (by walk_at "led") | exact IsWorld.mono (by assumption) (by walk_at "led") | exact datMono (by assumption) (by walk_at "led")); rotate_left; intro g9k e9k n9k h9k tk9k F9k B9k U9k b9k; (try dsimp only at b9k); (try ((obtain ⟨b9k, b9k'⟩ := b9k); subst b9k)); (try dsimp only); rotate_left; intro r9k tl9k h9k tk9k F9k N9k o9k; (obtain ⟨o9k, p9k, q9k⟩ := o9k); subst o9k; (obtain ⟨t9k, p9k⟩ := p9k); subst p9k; (try simp only [List.nil_append] at N9k); (try dsimp only [nl_int, nl_str, nl_pat, nl_del, nl_hold, pl_int, pl_str, pl_pat, pl_del, pl_hold, pa_int, pa_str, pa_pat, pa_del, pa_hold]); (try k_fold))))
  exact True.intro
set_option maxRecDepth 100000 in
set_option maxHeartbeats 8000000 in
theorem c_remainder (w : World) (x y : Int) (t1 t2 : Tok) (hy : okI y) (news : Led) :
   Ctr w 12 235 [.int x t1, .int y t2] news (fun r tl => tl = [] ∧ (∃ t, r = .int (x - y * Int.tdiv x y) t) ∧ y ≠ 0) (fun e => e = 2 ∧ y = 0) := by
  intro dp un gd cn cs a ccd cl outer A₀ base h₀ L m loose mean mg mb s Q E B F X N T hk hd hu ret exc
  skip
  all_goals (refine wpAny_call ?_; k_dflt ktr_enter)
  all_goals k_steps
  · exact ret _ [] _ _ (by k_asm) (by walk_at "news") ⟨rfl, ⟨_, rfl⟩, by assumption⟩
  · exact exc _ _ _ _ _ (by k_asm) (by walk_at "boom") (by k_asm) ⟨rfl, by assumption⟩


theorem reg12 : True := by
  k_with "m call ref" => ((k_here; (with_reducible show wpAny _ _ (call (Value.ref 163) _ _) _ _ _); k_dflt (refine' Ctr.use (c_checked _ _ _ _ _ ?a1Z ?a2Z _) ?k1Z ?k2Z ?k3Z ?k4Z ?k5Z ?kKZ ?kdZ ?kuZ ?_ ?_; walk_at "ctr"; (case a2Z => first | assumption | exact IsPv.mono (by assumption) (by walk_at "led") | exact IsWorld.mono (by assumption) (by walk_at "led") | exact datMono (by assumption) (by walk_at "led")); (case a1Z => first | assumption | exact IsPv.mono (by assumption) (by walk_at "led") | exact IsWorld.mono (by assumption) (by walk_at "led") | exact datMono (by assumption) (by walk_at "led")); rotate_left; intro g9k e9k n9k h9k tk9k F9k B9k U9k b9k; (try dsimp only at b9k); (try ((obtain ⟨b9k, b9k'⟩ := b9k); subst b9k)); (try dsimp only); rotate_left; intro r9k tl9k h9k tk9k F9k N9k o9k; (obtain ⟨o9k, p9k, q9k⟩ := o9k); subst o9k; subst p9k; (try simp only [List.nil_append] at N9k); (try dsimp only [nl_int, nl_str, nl_pat, nl_del, nl_hold, pl_int, pl_str, pl_pat, pl_del, pl_hold, pa_int, pa_str, pa_pat, pa_del, pa_hold]); (try k_fold))))
  exact True.intro
noncomputable abbrev Ans := Except Int Int
noncomputable def chk (n wd : Int) : Ans := if fitsB n wd then .ok n else .error 2
noncomputable def powL (x wd : Int) : Nat → Int → Ans
  | 0, f => .ok f
  | k + 1, f => if fitsB (f * x) wd then powL x wd k (f * x) else .error 2
noncomputable def powA (x y wd : Int) : Ans :=
  if y < 0 then .error 2
  else if ([0, 1].any fun z => z == x) = true ∨ y = 0 then .ok (if y = 0 then 1 else x)
  else if x = -1 then .ok (if y.fmod 2 = 0 then 1 else -1)
  else if wd < y then .error 2
  else powL x wd y.toNat 1
theorem sub0 (y : Int) : (y - 0).toNat = y.toNat := congrArg Int.toNat (Int.sub_zero y)
theorem nsub {a b : Nat} {y : Int} (e : a = y.toNat) (h : b < (y - 0).toNat) : a - b = (a - b - 1) + 1 := by
  rw [sub0, ← e] at h
  exact (Nat.succ_pred_eq_of_pos (Nat.sub_pos_of_lt h)).symm
theorem nsub1 {y k : Int} {pre : List Int} (lt : pre.length < (y - 0).toNat) : y.toNat - pre.length = (y.toNat - (pre ++ [k]).length) + 1 := by
  rw [List.length_append, List.length_singleton, Nat.sub_add_eq]; exact nsub rfl lt
theorem nsub0 (y : Int) : y.toNat - (y - 0).toNat = 0 := by rw [sub0]; exact Nat.sub_self _
theorem powL_step {x wd y f k : Int} {pre : List Int} (h : powL x wd y.toNat 1 = powL x wd (y.toNat - pre.length) f) (lt : pre.length < (y - 0).toNat) (q : -2 ^ (wd - 1).toNat ≤ f * x ∧ f * x < 2 ^ (wd - 1).toNat) :
    powL x wd y.toNat 1 = powL x wd (y.toNat - (pre ++ [k]).length) (f * x) := by
  rw [h, nsub1 (k := k) lt, powL, if_pos (show fitsB (f * x) wd = true from decide_eq_true q)]
theorem powL_err {x wd y f : Int} {pre : List Int} (h : powL x wd y.toNat 1 = powL x wd (y.toNat - pre.length) f) (lt : pre.length < (y - 0).toNat) (q : ¬ (-2 ^ (wd - 1).toNat ≤ f * x ∧ f * x < 2 ^ (wd - 1).toNat)) :
    powL x wd y.toNat 1 = .error 2 := by
  rw [h, nsub rfl lt, powL, if_neg (show ¬ fitsB (f * x) wd = true from fun z => q (of_decide_eq_true z))]
theorem powL_done {x wd y f : Int} (h : powL x wd y.toNat 1 = powL x wd (y.toNat - (rangeKs 0 (y - 0).toNat).length) f) : powL x wd y.toNat 1 = .ok f := by
  rw [h, rangeKs_length, nsub0 y, powL]
set_option maxRecDepth 100000 in
set_option maxHeartbeats 8000000 in
theorem c_raised (w : World) (x y wd : Int) (t1 t2 t3 : Tok) (hx : okI x) (hy : okI y) (h5 : 5 ≤ wd) (h40 : wd ≤ 40) (news : Led) :
   Ctr w 9 242 [.int x t1, .int y t2, .int wd t3] news (fun r tl => tl = [] ∧ ∃ n t, r = .int n t ∧ powA x y wd = .ok n) (fun e => powA x y wd = .error e) := by
  intro dp un gd cn cs a ccd cl outer A₀ base h₀ L m loose mean mg mb s Q E B F X N T hk hd hu ret exc
  (k_with "pyIter ref" => k_state (fun pre f => powL x wd y.toNat 1 = powL x wd (y.toNat - pre.length) f) "found")
  (k_with "state" => first | exact powL_step (by assumption) (by assumption) (by assumption) | rfl)
  all_goals (refine wpAny_call ?_; k_dflt ktr_enter)
  all_goals k_steps
  · exact exc _ _ _ _ _ (by k_asm) (by walk_at "boom") (by k_asm) (show powA x y wd = _ by unfold powA; rw [if_pos (by assumption)])
  · exact ret _ [] _ _ (by k_asm) (by walk_at "news") ⟨rfl, _, _, rfl, show powA x y wd = _ by unfold powA; rw [if_neg (by assumption), if_pos (.inl (by assumption)), if_pos (by assumption)]⟩
  · exact ret _ [] _ _ (by k_asm) (by walk_at "news") ⟨rfl, _, _, rfl, show powA x y wd = _ by unfold powA; rw [if_neg (by assumption), if_pos (.inl (by assumption)), if_neg (by assumption)]⟩
  · exact ret _ [] _ _ (by k_asm) (by walk_at "news") ⟨rfl, _, _, rfl, show powA x y wd = _ by unfold powA; rw [if_neg (by assumption), if_pos (.inr (by assumption)), if_pos (by assumption)]⟩
  · contradiction
  · exact ret _ [] _ _ (by k_asm) (by walk_at "news") ⟨rfl, _, _, rfl, show powA x y wd = _ by unfold powA; rw [if_neg (by assumption), if_neg (by simp_all), if_pos (by assumption), if_pos (by assumption)]⟩
  · exact ret _ [] _ _ (by k_asm) (by walk_at "news") ⟨rfl, _, _, rfl, show powA x y wd = _ by unfold powA; rw [if_neg (by assumption), if_neg (by simp_all), if_pos (by assumption), if_neg (by assumption)]⟩
  · exact exc _ _ _ _ _ (by k_asm) (by walk_at "boom") (by k_asm) (show powA x y wd = _ by unfold powA; rw [if_neg (by assumption), if_neg (by simp_all), if_neg (by assumption), if_pos (by assumption)])
  · exact exc _ _ _ _ _ (by k_asm) (by walk_at "boom") (by k_asm) (show powA x y wd = _ by unfold powA; rw [if_neg (by assumption), if_neg (by simp_all), if_neg (by assumption), if_neg (by assumption)]; exact powL_err (by assumption) (by assumption) (by assumption))
  · exact ret _ [] _ _ (by k_asm) (by walk_at "news") ⟨rfl, _, _, rfl, show powA x y wd = _ by unfold powA; rw [if_neg (by assumption), if_neg (by simp_all), if_neg (by assumption), if_neg (by assumption)]; exact powL_done (by assumption)⟩



end
end Mine
namespace Mine
section

theorem reg13 : True := by
  k_with_none
  k_with "m room" => (exact rm1 (by assumption) (by exact rfl))
  k_with "m units" => (exact rm2 (by assumption) (by exact rfl))
  k_with "m ctr" => (((case k1Z => k_asm); (case k2Z => k_asm); (case k3Z => k_asm); (case k4Z => k_asm); (case k5Z => k_asm); (case kKZ => first | exact rfl | assumption); (case kdZ => ktr_room); (case kuZ => ktr_units)))
  k_with "m exec Raise some none" => ((k_here; k_dflt (refine raise_exec (w := ‹World›) rfl ?_)))
  k_with "m RaisePost" => ((refine ⟨_, _, _, rfl, News.get (by k_asm) (List.Mem.tail _ (List.Mem.head _)), by k_in, ?_⟩))
  k_with "m call ref" => ((k_here; k_dflt ( (with_reducible show wpAny _ _ (call (Value.ref 34) _ _) _ _ _); refine' exc_made _ _ _ _ _ _ _ _ _ _ _ _ _ _ _ _ _ _ _ _ _ ?k1Z ?k2Z ?k3Z ?k4Z ?k5Z ?kAZ ?kFZ ?kKZ ?kRZ ?_; (case kAZ => exact rfl); (case k1Z => k_asm); (case k2Z => k_asm); (case k3Z => k_asm); (case k4Z => k_asm); (case k5Z => k_asm); (case kFZ => exact rfl); (case kKZ => first | exact rfl | assumption); (case kRZ => ktr_room); intro e9k d9k t9k k9k k9k' h9k tk9k F9k N9k ne9k lt9k; (try dsimp only))))
  k_with "m leaving" => ((k_here; k_dflt (first | (refine' leave_madeD ?k1Z ?k2Z ?k3Z (List.Mem.tail _ (List.Mem.head _)) (List.Mem.head _) ?k4Z ?_; (case k1Z => k_asm); (case k2Z => k_asm); (case k3Z => k_asm); (case k4Z => exact fun p hp => ⟨List.Mem.tail _ (List.Mem.tail _ hp), by solve_by_elim⟩); intro h9k B9k U9k) | (refine' leave_onD ?k1Z ?k2Z ?k3Z ?k4Z ?_; (case k1Z => k_asm); (case k2Z => k_asm); (case k3Z => k_asm); (case k4Z => k_asm); intro h9k B9k U9k))))
  k_with "m mem" => (first | exact List.mem_cons_self | (refine' List.mem_cons_of_mem _ ?_; k_mem))
  k_with "m news" => (first | with_reducible assumption | assumption | exact ndrop (by assumption) | exact ndrop (ndrop (by assumption)) | exact ndrop (ndrop (ndrop (by assumption))))
  k_with "m eval Call Name" => ((k_here; (fail_if_success (with_reducible show wpAny _ _ (eval (Expr.Call (Expr.Name "range" _) _ _ _) _) _ _ _)); k_dflt (refine Call_ ?_)))
  k_with "m boom" => (first | with_reducible assumption | exact Boom.sub (by assumption) (fun p hp => List.Mem.tail _ hp) | exact Boom.sub (by assumption) (fun p hp => List.Mem.tail _ (List.Mem.tail _ hp)) | exact Boom.sub (by assumption) (fun p hp => List.Mem.tail _ (List.mem_append.mpr (Or.inl hp))) | exact Boom.sub (by assumption) (fun p hp => List.mem_append.mpr (Or.inl hp)))
  k_with "m led" => (first | exact fun _ h => h | exact fun _ h => List.Mem.tail _ h | exact fun _ h => List.Mem.tail _ (List.Mem.tail _ h) | exact fun _ h => List.Mem.tail _ (List.Mem.tail _ (List.Mem.tail _ h)) | exact fun _ h => List.mem_append.mpr (Or.inr h) | exact fun _ h => List.mem_append.mpr (Or.inl h) | exact fun _ h => List.Mem.tail _ (List.mem_append.mpr (Or.inr h)) | exact fun _ h => List.mem_append.mpr (Or.inr (List.mem_append.mpr (Or.inr h))) | exact fun _ h => List.mem_append.mpr (Or.inr (List.Mem.tail _ h)))
  k_with "m call ref" => ((k_here; k_dflt (refine' call_cls ?k1Z ?k2Z ?k3Z ?k4Z ?k5Z ?k6Z ?_; (case k1Z => k_asm); (case k2Z => k_asm); (case k3Z => k_asm); (case k4Z => k_is); (case k5Z => k_is); (case k6Z => k_is); k_whole; intro x' d' h' F' N' l1k l2k; (try k_lt l1k); (try k_lt2 l2k); (try k_sweep); (refine' code_def ?k1Z ?k2Z ?k3Z ?k4Z ?k5Z ?kAZ ?kFZ ?kKZ ?k6Z ?k7Z ?k8Z ?k9Z ?kBZ ?_ ?c2Z ?c3Z ?c4Z ?c5Z; (case kAZ => exact rfl); (case kFZ => exact rfl); (case kKZ => first | exact rfl | assumption); (case k1Z => k_asm); (case k2Z => k_asm); (case k3Z => k_asm); (case k4Z => k_asm); (case k5Z => k_asm); (case k6Z => k_is); (case k7Z => k_is); (case k8Z => ktr_room); (case k9Z => exact BindsTo.of_eq rfl); (case c5Z => decide); (case kBZ => exact locs rfl); (case c2Z => exact rfl); (case c3Z => exact rfl); (case c4Z => exact rfl); k_whole; intro g' L' h' FG' F' N' B' X' T'; (try dsimp only); (try k_fold)))))
  k_with "m ite" => ((k_here; k_openite; with_reducible first | refine ite_pos (by assumption) ?_ | refine ite_neg (by assumption) ?_ | refine ite_isFalse (by assumption) ?_ | (refine split_ine ?_ ?_ <;> intro _) | (refine split_ieq ?_ ?_ <;> intro _) | refine split_not ?_ | (refine split_dec ?_ ?_ <;> intro _) | (refine split_bool ?_ ?_ <;> intro _)))
  k_with "m ite" => ((with_reducible first | refine ite_tt ?_ | refine ite_ff ?_))
  k_with "m testChain" => (dsimp only)
  k_with "m evalPairs" => (dsimp only)
  k_with "m compareChain" => (dsimp only)
  k_with "m ite" => ((k_closed; first | ((with_reducible refine ite_cf ?chZ ?_); (case chZ => decide +kernel)) | ((with_reducible refine ite_ct ?chZ ?_); (case chZ => decide +kernel))))
  k_with "m InvEndN" => (k_dflt kst_close)
  exact True.intro
inductive Op where | add | sub | mul | div | pow | bang
noncomputable def Op.s : Op → Str
  | .add => nm "+" | .sub => nm "-" | .mul => nm "*" | .div => nm "/" | .pow => nm "**" | .bang => nm "!"
noncomputable def reck (o : Op) (x y wd : Int) : Ans := match o with
  | .add => chk (x + y) wd
  | .sub => chk (x - y) wd
  | .mul => chk (x * y) wd
  | .div => if y = 0 then .error 2 else chk (Int.tdiv x y) wd
  | .pow => powA x y wd
  | .bang => powA x y wd
theorem chk_ok {n wd : Int} (h : -2 ^ (wd - 1).toNat ≤ n ∧ n < 2 ^ (wd - 1).toNat) : chk n wd = .ok n := by unfold chk; rw [if_pos (show fitsB n wd = true from decide_eq_true h)]
theorem chk_err {n wd : Int} (h : ¬ (-2 ^ (wd - 1).toNat ≤ n ∧ n < 2 ^ (wd - 1).toNat)) : chk n wd = .error 2 := by unfold chk; rw [if_neg (show ¬ fitsB n wd = true from fun z => h (of_decide_eq_true z))]
theorem reg14 : True := by
  k_with "m call ref" => ((k_here; (with_reducible show wpAny _ _ (call (Value.ref 163) _ _) _ _ _); k_dflt (refine' Ctr.use (c_checked _ _ _ _ _ ?a1Z ?a2Z _) ?k1Z ?k2Z ?k3Z ?k4Z ?k5Z ?kKZ ?kdZ ?kuZ ?_ ?_; walk_at "ctr"; (case a2Z => first | assumption | exact IsPv.mono (by assumption) (by walk_at "led") | exact IsWorld.mono (by assumption) (by walk_at "led") | exact datMono (by assumption) (by walk_at "led")); (case a1Z => first | assumption | exact IsPv.mono (by assumption) (by walk_at "led") | exact IsWorld.mono (by assumption) (by walk_at "led") | exact datMono (by assumption) (by walk_at "led")); rotate_left; intro g9k e9k n9k h9k tk9k F9k B9k U9k b9k; (try dsimp only at b9k); (try ((obtain ⟨b9k, b9k'⟩ := b9k); subst b9k)); (try dsimp only); rotate_left; intro r9k tl9k h9k tk9k F9k N9k o9k; (obtain ⟨o9k, p9k, q9k⟩ := o9k); subst o9k; subst p9k; (try simp only [List.nil_append] at N9k); (try dsimp only [nl_int, nl_str, nl_pat, nl_del, nl_hold, pl_int, pl_str, pl_pat, pl_del, pl_hold, pa_int, pa_str, pa_pat, pa_del, pa_hold]); (try k_fold))))
  k_with "m call ref" => ((k_here; (with_reducible show wpAny _ _ (call (Value.ref 228) _ _) _ _ _); k_dflt (refine' Ctr.use (c_divided _ _ _ _ _ ?a1Z _) ?k1Z ?k2Z ?k3Z ?k4Z ?k5Z ?kKZ ?kdZ ?kuZ ?_ ?_; walk_at "ctr"; (case a1Z => first | assumption | exact IsPv.mono (by assumption) (by walk_at "led") | exact IsWorld.mono (by assumption) (by walk_at "led") | exact datMono (by assumption) (by walk_at "led")); rotate_left; intro g9k e9k n9k h9k tk9k F9k B9k U9k b9k; (try dsimp only at b9k); (try ((obtain ⟨b9k, b9k'⟩ := b9k); subst b9k)); (try dsimp only); rotate_left; intro r9k tl9k h9k tk9k F9k N9k o9k; (obtain ⟨o9k, p9k, q9k⟩ := o9k); subst o9k; (obtain ⟨t9k, p9k⟩ := p9k); subst p9k; (try simp only [List.nil_append] at N9k); (try dsimp only [nl_int, nl_str, nl_pat, nl_del, nl_hold, pl_int, pl_str, pl_pat, pl_del, pl_hold, pa_int, pa_str, pa_pat, pa_del, pa_hold]); (try k_fold))))
  k_with "m call ref" => ((k_here; (with_reducible show wpAny _ _ (call (Value.ref 242) _ _) _ _ _); k_dflt (refine' Ctr.use (c_raised _ _ _ _ _ _ _ ?a1Z ?a2Z ?a3Z ?a4Z _) ?k1Z ?k2Z ?k3Z ?k4Z ?k5Z ?kKZ ?kdZ ?kuZ ?_ ?_; walk_at "ctr"; (case a4Z => first | assumption | exact IsPv.mono (by assumption) (by walk_at "led") | exact IsWorld.mono (by assumption) (by walk_at "led") | exact datMono (by assumption) (by walk_at "led")); (case a3Z => first | assumption | exact IsPv.mono (by assumption) (by walk_at "led") | exact IsWorld.mono (by assumption) (by walk_at "led") | exact datMono (by assumption) (by walk_at "led")); (case a2Z => first | assumption | exact IsPv.mono (by assumption) (by walk_at "led") | exact IsWorld.mono (by assumption) (by walk_at "led") | exact datMono (by assumption) (by walk_at "led")); (case a1Z => first | assumption | exact IsPv.mono (by assumption) (by walk_at "led") | exact IsWorld.mono (by assumption) (by walk_at "led") | exact datMono (by assumption) (by walk_at "led")); rotate_left; intro g9k e9k n9k h9k tk9k F9k B9k U9k b9k; (try dsimp only at b9k); (try ((obtain ⟨b9k, b9k'⟩ := b9k); subst b9k)); (try dsimp only); rotate_left; intro r9k tl9k h9k tk9k F9k N9k o9k; (obtain ⟨o9k, p9k⟩ := o9k); subst o9k; (obtain ⟨i9k, t9k, p9k, q9k⟩ := p9k); subst p9k; (try simp only [List.nil_append] at N9k); (try dsimp only [nl_int, nl_str, nl_pat, nl_del, nl_hold, pl_int, pl_str, pl_pat, pl_del, pl_hold, pa_int, pa_str, pa_pat, pa_del, pa_hold]); (try k_fold))))
  exact True.intro
set_option maxRecDepth 100000 in
set_option maxHeartbeats 8000000 in
theorem c_reckoned (w : World) (o : Op) (sv : Str) (x y wd : Int) (t0 t1 t2 t3 : Tok) (hs : sv = o.s) (hx : okI x) (hy : okI y) (h5 : 5 ≤ wd) (h40 : wd ≤ 40) (news : Led) :
   Ctr w 12 249 [.str sv t0, .int x t1, .int y t2, .int wd t3] news (fun r tl => tl = [] ∧ ∃ n t, r = .int n t ∧ reck o x y wd = .ok n) (fun e => reck o x y wd = .error e) := by
  intro dp un gd cn cs a ccd cl outer A₀ base h₀ L m loose mean mg mb s Q E B F X N T hk hd hu ret exc
  cases o <;> subst hs
  all_goals (refine wpAny_call ?_; k_dflt ktr_enter)
  all_goals k_steps
  · exact ret _ [] _ _ (by k_asm) (by walk_at "news") ⟨rfl, _, _, rfl, chk_ok (by assumption)⟩
  · exact exc _ _ _ _ _ (by k_asm) (by walk_at "boom") (by k_asm) (chk_err (by assumption))
  · exact ret _ [] _ _ (by k_asm) (by walk_at "news") ⟨rfl, _, _, rfl, chk_ok (by assumption)⟩
  · exact exc _ _ _ _ _ (by k_asm) (by walk_at "boom") (by k_asm) (chk_err (by assumption))
  · exact ret _ [] _ _ (by k_asm) (by walk_at "news") ⟨rfl, _, _, rfl, chk_ok (by assumption)⟩
  · exact exc _ _ _ _ _ (by k_asm) (by walk_at "boom") (by k_asm) (chk_err (by assumption))
  · exact ret _ [] _ _ (by k_asm) (by walk_at "news") ⟨rfl, _, _, rfl, (if_neg (by assumption)).trans (chk_ok (by assumption))⟩
  · exact exc _ _ _ _ _ (by k_asm) (by walk_at "boom") (by k_asm) ((if_neg (by assumption)).trans (chk_err (by assumption)))
  · exact exc _ _ _ _ _ (by k_asm) (by walk_at "boom") (by k_asm) (if_pos (by assumption))
  · exact ret _ [] _ _ (by k_asm) (by walk_at "news") ⟨rfl, _, _, rfl, by assumption⟩
  · exact exc _ _ _ _ _ (by k_asm) (by walk_at "boom") (by k_asm) (by assumption)
  · exact ret _ [] _ _ (by k_asm) (by walk_at "news") ⟨rfl, _, _, rfl, by assumption⟩
  · exact exc _ _ _ _ _ (by k_asm) (by walk_at "boom") (by k_asm) (by assumption)



noncomputable def IsWorld (news : Led) (v : Value) (wd ml : Int) : Prop := ∃ a dx es n t1 t2, v = .ref a ∧ (a, instObj 210 dx) ∈ news ∧ (dx, dictOf es n) ∈ news ∧ getL (nm "width") es = some (some (.int wd t1)) ∧ getL (nm "most_length") es = some (some (.int ml t2))
theorem IsWorld.mono {news news' : Led} {v : Value} {wd ml : Int} (h : IsWorld news v wd ml) (hs : ∀ q ∈ news, q ∈ news') : IsWorld news' v wd ml := by
  obtain ⟨a, dx, es, n, t1, t2, h1, h2, h3, h4⟩ := h
  exact ⟨a, dx, es, n, t1, t2, h1, hs _ h2, hs _ h3, h4⟩
theorem okI_fits {n wd : Int} (h40 : wd ≤ 40) (h : -2 ^ (wd - 1).toNat ≤ n ∧ n < 2 ^ (wd - 1).toNat) : okI n := by
  have e : (2 : Int) ^ (wd - 1).toNat ≤ 2 ^ 39 := by
    have := Nat.pow_le_pow_right (n := 2) (by decide) (show (wd - 1).toNat ≤ 39 by omega)
    exact_mod_cast this
  unfold okI
  omega
theorem whole_ok {p : Pv} {wd x : Int} (h : p.whole wd = some x) (h40 : wd ≤ 40) (ok : p.ok) : okI x := by
  cases p with
  | int i => cases h; exact ok
  | str t =>
    simp only [Pv.whole, wot] at h
    split at h
    · cases h; decide
    · split at h
      · cases h
      · split at h
        · cases h
        · rename_i n _
          generalize (if t.cps.toList.head? = some 45 then -n else n) = k at h
          by_cases hf : fitsB k wd = true
          · rw [if_pos hf] at h; cases h; exact okI_fits h40 (of_decide_eq_true hf)
          · rw [if_neg hf] at h; cases h
  | _ => cases h
noncomputable def binA (o : Op) (p q : Pv) (wd : Int) : Ans := match p.whole wd with
  | none => .error 1
  | some x => match q.whole wd with
    | none => .error 1
    | some y => reck o x y wd
theorem binA_ok {o : Op} {p q : Pv} {wd x y : Int} {r : Ans} (h1 : p.whole wd = some x) (h2 : q.whole wd = some y) (h : reck o x y wd = r) : binA o p q wd = r := by
  unfold binA; rw [h1]; dsimp only; rw [h2]; exact h
theorem binA_1 {o : Op} {p q : Pv} {wd : Int} (h1 : p.whole wd = none) : binA o p q wd = .error 1 := by
  unfold binA; rw [h1]
theorem binA_2 {o : Op} {p q : Pv} {wd x : Int} (h1 : p.whole wd = some x) (h2 : q.whole wd = none) : binA o p q wd = .error 1 := by
  unfold binA; rw [h1]; dsimp only; rw [h2]
theorem reg15 : True := by
  k_with "m call ref" => ((k_here; (with_reducible show wpAny _ _ (call (Value.ref 156) _ _) _ _ _); k_dflt (refine' Ctr.use (c_need_whole _ _ _ _ _ ?a1Z ?a2Z ?a3Z _ ?a4Z) ?k1Z ?k2Z ?k3Z ?k4Z ?k5Z ?kKZ ?kdZ ?kuZ ?_ ?_; walk_at "ctr"; (case a4Z => first | assumption | exact IsPv.mono (by assumption) (by walk_at "led") | exact IsWorld.mono (by assumption) (by walk_at "led") | exact datMono (by assumption) (by walk_at "led")); (case a3Z => first | assumption | exact IsPv.mono (by assumption) (by walk_at "led") | exact IsWorld.mono (by assumption) (by walk_at "led") | exact datMono (by assumption) (by walk_at "led")); (case a2Z => first | assumption | exact IsPv.mono (by assumption) (by walk_at "led") | exact IsWorld.mono (by assumption) (by walk_at "led") | exact datMono (by assumption) (by walk_at "led")); (case a1Z => first | assumption | exact IsPv.mono (by assumption) (by walk_at "led") | exact IsWorld.mono (by assumption) (by walk_at "led") | exact datMono (by assumption) (by walk_at "led")); rotate_left; intro g9k e9k n9k h9k tk9k F9k B9k U9k b9k; (try dsimp only at b9k); (try ((obtain ⟨b9k, b9k'⟩ := b9k); subst b9k)); (try dsimp only); rotate_left; intro r9k tl9k h9k tk9k F9k N9k o9k; (obtain ⟨o9k, p9k⟩ := o9k); subst o9k; (obtain ⟨i9k, t9k, p9k, q9k⟩ := p9k); subst p9k; (try simp only [List.nil_append] at N9k); (try dsimp only [nl_int, nl_str, nl_pat, nl_del, nl_hold, pl_int, pl_str, pl_pat, pl_del, pl_hold, pa_int, pa_str, pa_pat, pa_del, pa_hold]); (try k_fold))))
  k_with "m call ref" => ((k_here; (with_reducible show wpAny _ _ (call (Value.ref 249) _ _) _ _ _); k_dflt (refine' Ctr.use (c_reckoned _ _ _ _ _ _ _ _ _ _ ?a5Z ?a1Z ?a2Z ?a3Z ?a4Z _) ?k1Z ?k2Z ?k3Z ?k4Z ?k5Z ?kKZ ?kdZ ?kuZ ?_ ?_; walk_at "ctr"; (case a5Z => first | with_reducible exact rfl | walk_at "op" | exact whole_ok (by assumption) (by assumption) (by assumption) | assumption | exact IsPv.mono (by assumption) (by walk_at "led") | exact IsWorld.mono (by assumption) (by walk_at "led") | exact datMono (by assumption) (by walk_at "led")); (case a4Z => first | with_reducible exact rfl | walk_at "op" | exact whole_ok (by assumption) (by assumption) (by assumption) | assumption | exact IsPv.mono (by assumption) (by walk_at "led") | exact IsWorld.mono (by assumption) (by walk_at "led") | exact datMono (by assumption) (by walk_at "led")); (case a3Z => first | with_reducible exact rfl | walk_at "op" | exact whole_ok (by assumption) (by assumption) (by assumption) | assumption | exact IsPv.mono (by assumption) (by walk_at "led") | exact IsWorld.mono (by assumption) (by walk_at "led") | exact datMono (by assumption) (by walk_at "led")); (case a2Z => first | with_reducible exact rfl | walk_at "op" | exact whole_ok (by assumption) (by assumption) (by assumption) | assumption | exact IsPv.mono (by assumption) (by walk_at "led") | exact IsWorld.mono (by assumption) (by walk_at "led") | exact datMono (by assumption) (by walk_at "led")); (case a1Z => first | with_reducible exact rfl | walk_at "op" | exact whole_ok (by assumption) (by assumption) (by assumption) | assumption | exact IsPv.mono (by assumption) (by walk_at "led") | exact IsWorld.mono (by assumption) (by walk_at "led") | exact datMono (by assumption) (by walk_at "led")); rotate_left; intro g9k e9k n9k h9k tk9k F9k B9k U9k b9k; (try dsimp only at b9k); (try ((obtain ⟨b9k, b9k'⟩ := b9k); subst b9k)); (try dsimp only); rotate_left; intro r9k tl9k h9k tk9k F9k N9k o9k; (obtain ⟨o9k, p9k⟩ := o9k); subst o9k; (obtain ⟨i9k, t9k, p9k, q9k⟩ := p9k); subst p9k; (try simp only [List.nil_append] at N9k); (try dsimp only [nl_int, nl_str, nl_pat, nl_del, nl_hold, pl_int, pl_str, pl_pat, pl_del, pl_hold, pa_int, pa_str, pa_pat, pa_del, pa_hold]); (try k_fold))))
  k_with "m getAttr ref" => ((k_here; k_dflt (refine' get_own ?k1Z ?k2Z ?k3Z ?k4Z ?k5Z ?k6Z ?k7Z ?k8Z ?k9Z ?_; (case k1Z => k_asm); (case k2Z => k_asm); (case k3Z => k_inst); (case k4Z => k_is); (case k5Z => k_is); (case k6Z => k_is); (case k7Z => k_is); (case k8Z => assumption); (case k9Z => k_handed); k_whole)))
  k_with "m op" => (first | exact (rfl : Op.s Op.add = Op.s Op.add) | exact (rfl : Op.s Op.sub = Op.s Op.sub) | exact (rfl : Op.s Op.mul = Op.s Op.mul) | exact (rfl : Op.s Op.div = Op.s Op.div) | exact (rfl : Op.s Op.pow = Op.s Op.pow) | exact (rfl : Op.s Op.bang = Op.s Op.bang))
  exact True.intro
theorem opq_bar (o : Op) : (o.s == nm "|") = false := by cases o <;> decide +kernel
theorem opq_in (o : Op) : ([nm "+", nm "-", nm "*", nm "/", nm "**", nm "!"].any fun y => y == o.s) = true := by cases o <;> decide +kernel
set_option maxRecDepth 100000 in
set_option maxHeartbeats 8000000 in
theorem c_binary (w : World) (o : Op) (sv : Str) (v1 v2 wv : Value) (p1 p2 : Pv) (wd ml : Int) (t0 : Tok) (hs : sv = o.s) (h5 : 5 ≤ wd) (h40 : wd ≤ 40) (ok1 : p1.ok) (ok2 : p2.ok) (news : Led) (hw : IsWorld news wv wd ml) (hp1 : IsPv w news v1 p1) (hp2 : IsPv w news v2 p2) :
   Ctr w 18 277 [wv, .str sv t0, v1, v2] news (fun r tl => tl = [] ∧ ∃ n t, r = .int n t ∧ binA o p1 p2 wd = .ok n) (fun e => binA o p1 p2 wd = .error e) := by
  intro dp un gd cn cs a ccd cl outer A₀ base h₀ L m loose mean mg mb s Q E B F X N T hk hd hu ret exc
  obtain ⟨wa, wdx, wes, wn, wt1, wt2, rfl, hw1, hw2, hw3, hw4⟩ := hw
  subst hs
  have oq := opq_bar o
  have oq2 := opq_in o
  all_goals (refine wpAny_call ?_; k_dflt ktr_enter)
  all_goals k_steps
  all_goals first | exact ret _ [] _ _ (by k_asm) (by walk_at "news") ⟨rfl, _, _, rfl, binA_ok (by assumption) (by assumption) (by assumption)⟩ | exact exc _ _ _ _ _ (by k_asm) (by walk_at "boom") (by k_asm) (binA_ok (by assumption) (by assumption) (by assumption)) | exact exc _ _ _ _ _ (by k_asm) (by walk_at "boom") (by k_asm) (binA_2 (by assumption) (by assumption)) | exact exc _ _ _ _ _ (by k_asm) (by walk_at "boom") (by k_asm) (binA_1 (by assumption))


theorem reg16 : True := by
  k_with "m call ref" => ((k_here; (with_reducible show wpAny _ _ (call (Value.ref 163) _ _) _ _ _); k_dflt (refine' Ctr.use (c_checked _ _ _ _ _ ?a1Z ?a2Z _) ?k1Z ?k2Z ?k3Z ?k4Z ?k5Z ?kKZ ?kdZ ?kuZ ?_ ?_; walk_at "ctr"; (case a2Z => first | assumption | exact IsPv.mono (by assumption) (by walk_at "led") | exact IsWorld.mono (by assumption) (by walk_at "led") | exact datMono (by assumption) (by walk_at "led")); (case a1Z => first | assumption | exact IsPv.mono (by assumption) (by walk_at "led") | exact IsWorld.mono (by assumption) (by walk_at "led") | exact datMono (by assumption) (by walk_at "led")); rotate_left; intro g9k e9k n9k h9k tk9k F9k B9k U9k b9k; (try dsimp only at b9k); (try ((obtain ⟨b9k, b9k'⟩ := b9k); subst b9k)); (try dsimp only); rotate_left; intro r9k tl9k h9k tk9k F9k N9k o9k; (obtain ⟨o9k, p9k, q9k⟩ := o9k); subst o9k; subst p9k; (try simp only [List.nil_append] at N9k); (try dsimp only [nl_int, nl_str, nl_pat, nl_del, nl_hold, pl_int, pl_str, pl_pat, pl_del, pl_hold, pa_int, pa_str, pa_pat, pa_del, pa_hold]); (try k_fold))))
  exact True.intro
noncomputable def unA (neg : Bool) (p : Pv) (wd : Int) : Ans := match p.whole wd with
  | none => .error 1
  | some x => if neg then chk (-x) wd else .ok x
theorem unA_e {neg : Bool} {p : Pv} {wd : Int} (h : p.whole wd = none) : unA neg p wd = .error 1 := by unfold unA; rw [h]
theorem unA_p {p : Pv} {wd x : Int} (h : p.whole wd = some x) : unA false p wd = .ok x := by unfold unA; rw [h]; rfl
theorem unA_n {p : Pv} {wd x : Int} {r : Ans} (h : p.whole wd = some x) (k : chk (-x) wd = r) : unA true p wd = r := by unfold unA; rw [h]; exact k
set_option maxRecDepth 100000 in
set_option maxHeartbeats 8000000 in
theorem c_unary_n (w : World) (v1 wv : Value) (p1 : Pv) (wd ml : Int) (t0 : Tok) (h5 : 5 ≤ wd) (h40 : wd ≤ 40) (ok1 : p1.ok) (news : Led) (hw : IsWorld news wv wd ml) (hp1 : IsPv w news v1 p1) :
   Ctr w 18 284 [wv, .str (nm "-") t0, v1] news (fun r tl => tl = [] ∧ ∃ n t, r = .int n t ∧ unA true p1 wd = .ok n) (fun e => unA true p1 wd = .error e) := by
  intro dp un gd cn cs a ccd cl outer A₀ base h₀ L m loose mean mg mb s Q E B F X N T hk hd hu ret exc
  obtain ⟨wa, wdx, wes, wn, wt1, wt2, rfl, hw1, hw2, hw3, hw4⟩ := hw
  all_goals (refine wpAny_call ?_; k_dflt ktr_enter)
  all_goals k_steps
  all_goals first | exact ret _ [] _ _ (by k_asm) (by walk_at "news") ⟨rfl, _, _, rfl, unA_n (by assumption) (chk_ok (by assumption))⟩ | exact exc _ _ _ _ _ (by k_asm) (by walk_at "boom") (by k_asm) (unA_n (by assumption) (chk_err (by assumption))) | exact exc _ _ _ _ _ (by k_asm) (by walk_at "boom") (by k_asm) (unA_e (by assumption))

set_option maxRecDepth 100000 in
set_option maxHeartbeats 8000000 in
theorem c_unary_p (w : World) (v1 wv : Value) (p1 : Pv) (wd ml : Int) (t0 : Tok) (h5 : 5 ≤ wd) (h40 : wd ≤ 40) (ok1 : p1.ok) (news : Led) (hw : IsWorld news wv wd ml) (hp1 : IsPv w news v1 p1) :
   Ctr w 18 284 [wv, .str (nm "+") t0, v1] news (fun r tl => tl = [] ∧ ∃ n t, r = .int n t ∧ unA false p1 wd = .ok n) (fun e => unA false p1 wd = .error e) := by
  intro dp un gd cn cs a ccd cl outer A₀ base h₀ L m loose mean mg mb s Q E B F X N T hk hd hu ret exc
  obtain ⟨wa, wdx, wes, wn, wt1, wt2, rfl, hw1, hw2, hw3, hw4⟩ := hw
  all_goals (refine wpAny_call ?_; k_dflt ktr_enter)
  all_goals k_steps
  all_goals first | exact ret _ [] _ _ (by k_asm) (by walk_at "news") ⟨rfl, _, _, rfl, unA_p (by assumption)⟩ | exact exc _ _ _ _ _ (by k_asm) (by walk_at "boom") (by k_asm) (unA_e (by assumption))

set_option maxRecDepth 100000 in
set_option maxHeartbeats 8000000 in
theorem c_binary_pct (w : World) (v1 v2 wv : Value) (t0 : Tok) (news : Led) :
   Ctr w 12 277 [wv, .str (nm "%") t0, v1, v2] news (fun r tl => False) (fun e => e = 5) := by
  intro dp un gd cn cs a ccd cl outer A₀ base h₀ L m loose mean mg mb s Q E B F X N T hk hd hu ret exc
  skip
  all_goals (refine wpAny_call ?_; k_dflt ktr_enter)
  all_goals k_steps
  all_goals exact exc _ _ _ _ _ (by k_asm) (by walk_at "boom") (by k_asm) rfl

set_option maxRecDepth 100000 in
set_option maxHeartbeats 8000000 in
theorem c_unary_hash (w : World) (v1 wv : Value) (t0 : Tok) (news : Led) :
   Ctr w 12 284 [wv, .str (nm "#") t0, v1] news (fun r tl => False) (fun e => e = 5) := by
  intro dp un gd cn cs a ccd cl outer A₀ base h₀ L m loose mean mg mb s Q E B F X N T hk hd hu ret exc
  skip
  all_goals (refine wpAny_call ?_; k_dflt ktr_enter)
  all_goals k_steps
  all_goals exact exc _ _ _ _ _ (by k_asm) (by walk_at "boom") (by k_asm) rfl


end
end Mine
namespace Mine
section

theorem reg17 : True := by
  k_with_none
  k_with "m room" => (exact rm1 (by assumption) (by exact rfl))
  k_with "m units" => (exact rm2 (by assumption) (by exact rfl))
  k_with "m ctr" => (((case k1Z => k_asm); (case k2Z => k_asm); (case k3Z => k_asm); (case k4Z => k_asm); (case k5Z => k_asm); (case kKZ => first | exact rfl | assumption); (case kdZ => ktr_room); (case kuZ => ktr_units)))
  k_with "m exec Raise some none" => ((k_here; k_dflt (refine raise_exec (w := ‹World›) rfl ?_)))
  k_with "m RaisePost" => ((refine ⟨_, _, _, rfl, News.get (by k_asm) (List.Mem.tail _ (List.Mem.head _)), by k_in, ?_⟩))
  k_with "m call ref" => ((k_here; k_dflt ( (with_reducible show wpAny _ _ (call (Value.ref 34) _ _) _ _ _); refine' exc_made _ _ _ _ _ _ _ _ _ _ _ _ _ _ _ _ _ _ _ _ _ ?k1Z ?k2Z ?k3Z ?k4Z ?k5Z ?kAZ ?kFZ ?kKZ ?kRZ ?_; (case kAZ => exact rfl); (case k1Z => k_asm); (case k2Z => k_asm); (case k3Z => k_asm); (case k4Z => k_asm); (case k5Z => k_asm); (case kFZ => exact rfl); (case kKZ => first | exact rfl | assumption); (case kRZ => ktr_room); intro e9k d9k t9k k9k k9k' h9k tk9k F9k N9k ne9k lt9k; (try dsimp only))))
  k_with "m leaving" => ((k_here; k_dflt (first | (refine' leave_madeD ?k1Z ?k2Z ?k3Z (List.Mem.tail _ (List.Mem.head _)) (List.Mem.head _) ?k4Z ?_; (case k1Z => k_asm); (case k2Z => k_asm); (case k3Z => k_asm); (case k4Z => exact fun p hp => ⟨List.Mem.tail _ (List.Mem.tail _ hp), by solve_by_elim⟩); intro h9k B9k U9k) | (refine' leave_onD ?k1Z ?k2Z ?k3Z ?k4Z ?_; (case k1Z => k_asm); (case k2Z => k_asm); (case k3Z => k_asm); (case k4Z => k_asm); intro h9k B9k U9k))))
  k_with "m mem" => (first | exact List.mem_cons_self | (refine' List.mem_cons_of_mem _ ?_; k_mem))
  k_with "m news" => (first | with_reducible assumption | assumption | exact ndrop (by assumption) | exact ndrop (ndrop (by assumption)) | exact ndrop (ndrop (ndrop (by assumption))))
  k_with "m eval Call Name" => ((k_here; (fail_if_success (with_reducible show wpAny _ _ (eval (Expr.Call (Expr.Name "range" _) _ _ _) _) _ _ _)); k_dflt (refine Call_ ?_)))
  k_with "m boom" => (first | with_reducible assumption | exact Boom.sub (by assumption) (fun p hp => List.Mem.tail _ hp) | exact Boom.sub (by assumption) (fun p hp => List.Mem.tail _ (List.Mem.tail _ hp)) | exact Boom.sub (by assumption) (fun p hp => List.Mem.tail _ (List.mem_append.mpr (Or.inl hp))) | exact Boom.sub (by assumption) (fun p hp => List.mem_append.mpr (Or.inl hp)))
  k_with "m led" => (first | exact fun _ h => h | exact fun _ h => List.Mem.tail _ h | exact fun _ h => List.Mem.tail _ (List.Mem.tail _ h) | exact fun _ h => List.Mem.tail _ (List.Mem.tail _ (List.Mem.tail _ h)) | exact fun _ h => List.mem_append.mpr (Or.inr h) | exact fun _ h => List.mem_append.mpr (Or.inl h) | exact fun _ h => List.Mem.tail _ (List.mem_append.mpr (Or.inr h)) | exact fun _ h => List.mem_append.mpr (Or.inr (List.mem_append.mpr (Or.inr h))) | exact fun _ h => List.mem_append.mpr (Or.inr (List.Mem.tail _ h)))
  k_with "m call ref" => ((k_here; k_dflt (refine' call_cls ?k1Z ?k2Z ?k3Z ?k4Z ?k5Z ?k6Z ?_; (case k1Z => k_asm); (case k2Z => k_asm); (case k3Z => k_asm); (case k4Z => k_is); (case k5Z => k_is); (case k6Z => k_is); k_whole; intro x' d' h' F' N' l1k l2k; (try k_lt l1k); (try k_lt2 l2k); (try k_sweep); (refine' code_def ?k1Z ?k2Z ?k3Z ?k4Z ?k5Z ?kAZ ?kFZ ?kKZ ?k6Z ?k7Z ?k8Z ?k9Z ?kBZ ?_ ?c2Z ?c3Z ?c4Z ?c5Z; (case kAZ => exact rfl); (case kFZ => exact rfl); (case kKZ => first | exact rfl | assumption); (case k1Z => k_asm); (case k2Z => k_asm); (case k3Z => k_asm); (case k4Z => k_asm); (case k5Z => k_asm); (case k6Z => k_is); (case k7Z => k_is); (case k8Z => ktr_room); (case k9Z => exact BindsTo.of_eq rfl); (case c5Z => decide); (case kBZ => exact locs rfl); (case c2Z => exact rfl); (case c3Z => exact rfl); (case c4Z => exact rfl); k_whole; intro g' L' h' FG' F' N' B' X' T'; (try dsimp only); (try k_fold)))))
  k_with "m ite" => ((k_here; k_openite; with_reducible first | refine ite_pos (by assumption) ?_ | refine ite_neg (by assumption) ?_ | refine ite_isFalse (by assumption) ?_ | (refine split_ine ?_ ?_ <;> intro _) | (refine split_ieq ?_ ?_ <;> intro _) | refine split_not ?_ | (refine split_dec ?_ ?_ <;> intro _) | (refine split_bool ?_ ?_ <;> intro _)))
  k_with "m ite" => ((with_reducible first | refine ite_tt ?_ | refine ite_ff ?_))
  k_with "m testChain" => (dsimp only)
  k_with "m evalPairs" => (dsimp only)
  k_with "m compareChain" => (dsimp only)
  k_with "m ite" => ((k_closed; first | ((with_reducible refine ite_cf ?chZ ?_); (case chZ => decide +kernel)) | ((with_reducible refine ite_ct ?chZ ?_); (case chZ => decide +kernel))))
  k_with "m InvEndN" => (k_dflt kst_close)
  exact True.intro
inductive Leaf where
  | chars (x : Str)
  | len (n : Int)
  | del
noncomputable def Leaf.dat : Leaf → Dat
  | .chars x => charsD x
  | .len n => lenD n
  | .del => delayD
noncomputable def Leaf.ok : Leaf → Prop
  | .chars x => okS x
  | _ => True
noncomputable def Leaf.isNull : Leaf → Bool
  | .chars x => x == nm ""
  | _ => false
theorem Leaf.kqd {l : Leaf} (h : l.ok) : kqdOk 8 l.dat = true := by
  cases l with
  | chars x => simp only [Leaf.dat, kqdOk, List.all_cons, List.all_nil, Bool.and_true, Bool.and_eq_true]; exact ⟨by decide +kernel, h.2⟩
  | len n => simp only [Leaf.dat, kqdOk, List.all_cons, List.all_nil, Bool.and_true, Bool.and_eq_true]; decide +kernel
  | del => decide +kernel
theorem Leaf.null_eqv (l : Leaf) : PyData.eqv (kqdP l.dat) (kqdP nullD) = l.isNull := by
  cases l with
  | chars x => simp [Leaf.dat, kqdP, kqdPs, PyData.eqv, PyData.eqvAll, Leaf.isNull]
  | len n => simp [Leaf.dat, kqdP, kqdPs, PyData.eqv, PyData.eqvAll, Leaf.isNull]
  | del => simp [Leaf.dat, kqdP, kqdPs, PyData.eqv, PyData.eqvAll, Leaf.isNull]
section
variable {prog : Program} {w : World} {A : Around} {E : Value → Shared → Prop} {s : Shared} {h₀ : Heap} {L : Addr} {news : Led} {Q : Value → Shared → Prop}
theorem shaped_of {d : Dat} (k : kqdOk 8 d = true) : SeqAt.shaped (kqdP d) = true := by
  have l := kqd_lay 8 d k
  unfold SeqAt.shaped
  rw [l.1, Bool.true_and]
  exact decide_eq_true (Nat.le_trans l.2 (by decide))
theorem dat_eq {v v' : Value} {d e : Dat} (N : News h₀ L s.heap news) (Da : DatIn news v d) (Db : DatIn news v' e) (ka : kqdOk 8 d = true) (kb : kqdOk 8 e = true) (hu : A.units + 64 < cLine)
    (h : Q (.bool (PyData.eqv (kqdP d) (kqdP e))) s) : wpAny (model prog w) A (compareOp .Eq v v') Q E s := by
  obtain ⟨as, ra⟩ := kqd_in N 8 Da ka
  obtain ⟨bs, rb⟩ := kqd_in N 8 Db kb
  exact eq_dataH ra rb (shaped_of ka) (shaped_of kb) hu h
theorem dat_ne {v v' : Value} {d e : Dat} (N : News h₀ L s.heap news) (Da : DatIn news v d) (Db : DatIn news v' e) (ka : kqdOk 8 d = true) (kb : kqdOk 8 e = true) (hu : A.units + 64 < cLine)
    (h : Q (.bool (!PyData.eqv (kqdP d) (kqdP e))) s) : wpAny (model prog w) A (compareOp .NotEq v v') Q E s := by
  obtain ⟨as, ra⟩ := kqd_in N 8 Da ka
  obtain ⟨bs, rb⟩ := kqd_in N 8 Db kb
  exact ne_dataH ra rb (shaped_of ka) (shaped_of kb) hu h
theorem null_eq {v : Value} {l : Leaf} {K : Frag} {t1 t2 : Tok} {n : Nat} {sl : Array (Option Value)} {od : Option Addr} (N : News h₀ L s.heap news) (X : K.In s.heap) (Da : DatIn news v l.dat) (ok : l.ok) (hu : A.units + 64 < cLine)
    (ho : K.lookup 164 = some ⟨.type "tuple", od, .seq #[.str (nm "chars") t1, .str (nm "") t2] n, sl⟩) (h : Q (.bool l.isNull) s) : wpAny (model prog w) A (compareOp .Eq v (.ref 164)) Q E s := by
  obtain ⟨as, ra⟩ := kqd_in N 8 Da (Leaf.kqd ok)
  have rb : Reads s.heap (.ref 164) (kqdP nullD) [] := by
    rw [kqdP]
    exact reads_tuple_at (X _ _ ho) rfl rfl (.cons (as := []) (bs := []) (.str _ _) (.cons (as := []) (bs := []) (.str _ _) .nil))
  exact eq_dataH ra rb (shaped_of (Leaf.kqd ok)) (shaped_of (d := nullD) (by decide +kernel)) hu (by rw [Leaf.null_eqv]; exact h)
end
theorem reg18 : True := by
  k_with "m compareOp Eq" => ((k_here; k_dflt (refine' null_eq ?k1Z ?k2Z ?k3Z ?k4Z ?k5Z ?k6Z ?_; (case k1Z => k_asm); (case k2Z => k_in); (case k3Z => assumption); (case k4Z => assumption); (case k5Z => ktr_units); (case k6Z => k_is))))
  exact True.intro
set_option maxRecDepth 100000 in
set_option maxHeartbeats 8000000 in
theorem c_is_null_node (w : World) (v : Value) (l : Leaf) (ok : l.ok) (news : Led) (hd1 : DatIn news v l.dat) :
   Ctr w 14 171 [v] news (fun r tl => tl = [] ∧ r = .bool l.isNull) (fun e => False) := by
  intro dp un gd cn cs a ccd cl outer A₀ base h₀ L m loose mean mg mb s Q E B F X N T hk hd hu ret exc
  skip
  all_goals (refine wpAny_call ?_; k_dflt ktr_enter)
  all_goals k_steps
  all_goals exact ret _ [] _ _ (by k_asm) (by walk_at "news") ⟨rfl, rfl⟩


end
end Mine
namespace Mine
section

theorem reg19 : True := by
  k_with_none
  k_with "m room" => (exact rm1 (by assumption) (by exact rfl))
  k_with "m units" => (exact rm2 (by assumption) (by exact rfl))
  k_with "m ctr" => (((case k1Z => k_asm); (case k2Z => k_asm); (case k3Z => k_asm); (case k4Z => k_asm); (case k5Z => k_asm); (case kKZ => first | exact rfl | assumption); (case kdZ => ktr_room); (case kuZ => ktr_units)))
  k_with "m exec Raise some none" => ((k_here; k_dflt (refine raise_exec (w := ‹World›) rfl ?_)))
  k_with "m RaisePost" => ((refine ⟨_, _, _, rfl, News.get (by k_asm) (List.Mem.tail _ (List.Mem.head _)), by k_in, ?_⟩))
  k_with "m call ref" => ((k_here; k_dflt ( (with_reducible show wpAny _ _ (call (Value.ref 34) _ _) _ _ _); refine' exc_made _ _ _ _ _ _ _ _ _ _ _ _ _ _ _ _ _ _ _ _ _ ?k1Z ?k2Z ?k3Z ?k4Z ?k5Z ?kAZ ?kFZ ?kKZ ?kRZ ?_; (case kAZ => exact rfl); (case k1Z => k_asm); (case k2Z => k_asm); (case k3Z => k_asm); (case k4Z => k_asm); (case k5Z => k_asm); (case kFZ => exact rfl); (case kKZ => first | exact rfl | assumption); (case kRZ => ktr_room); intro e9k d9k t9k k9k k9k' h9k tk9k F9k N9k ne9k lt9k; (try dsimp only))))
  k_with "m leaving" => ((k_here; k_dflt (first | (refine' leave_madeD ?k1Z ?k2Z ?k3Z (List.Mem.tail _ (List.Mem.head _)) (List.Mem.head _) ?k4Z ?_; (case k1Z => k_asm); (case k2Z => k_asm); (case k3Z => k_asm); (case k4Z => exact fun p hp => ⟨List.Mem.tail _ (List.Mem.tail _ hp), by solve_by_elim⟩); intro h9k B9k U9k) | (refine' leave_onD ?k1Z ?k2Z ?k3Z ?k4Z ?_; (case k1Z => k_asm); (case k2Z => k_asm); (case k3Z => k_asm); (case k4Z => k_asm); intro h9k B9k U9k))))
  k_with "m mem" => (first | exact List.mem_cons_self | (refine' List.mem_cons_of_mem _ ?_; k_mem))
  k_with "m news" => (first | with_reducible assumption | assumption | exact ndrop (by assumption) | exact ndrop (ndrop (by assumption)) | exact ndrop (ndrop (ndrop (by assumption))))
  k_with "m eval Call Name" => ((k_here; (fail_if_success (with_reducible show wpAny _ _ (eval (Expr.Call (Expr.Name "range" _) _ _ _) _) _ _ _)); k_dflt (refine Call_ ?_)))
  k_with "m boom" => (first | with_reducible assumption | exact Boom.sub (by assumption) (fun p hp => List.Mem.tail _ hp) | exact Boom.sub (by assumption) (fun p hp => List.Mem.tail _ (List.Mem.tail _ hp)) | exact Boom.sub (by assumption) (fun p hp => List.Mem.tail _ (List.mem_append.mpr (Or.inl hp))) | exact Boom.sub (by assumption) (fun p hp => List.mem_append.mpr (Or.inl hp)))
  k_with "m led" => (first | exact fun _ h => h | exact fun _ h => List.Mem.tail _ h | exact fun _ h => List.Mem.tail _ (List.Mem.tail _ h) | exact fun _ h => List.Mem.tail _ (List.Mem.tail _ (List.Mem.tail _ h)) | exact fun _ h => List.mem_append.mpr (Or.inr h) | exact fun _ h => List.mem_append.mpr (Or.inl h) | exact fun _ h => List.Mem.tail _ (List.mem_append.mpr (Or.inr h)) | exact fun _ h => List.mem_append.mpr (Or.inr (List.mem_append.mpr (Or.inr h))) | exact fun _ h => List.mem_append.mpr (Or.inr (List.Mem.tail _ h)))
  k_with "m call ref" => ((k_here; k_dflt (refine' call_cls ?k1Z ?k2Z ?k3Z ?k4Z ?k5Z ?k6Z ?_; (case k1Z => k_asm); (case k2Z => k_asm); (case k3Z => k_asm); (case k4Z => k_is); (case k5Z => k_is); (case k6Z => k_is); k_whole; intro x' d' h' F' N' l1k l2k; (try k_lt l1k); (try k_lt2 l2k); (try k_sweep); (refine' code_def ?k1Z ?k2Z ?k3Z ?k4Z ?k5Z ?kAZ ?kFZ ?kKZ ?k6Z ?k7Z ?k8Z ?k9Z ?kBZ ?_ ?c2Z ?c3Z ?c4Z ?c5Z; (case kAZ => exact rfl); (case kFZ => exact rfl); (case kKZ => first | exact rfl | assumption); (case k1Z => k_asm); (case k2Z => k_asm); (case k3Z => k_asm); (case k4Z => k_asm); (case k5Z => k_asm); (case k6Z => k_is); (case k7Z => k_is); (case k8Z => ktr_room); (case k9Z => exact BindsTo.of_eq rfl); (case c5Z => decide); (case kBZ => exact locs rfl); (case c2Z => exact rfl); (case c3Z => exact rfl); (case c4Z => exact rfl); k_whole; intro g' L' h' FG' F' N' B' X' T'; (try dsimp only); (try k_fold)))))
  k_with "m ite" => ((k_here; k_openite; with_reducible first | refine ite_pos (by assumption) ?_ | refine ite_neg (by assumption) ?_ | refine ite_isFalse (by assumption) ?_ | (refine split_ine ?_ ?_ <;> intro _) | (refine split_ieq ?_ ?_ <;> intro _) | refine split_not ?_ | (refine split_dec ?_ ?_ <;> intro _) | (refine split_bool ?_ ?_ <;> intro _)))
  k_with "m ite" => ((with_reducible first | refine ite_tt ?_ | refine ite_ff ?_))
  k_with "m testChain" => (dsimp only)
  k_with "m evalPairs" => (dsimp only)
  k_with "m compareChain" => (dsimp only)
  k_with "m ite" => ((k_closed; first | ((with_reducible refine ite_cf ?chZ ?_); (case chZ => decide +kernel)) | ((with_reducible refine ite_ct ?chZ ?_); (case chZ => decide +kernel))))
  k_with "m InvEndN" => (k_dflt kst_close)
  exact True.intro
noncomputable abbrev tup2 (x y : Value) (n : Nat) : Obj := { cls := .type "tuple", data := .seq #[x, y] n }
theorem in_two {news : Led} {v : Value} {x y : Dat} (h : DatIn news v (.tuple [x, y])) : ∃ a v1 v2 n, v = .ref a ∧ DatIn news v1 x ∧ DatIn news v2 y ∧ (a, tup2 v1 v2 n) ∈ news := by
  cases h with
  | tuple hm r => cases r with | cons h1 r => cases r with | cons h2 r => cases r; exact ⟨_, _, _, _, rfl, h1, h2, hm⟩
theorem in_st {news : Led} {v : Value} {x : Str} (h : DatIn news v (.str x)) : ∃ t, v = .str x t := by cases h; exact ⟨_, rfl⟩
theorem in_it {news : Led} {v : Value} {k : Int} (h : DatIn news v (.int k)) : ∃ t, v = .int k t := by cases h; exact ⟨_, rfl⟩
theorem in_sti {news : Led} {v : Value} {x : Str} {k : Int} (h : DatIn news v (.tuple [.str x, .int k])) : ∃ a t1 t2 n, v = .ref a ∧ (a, tup2 (.str x t1) (.int k t2) n) ∈ news := by
  obtain ⟨a, _, _, n, e, h1, h2, hm⟩ := in_two h
  obtain ⟨t1, rfl⟩ := in_st h1
  obtain ⟨t2, rfl⟩ := in_it h2
  exact ⟨a, t1, t2, n, e, hm⟩
theorem in_chars {news : Led} {v : Value} {x : Str} (h : DatIn news v (Leaf.dat (.chars x))) : ∃ a t1 t2 n, v = .ref a ∧ (a, tup2 (.str (nm "chars") t1) (.str x t2) n) ∈ news := by
  obtain ⟨a, _, _, n, e, h1, h2, hm⟩ := in_two h
  obtain ⟨t1, rfl⟩ := in_st h1
  obtain ⟨t2, rfl⟩ := in_st h2
  exact ⟨a, t1, t2, n, e, hm⟩
theorem in_len {news : Led} {v : Value} {k : Int} (h : DatIn news v (Leaf.dat (.len k))) : ∃ a t1 t2 n, v = .ref a ∧ (a, tup2 (.str (nm "len") t1) (.int k t2) n) ∈ news := in_sti h
theorem in_del {news : Led} {v : Value} (h : DatIn news v (Leaf.dat .del)) : ∃ a t1 v2 n, v = .ref a ∧ (a, tup2 (.str (nm "delay") t1) v2 n) ∈ news := by
  obtain ⟨a, _, v2, n, e, h1, _, hm⟩ := in_two h
  obtain ⟨t1, rfl⟩ := in_st h1
  exact ⟨a, t1, v2, n, e, hm⟩
noncomputable def joinD (a b : Leaf) : Dat := if a.isNull then b.dat else if b.isNull then a.dat else match a, b with
  | .chars x, .chars y => charsD (x ++ y)
  | _, _ => catD a.dat b.dat
theorem add_fit {x y : Str} (h : okS x) (k : okS y) : x.length + y.length ≤ sizeLine := by
  have h1 := h.1
  have k1 := k.1
  rw [sizeLine_eq]
  unfold Str.length
  omega
theorem join_a {led : Led} {r : Value} {a b : Leaf} (h : a.isNull = true) (D : DatIn led r b.dat) : DatIn led r (joinD a b) := by unfold joinD; rw [if_pos h]; exact D
theorem join_b {led : Led} {r : Value} {a b : Leaf} (h : a.isNull = false) (k : b.isNull = true) (D : DatIn led r a.dat) : DatIn led r (joinD a b) := by unfold joinD; rw [if_neg (by rw [h]; decide), if_pos k]; exact D
theorem join_c {led : Led} {r : Value} {x y : Str} (h : (Leaf.chars x).isNull = false) (k : (Leaf.chars y).isNull = false) (D : DatIn led r (charsD (x ++ y))) : DatIn led r (joinD (.chars x) (.chars y)) := by unfold joinD; rw [if_neg (by rw [h]; decide), if_neg (by rw [k]; decide)]; exact D
theorem join_d {led : Led} {r : Value} {a b : Leaf} (h : a.isNull = false) (k : b.isNull = false) (n : ∀ x y, a = .chars x → b = .chars y → False) (D : DatIn led r (catD a.dat b.dat)) : DatIn led r (joinD a b) := by
  unfold joinD
  rw [if_neg (by rw [h]; decide), if_neg (by rw [k]; decide)]
  cases a <;> cases b <;> first | exact D | exact (n _ _ rfl rfl).elim
theorem reg20 : True := by
  k_with "m binaryOp Add str str" => ((k_here; (refine add_str ?_ (add_fit (by assumption) (by assumption))); intro _ _))
  k_with "m call ref" => ((k_here; (with_reducible show wpAny _ _ (call (Value.ref 171) _ _) _ _ _); k_dflt (refine' Ctr.use (c_is_null_node _ _ _ ?a1Z _ ?a2Z) ?k1Z ?k2Z ?k3Z ?k4Z ?k5Z ?kKZ ?kdZ ?kuZ ?_ ?_; walk_at "ctr"; (case a2Z => first | assumption | exact IsPv.mono (by assumption) (by walk_at "led") | exact IsWorld.mono (by assumption) (by walk_at "led") | exact datMono (by assumption) (by walk_at "led")); (case a1Z => first | assumption | exact IsPv.mono (by assumption) (by walk_at "led") | exact IsWorld.mono (by assumption) (by walk_at "led") | exact datMono (by assumption) (by walk_at "led")); rotate_left; exact (fun _ _ _ _ _ _ _ _ h => h.elim); intro r9k tl9k h9k tk9k F9k N9k o9k; (obtain ⟨o9k, p9k⟩ := o9k); subst o9k; subst p9k; (try simp only [List.nil_append] at N9k); (try dsimp only [nl_int, nl_str, nl_pat, nl_del, nl_hold, pl_int, pl_str, pl_pat, pl_del, pl_hold, pa_int, pa_str, pa_pat, pa_del, pa_hold]); (try k_fold))))
  exact True.intro
set_option maxRecDepth 100000 in
set_option maxHeartbeats 8000000 in
theorem c_joined (w : World) (v1 v2 : Value) (l1 l2 : Leaf) (ok1 : l1.ok) (ok2 : l2.ok) (news : Led) (hd1 : DatIn news v1 l1.dat) (hd2 : DatIn news v2 l2.dat) :
   Ctr w 18 178 [v1, v2] news (fun r tl => DatIn (tl ++ news) r (joinD l1 l2)) (fun e => False) := by
  intro dp un gd cn cs a ccd cl outer A₀ base h₀ L m loose mean mg mb s Q E B F X N T hk hd hu ret exc
  have hz1 := hd1
  have hz2 := hd2
  cases l1
  all_goals first | obtain ⟨a1, t1, u1, n1, rfl, m1⟩ := in_chars hz1 | obtain ⟨a1, t1, u1, n1, rfl, m1⟩ := in_len hz1 | obtain ⟨a1, t1, u1, n1, rfl, m1⟩ := in_del hz1
  all_goals cases l2
  all_goals first | obtain ⟨a2, t2, u2, n2, rfl, m2⟩ := in_chars hz2 | obtain ⟨a2, t2, u2, n2, rfl, m2⟩ := in_len hz2 | obtain ⟨a2, t2, u2, n2, rfl, m2⟩ := in_del hz2
  all_goals clear hz1 hz2
  all_goals (refine wpAny_call ?_; k_dflt ktr_enter)
  all_goals k_steps
  all_goals first
    | (have hx := ‹(Leaf.len _).isNull = true›; cases hx; done)
    | (have hx := ‹Leaf.del.isNull = true›; cases hx; done)
    | exact ret _ [] _ _ (by k_asm) (by walk_at "news") (join_a (by assumption) (by assumption))
    | exact ret _ [] _ _ (by k_asm) (by walk_at "news") (join_b (by first | assumption | rfl) (by assumption) (by assumption))
    | exact ret _ [_] _ _ (by k_asm) (by walk_at "news") (join_c (by assumption) (by assumption) (DatIn.tuple (.head _) (.cons (.str _ _) (.cons (.str _ _) .nil))))
    | exact ret _ [_] _ _ (by k_asm) (by walk_at "news") (join_d (by first | assumption | rfl) (by first | assumption | rfl) (fun _ _ h h' => by cases h <;> cases h') (DatIn.tuple (.head _) (.cons (.str _ _) (.cons (DatIn.mono (fun _ h => .tail _ h) hd1) (.cons (DatIn.mono (fun _ h => .tail _ h) hd2) .nil)))))



end
end Mine
namespace Mine
section

theorem reg21 : True := by
  k_with_none
  k_with "m room" => (exact rm1 (by assumption) (by exact rfl))
  k_with "m units" => (exact rm2 (by assumption) (by exact rfl))
  k_with "m ctr" => (((case k1Z => k_asm); (case k2Z => k_asm); (case k3Z => k_asm); (case k4Z => k_asm); (case k5Z => k_asm); (case kKZ => first | exact rfl | assumption); (case kdZ => ktr_room); (case kuZ => ktr_units)))
  k_with "m exec Raise some none" => ((k_here; k_dflt (refine raise_exec (w := ‹World›) rfl ?_)))
  k_with "m RaisePost" => ((refine ⟨_, _, _, rfl, News.get (by k_asm) (List.Mem.tail _ (List.Mem.head _)), by k_in, ?_⟩))
  k_with "m call ref" => ((k_here; k_dflt ( (with_reducible show wpAny _ _ (call (Value.ref 34) _ _) _ _ _); refine' exc_made _ _ _ _ _ _ _ _ _ _ _ _ _ _ _ _ _ _ _ _ _ ?k1Z ?k2Z ?k3Z ?k4Z ?k5Z ?kAZ ?kFZ ?kKZ ?kRZ ?_; (case kAZ => exact rfl); (case k1Z => k_asm); (case k2Z => k_asm); (case k3Z => k_asm); (case k4Z => k_asm); (case k5Z => k_asm); (case kFZ => exact rfl); (case kKZ => first | exact rfl | assumption); (case kRZ => ktr_room); intro e9k d9k t9k k9k k9k' h9k tk9k F9k N9k ne9k lt9k; (try dsimp only))))
  k_with "m leaving" => ((k_here; k_dflt (first | (refine' leave_madeD ?k1Z ?k2Z ?k3Z (List.Mem.tail _ (List.Mem.head _)) (List.Mem.head _) ?k4Z ?_; (case k1Z => k_asm); (case k2Z => k_asm); (case k3Z => k_asm); (case k4Z => exact fun p hp => ⟨List.Mem.tail _ (List.Mem.tail _ hp), by solve_by_elim⟩); intro h9k B9k U9k) | (refine' leave_onD ?k1Z ?k2Z ?k3Z ?k4Z ?_; (case k1Z => k_asm); (case k2Z => k_asm); (case k3Z => k_asm); (case k4Z => k_asm); intro h9k B9k U9k))))
  k_with "m mem" => (first | exact List.mem_cons_self | (refine' List.mem_cons_of_mem _ ?_; k_mem))
  k_with "m news" => (first | with_reducible assumption | assumption | exact ndrop (by assumption) | exact ndrop (ndrop (by assumption)) | exact ndrop (ndrop (ndrop (by assumption))))
  k_with "m eval Call Name" => ((k_here; (fail_if_success (with_reducible show wpAny _ _ (eval (Expr.Call (Expr.Name "range" _) _ _ _) _) _ _ _)); k_dflt (refine Call_ ?_)))
  k_with "m boom" => (first | with_reducible assumption | exact Boom.sub (by assumption) (fun p hp => List.Mem.tail _ hp) | exact Boom.sub (by assumption) (fun p hp => List.Mem.tail _ (List.Mem.tail _ hp)) | exact Boom.sub (by assumption) (fun p hp => List.Mem.tail _ (List.mem_append.mpr (Or.inl hp))) | exact Boom.sub (by assumption) (fun p hp => List.mem_append.mpr (Or.inl hp)))
  k_with "m led" => (first | exact fun _ h => h | exact fun _ h => List.Mem.tail _ h | exact fun _ h => List.Mem.tail _ (List.Mem.tail _ h) | exact fun _ h => List.Mem.tail _ (List.Mem.tail _ (List.Mem.tail _ h)) | exact fun _ h => List.mem_append.mpr (Or.inr h) | exact fun _ h => List.mem_append.mpr (Or.inl h) | exact fun _ h => List.Mem.tail _ (List.mem_append.mpr (Or.inr h)) | exact fun _ h => List.mem_append.mpr (Or.inr (List.mem_append.mpr (Or.inr h))) | exact fun _ h => List.mem_append.mpr (Or.inr (List.Mem.tail _ h)))
  k_with "m call ref" => ((k_here; k_dflt (refine' call_cls ?k1Z ?k2Z ?k3Z ?k4Z ?k5Z ?k6Z ?_; (case k1Z => k_asm); (case k2Z => k_asm); (case k3Z => k_asm); (case k4Z => k_is); (case k5Z => k_is); (case k6Z => k_is); k_whole; intro x' d' h' F' N' l1k l2k; (try k_lt l1k); (try k_lt2 l2k); (try k_sweep); (refine' code_def ?k1Z ?k2Z ?k3Z ?k4Z ?k5Z ?kAZ ?kFZ ?kKZ ?k6Z ?k7Z ?k8Z ?k9Z ?kBZ ?_ ?c2Z ?c3Z ?c4Z ?c5Z; (case kAZ => exact rfl); (case kFZ => exact rfl); (case kKZ => first | exact rfl | assumption); (case k1Z => k_asm); (case k2Z => k_asm); (case k3Z => k_asm); (case k4Z => k_asm); (case k5Z => k_asm); (case k6Z => k_is); (case k7Z => k_is); (case k8Z => ktr_room); (case k9Z => exact BindsTo.of_eq rfl); (case c5Z => decide); (case kBZ => exact locs rfl); (case c2Z => exact rfl); (case c3Z => exact rfl); (case c4Z => exact rfl); k_whole; intro g' L' h' FG' F' N' B' X' T'; (try dsimp only); (try k_fold)))))
  k_with "m ite" => ((k_here; k_openite; with_reducible first | refine ite_pos (by assumption) ?_ | refine ite_neg (by assumption) ?_ | refine ite_isFalse (by assumption) ?_ | (refine split_ine ?_ ?_ <;> intro _) | (refine split_ieq ?_ ?_ <;> intro _) | refine split_not ?_ | (refine split_dec ?_ ?_ <;> intro _) | (refine split_bool ?_ ?_ <;> intro _)))
  k_with "m ite" => ((with_reducible first | refine ite_tt ?_ | refine ite_ff ?_))
  k_with "m testChain" => (dsimp only)
  k_with "m evalPairs" => (dsimp only)
  k_with "m compareChain" => (dsimp only)
  k_with "m ite" => ((k_closed; first | ((with_reducible refine ite_cf ?chZ ?_); (case chZ => decide +kernel)) | ((with_reducible refine ite_ct ?chZ ?_); (case chZ => decide +kernel))))
  k_with "m InvEndN" => (k_dflt kst_close)
  exact True.intro
theorem dg_len : ∀ (f n : Nat) (acc : List Nat), (dg f n acc).length ≤ f + acc.length
  | 0, _, acc => by simp [dg]
  | f + 1, n, acc => by
    unfold dg
    split
    · omega
    · have := dg_len f (n / 10) ((48 + n % 10) :: acc)
      simp only [List.length_cons] at this
      omega
theorem dg_all : ∀ (f n : Nat) (acc : List Nat), (∀ c ∈ acc, c < 0x110000) → ∀ c ∈ dg f n acc, c < 0x110000
  | 0, _, acc => by simp [dg]
  | f + 1, n, acc => by
    unfold dg
    intro h
    split
    · exact h
    · refine dg_all f (n / 10) _ fun c hc => ?_
      rcases List.mem_cons.mp hc with rfl | hc
      · omega
      · exact h c hc
theorem okS_of {l : List Nat} (h : l.length ≤ 60) (k : ∀ c ∈ l, c < 0x110000) : okS ⟨l.toArray⟩ := by
  refine ⟨by simpa using h, ?_⟩
  unfold PyData.strOk
  rw [Array.all_eq_true']
  intro c hc
  exact decide_eq_true (k c (by simpa using hc))
theorem okS_tow (n : Int) : okS (tow n) := by
  have h1 := dg_len 40 n.natAbs []
  have h2 := dg_all 40 n.natAbs [] (fun _ h => nomatch h)
  unfold tow
  split
  · have e : (nm "-" ++ (⟨(dg 40 n.natAbs []).toArray⟩ : Str)) = ⟨(45 :: dg 40 n.natAbs []).toArray⟩ := by
      show (⟨(nm "-").cps ++ (dg 40 n.natAbs []).toArray⟩ : Str) = _
      rw [show (nm "-").cps = #[45] from by decide +kernel]
      simp
    rw [e]
    refine okS_of (by simp only [List.length_cons, List.length_nil] at *; omega) fun c hc => ?_
    rcases List.mem_cons.mp hc with rfl | hc
    · decide
    · exact h2 c hc
  · exact okS_of (by simp only [List.length_nil] at *; omega) h2
noncomputable def Pv.leaf : Pv → Option Leaf
  | .int i => some (.chars (tow i))
  | .str x => some (.chars x)
  | .pat (.tuple [_, .int n]) => some (.len n)
  | .del => some .del
  | _ => none
theorem leaf_ok {p : Pv} {l : Leaf} (hl : p.leaf = some l) (ok : p.ok) : l.ok := by
  cases p with
  | int i => cases hl; exact okS_tow i
  | str x => cases hl; exact ok
  | pat d => obtain ⟨n, rfl⟩ := ok; cases hl; trivial
  | del => cases hl; trivial
  | hold => cases hl
theorem reg22 : True := by
  k_with "m call ref" => ((k_here; (with_reducible show wpAny _ _ (call (Value.ref 149) _ _) _ _ _); k_dflt (refine' Ctr.use (c_to_text _ _ _ ?a1Z _ ?a2Z) ?k1Z ?k2Z ?k3Z ?k4Z ?k5Z ?kKZ ?kdZ ?kuZ ?_ ?_; walk_at "ctr"; (case a2Z => first | assumption | exact IsPv.mono (by assumption) (by walk_at "led") | exact IsWorld.mono (by assumption) (by walk_at "led") | exact datMono (by assumption) (by walk_at "led")); (case a1Z => first | assumption | exact IsPv.mono (by assumption) (by walk_at "led") | exact IsWorld.mono (by assumption) (by walk_at "led") | exact datMono (by assumption) (by walk_at "led")); rotate_left; exact (fun _ _ _ _ _ _ _ _ h => h.elim); intro r9k tl9k h9k tk9k F9k N9k o9k; (obtain ⟨o9k, p9k⟩ := o9k); subst o9k; (cases p9k); (try simp only [List.nil_append] at N9k); (try dsimp only [nl_int, nl_str, nl_pat, nl_del, nl_hold, pl_int, pl_str, pl_pat, pl_del, pl_hold, pa_int, pa_str, pa_pat, pa_del, pa_hold]); (try k_fold))))
  exact True.intro
set_option maxRecDepth 100000 in
set_option maxHeartbeats 8000000 in
theorem c_pattern_of (w : World) (v : Value) (p : Pv) (l : Leaf) (ok : p.ok) (hl : p.leaf = some l) (news : Led) (hp : IsPv w news v p) :
   Ctr w 15 192 [v] news (fun r tl => DatIn (tl ++ news) r l.dat) (fun e => False) := by
  intro dp un gd cn cs a ccd cl outer A₀ base h₀ L m loose mean mg mb s Q E B F X N T hk hd hu ret exc
  have hq := hp
  cases hp
  all_goals (try (obtain ⟨n, hn⟩ := (ok : ∃ n, _ = lenD n); subst hn))
  all_goals (try cases hl)
  all_goals (refine wpAny_call ?_; k_dflt ktr_enter)
  all_goals k_steps
  all_goals first
    | exact ret _ [] _ _ (by k_asm) (by walk_at "news") (by assumption)
    | exact ret _ [_] _ _ (by k_asm) (by walk_at "news") (DatIn.tuple (.head _) (.cons (.str _ _) (.cons (.str _ _) .nil)))
    | exact ret _ [_] _ _ (by k_asm) (by walk_at "news") (DatIn.tuple (.head _) (.cons (.str _ _) (.cons (DatIn.mono (fun _ h => .tail _ h) (by assumption)) .nil)))


set_option maxRecDepth 100000 in
set_option maxHeartbeats 8000000 in
theorem c_either (w : World) (v1 v2 : Value) (d1 d2 : Dat) (news : Led) (hd1 : DatIn news v1 d1) (hd2 : DatIn news v2 d2) :
   Ctr w 3 185 [v1, v2] news (fun r tl => DatIn (tl ++ news) r (altD d1 d2)) (fun e => False) := by
  intro dp un gd cn cs a ccd cl outer A₀ base h₀ L m loose mean mg mb s Q E B F X N T hk hd hu ret exc
  skip
  all_goals (refine wpAny_call ?_; k_dflt ktr_enter)
  all_goals k_steps
  exact ret _ [_] _ _ (by k_asm) (by walk_at "news") (DatIn.tuple (.head _) (.cons (.str _ _) (.cons (DatIn.mono (fun _ h => .tail _ h) hd1) (.cons (DatIn.mono (fun _ h => .tail _ h) hd2) .nil))))


theorem reg23 : True := by
  k_with "m getAttr ref" => ((k_here; k_dflt (refine' get_own ?k1Z ?k2Z ?k3Z ?k4Z ?k5Z ?k6Z ?k7Z ?k8Z ?k9Z ?_; (case k1Z => k_asm); (case k2Z => k_asm); (case k3Z => k_inst); (case k4Z => k_is); (case k5Z => k_is); (case k6Z => k_is); (case k7Z => k_is); (case k8Z => assumption); (case k9Z => k_handed); k_whole)))
  exact True.intro
set_option maxRecDepth 100000 in
set_option maxHeartbeats 8000000 in
theorem c_check_length (w : World) (wv : Value) (x : Str) (t : Tok) (wd ml : Int) (ok : x.length ≤ 200) (news : Led) (hw : IsWorld news wv wd ml) :
   Ctr w 3 221 [wv, .str x t] news (fun r tl => tl = [] ∧ r = .str x t ∧ (x.length : Int) ≤ ml) (fun e => e = 15 ∧ ml < (x.length : Int)) := by
  intro dp un gd cn cs a ccd cl outer A₀ base h₀ L m loose mean mg mb s Q E B F X N T hk hd hu ret exc
  obtain ⟨wa, wdx, wes, wn, wt1, wt2, rfl, hw1, hw2, hw3, hw4⟩ := hw
  all_goals (refine wpAny_call ?_; k_dflt ktr_enter)
  all_goals k_steps
  · exact exc _ _ _ _ _ (by k_asm) (by walk_at "boom") (by k_asm) ⟨rfl, by assumption⟩
  · exact ret _ [] _ _ (by k_asm) (by walk_at "news") ⟨rfl, rfl, by omega⟩


end
end Mine
namespace Mine
section

theorem reg24 : True := by
  k_with_none
  k_with "m room" => (exact rm1 (by assumption) (by exact rfl))
  k_with "m units" => (exact rm2 (by assumption) (by exact rfl))
  k_with "m ctr" => (((case k1Z => k_asm); (case k2Z => k_asm); (case k3Z => k_asm); (case k4Z => k_asm); (case k5Z => k_asm); (case kKZ => first | exact rfl | assumption); (case kdZ => ktr_room); (case kuZ => ktr_units)))
  k_with "m exec Raise some none" => ((k_here; k_dflt (refine raise_exec (w := ‹World›) rfl ?_)))
  k_with "m RaisePost" => ((refine ⟨_, _, _, rfl, News.get (by k_asm) (List.Mem.tail _ (List.Mem.head _)), by k_in, ?_⟩))
  k_with "m call ref" => ((k_here; k_dflt ( (with_reducible show wpAny _ _ (call (Value.ref 34) _ _) _ _ _); refine' exc_made _ _ _ _ _ _ _ _ _ _ _ _ _ _ _ _ _ _ _ _ _ ?k1Z ?k2Z ?k3Z ?k4Z ?k5Z ?kAZ ?kFZ ?kKZ ?kRZ ?_; (case kAZ => exact rfl); (case k1Z => k_asm); (case k2Z => k_asm); (case k3Z => k_asm); (case k4Z => k_asm); (case k5Z => k_asm); (case kFZ => exact rfl); (case kKZ => first | exact rfl | assumption); (case kRZ => ktr_room); intro e9k d9k t9k k9k k9k' h9k tk9k F9k N9k ne9k lt9k; (try dsimp only))))
  k_with "m leaving" => ((k_here; k_dflt (first | (refine' leave_madeD ?k1Z ?k2Z ?k3Z (List.Mem.tail _ (List.Mem.head _)) (List.Mem.head _) ?k4Z ?_; (case k1Z => k_asm); (case k2Z => k_asm); (case k3Z => k_asm); (case k4Z => exact fun p hp => ⟨List.Mem.tail _ (List.Mem.tail _ hp), by solve_by_elim⟩); intro h9k B9k U9k) | (refine' leave_onD ?k1Z ?k2Z ?k3Z ?k4Z ?_; (case k1Z => k_asm); (case k2Z => k_asm); (case k3Z => k_asm); (case k4Z => k_asm); intro h9k B9k U9k))))
  k_with "m mem" => (first | exact List.mem_cons_self | (refine' List.mem_cons_of_mem _ ?_; k_mem))
  k_with "m news" => (first | with_reducible assumption | assumption | exact ndrop (by assumption) | exact ndrop (ndrop (by assumption)) | exact ndrop (ndrop (ndrop (by assumption))))
  k_with "m eval Call Name" => ((k_here; (fail_if_success (with_reducible show wpAny _ _ (eval (Expr.Call (Expr.Name "range" _) _ _ _) _) _ _ _)); k_dflt (refine Call_ ?_)))
  k_with "m boom" => (first | with_reducible assumption | exact Boom.sub (by assumption) (fun p hp => List.Mem.tail _ hp) | exact Boom.sub (by assumption) (fun p hp => List.Mem.tail _ (List.Mem.tail _ hp)) | exact Boom.sub (by assumption) (fun p hp => List.Mem.tail _ (List.mem_append.mpr (Or.inl hp))) | exact Boom.sub (by assumption) (fun p hp => List.mem_append.mpr (Or.inl hp)))
  k_with "m led" => (first | exact fun _ h => h | exact fun _ h => List.Mem.tail _ h | exact fun _ h => List.Mem.tail _ (List.Mem.tail _ h) | exact fun _ h => List.Mem.tail _ (List.Mem.tail _ (List.Mem.tail _ h)) | exact fun _ h => List.mem_append.mpr (Or.inr h) | exact fun _ h => List.mem_append.mpr (Or.inl h) | exact fun _ h => List.Mem.tail _ (List.mem_append.mpr (Or.inr h)) | exact fun _ h => List.mem_append.mpr (Or.inr (List.mem_append.mpr (Or.inr h))) | exact fun _ h => List.mem_append.mpr (Or.inr (List.Mem.tail _ h)))
  k_with "m call ref" => ((k_here; k_dflt (refine' call_cls ?k1Z ?k2Z ?k3Z ?k4Z ?k5Z ?k6Z ?_; (case k1Z => k_asm); (case k2Z => k_asm); (case k3Z => k_asm); (case k4Z => k_is); (case k5Z => k_is); (case k6Z => k_is); k_whole; intro x' d' h' F' N' l1k l2k; (try k_lt l1k); (try k_lt2 l2k); (try k_sweep); (refine' code_def ?k1Z ?k2Z ?k3Z ?k4Z ?k5Z ?kAZ ?kFZ ?kKZ ?k6Z ?k7Z ?k8Z ?k9Z ?kBZ ?_ ?c2Z ?c3Z ?c4Z ?c5Z; (case kAZ => exact rfl); (case kFZ => exact rfl); (case kKZ => first | exact rfl | assumption); (case k1Z => k_asm); (case k2Z => k_asm); (case k3Z => k_asm); (case k4Z => k_asm); (case k5Z => k_asm); (case k6Z => k_is); (case k7Z => k_is); (case k8Z => ktr_room); (case k9Z => exact BindsTo.of_eq rfl); (case c5Z => decide); (case kBZ => exact locs rfl); (case c2Z => exact rfl); (case c3Z => exact rfl); (case c4Z => exact rfl); k_whole; intro g' L' h' FG' F' N' B' X' T'; (try dsimp only); (try k_fold)))))
  k_with "m ite" => ((k_here; k_openite; with_reducible first | refine ite_pos (by assumption) ?_ | refine ite_neg (by assumption) ?_ | refine ite_isFalse (by assumption) ?_ | (refine split_ine ?_ ?_ <;> intro _) | (refine split_ieq ?_ ?_ <;> intro _) | refine split_not ?_ | (refine split_dec ?_ ?_ <;> intro _) | (refine split_bool ?_ ?_ <;> intro _)))
  k_with "m ite" => ((with_reducible first | refine ite_tt ?_ | refine ite_ff ?_))
  k_with "m testChain" => (dsimp only)
  k_with "m evalPairs" => (dsimp only)
  k_with "m compareChain" => (dsimp only)
  k_with "m ite" => ((k_closed; first | ((with_reducible refine ite_cf ?chZ ?_); (case chZ => decide +kernel)) | ((with_reducible refine ite_ct ?chZ ?_); (case chZ => decide +kernel))))
  k_with "m InvEndN" => (k_dflt kst_close)
  exact True.intro
theorem text_none {p : Pv} (h : p.text = none) (k : p.isPlain = true) : False := by cases p <;> cases h <;> cases k
theorem part_leaf {p : Pv} (ok : p.ok) (k : p.isPart = true) : ∃ l, p.leaf = some l := by
  cases p with
  | pat d => obtain ⟨n, rfl⟩ := ok; exact ⟨_, rfl⟩
  | hold => cases k
  | _ => exact ⟨_, rfl⟩
theorem c_pattern_of' (w : World) (v : Value) (p : Pv) (ok : p.ok) (hl : p.isPart = true) (news : Led) (hp : IsPv w news v p) : Ctr w 15 192 [v] news (fun r tl => ∃ l, p.leaf = some l ∧ l.ok ∧ DatIn (tl ++ news) r l.dat) (fun _ => False) := by
  obtain ⟨l, h⟩ := part_leaf ok hl
  intro dp un gd cn cs a ccd cl outer A₀ base h₀ L m loose mean mg mb s Q E B F X N T hk hd hu ret exc
  exact c_pattern_of w v p l ok h news hp dp un gd cn cs a ccd cl outer A₀ base h₀ L m loose mean mg mb s Q E B F X N T hk hd hu (fun r tl h' tk' F' N' D => ret r tl h' tk' F' N' ⟨l, h, leaf_ok h ok, D⟩) exc
noncomputable def joinR (p q : Pv) (ml : Int) : Except Int Pv :=
  if p.isNull then .ok q
  else if q.isNull then .ok p
  else if p.isPlain && q.isPlain then match p.text, q.text with
    | some x, some y => if ((x ++ y).length : Int) ≤ ml then .ok (.str (x ++ y)) else .error 15
    | _, _ => .error 0
  else if !p.isPart || !q.isPart then .error 1
  else match p.leaf, q.leaf with
    | some a, some b => .ok (.pat (joinD a b))
    | _, _ => .error 0
theorem jr_1 {p q : Pv} {ml : Int} (h : p.isNull = true) : joinR p q ml = .ok q := by unfold joinR; rw [if_pos h]
theorem jr_2 {p q : Pv} {ml : Int} (h : p.isNull = false) (k : q.isNull = true) : joinR p q ml = .ok p := by unfold joinR; rw [if_neg (by rw [h]; decide), if_pos k]
theorem jr_3 {p q : Pv} {ml : Int} {x y : Str} (h : p.isNull = false) (k : q.isNull = false) (h3 : p.isPlain = true) (h4 : q.isPlain = true) (t1 : p.text = some x) (t2 : q.text = some y) (l : ((x ++ y).length : Int) ≤ ml) : joinR p q ml = .ok (.str (x ++ y)) := by
  unfold joinR; rw [if_neg (by rw [h]; decide), if_neg (by rw [k]; decide), if_pos (by rw [h3, h4]; rfl), t1, t2]; dsimp only; rw [if_pos l]
theorem jr_4 {p q : Pv} {ml : Int} {x y : Str} (h : p.isNull = false) (k : q.isNull = false) (h3 : p.isPlain = true) (h4 : q.isPlain = true) (t1 : p.text = some x) (t2 : q.text = some y) (l : ml < ((x ++ y).length : Int)) : joinR p q ml = .error 15 := by
  unfold joinR; rw [if_neg (by rw [h]; decide), if_neg (by rw [k]; decide), if_pos (by rw [h3, h4]; rfl), t1, t2]; dsimp only; rw [if_neg (by omega)]
theorem jr_5 {p q : Pv} {ml : Int} (h : p.isNull = false) (k : q.isNull = false) (h3 : p.isPlain = false ∨ q.isPlain = false) (h4 : p.isPart = false ∨ q.isPart = false) : joinR p q ml = .error 1 := by
  unfold joinR; rw [if_neg (by rw [h]; decide), if_neg (by rw [k]; decide), if_neg (by rcases h3 with h3 | h3 <;> rw [h3] <;> simp), if_pos (by rcases h4 with h4 | h4 <;> rw [h4] <;> simp)]
theorem jr_6 {p q : Pv} {ml : Int} {a b : Leaf} (h : p.isNull = false) (k : q.isNull = false) (h3 : p.isPlain = false ∨ q.isPlain = false) (h4 : p.isPart = true) (h5 : q.isPart = true) (l1 : p.leaf = some a) (l2 : q.leaf = some b) : joinR p q ml = .ok (.pat (joinD a b)) := by
  unfold joinR; rw [if_neg (by rw [h]; decide), if_neg (by rw [k]; decide), if_neg (by rcases h3 with h3 | h3 <;> rw [h3] <;> simp), if_neg (by rw [h4, h5]; decide), l1, l2]
theorem news3 {h₀ h : Heap} {L : Addr} {x y : Addr × Obj} {a b c news : Led} (N : News h₀ L h (x :: y :: (a ++ (b ++ (c ++ news))))) : News h₀ L h ((x :: y :: (a ++ (b ++ c))) ++ news) := by simpa only [List.append_assoc, List.cons_append] using N
theorem dat3 {x y : Addr × Obj} {a b c news : Led} {v : Value} {d : Dat} (D : DatIn (a ++ (b ++ (c ++ news))) v d) : DatIn ((x :: y :: (a ++ (b ++ c))) ++ news) v d := by
  refine datMono D fun q hq => ?_
  simp only [List.cons_append, List.append_assoc]
  exact .tail _ (.tail _ hq)
theorem allLt_mem {d : Addr} : ∀ {l : Led}, AllLt d l → ∀ p ∈ l, p.1 < d
  | [], _ => fun _ h => nomatch h
  | _ :: _, ⟨h, r⟩ => fun p hp => by
    rcases List.mem_cons.mp hp with rfl | hp
    · exact h
    · exact allLt_mem r p hp
theorem add_len {x y : Str} (h : okS x) (k : okS y) : (x ++ y).length ≤ 200 := by
  rw [Str.length_append]
  have h1 := h.1
  have k1 := k.1
  unfold Str.length
  omega
theorem text_okS {p : Pv} {x : Str} (h : p.text = some x) (ok : p.ok) : okS x := by
  cases p with
  | int i => cases h; exact okS_tow i
  | str y => cases h; exact ok
  | _ => cases h
theorem reg25 : True := by
  k_with "m binaryOp Add str str" => ((k_here; (refine add_str ?_ (add_fit (text_okS (by assumption) (by assumption)) (text_okS (by assumption) (by assumption)))); intro _ _))
  k_with "m all" => (first | exact fun p hp => Nat.ne_of_lt ((by assumption : ∀ p ∈ _, p.1 < _) p hp) | exact fun p hp => Nat.ne_of_lt (allLt_mem (by assumption) p hp))
  k_with "m call ref" => ((k_here; (with_reducible show wpAny _ _ (call (Value.ref 107) _ _) _ _ _); k_dflt (refine' Ctr.use (c_is_null _ _ _ _ ?a1Z) ?k1Z ?k2Z ?k3Z ?k4Z ?k5Z ?kKZ ?kdZ ?kuZ ?_ ?_; walk_at "ctr"; (case a1Z => first | assumption | exact IsPv.mono (by assumption) (by walk_at "led") | exact IsWorld.mono (by assumption) (by walk_at "led") | exact datMono (by assumption) (by walk_at "led")); rotate_left; exact (fun _ _ _ _ _ _ _ _ h => h.elim); intro r9k tl9k h9k tk9k F9k N9k o9k; (obtain ⟨o9k, p9k⟩ := o9k); subst o9k; subst p9k; (try simp only [List.nil_append] at N9k); (try dsimp only [nl_int, nl_str, nl_pat, nl_del, nl_hold, pl_int, pl_str, pl_pat, pl_del, pl_hold, pa_int, pa_str, pa_pat, pa_del, pa_hold]); (try k_fold))))
  k_with "m call ref" => ((k_here; (with_reducible show wpAny _ _ (call (Value.ref 114) _ _) _ _ _); k_dflt (refine' Ctr.use (c_is_plain _ _ _ _ ?a1Z) ?k1Z ?k2Z ?k3Z ?k4Z ?k5Z ?kKZ ?kdZ ?kuZ ?_ ?_; walk_at "ctr"; (case a1Z => first | assumption | exact IsPv.mono (by assumption) (by walk_at "led") | exact IsWorld.mono (by assumption) (by walk_at "led") | exact datMono (by assumption) (by walk_at "led")); rotate_left; exact (fun _ _ _ _ _ _ _ _ h => h.elim); intro r9k tl9k h9k tk9k F9k N9k o9k; (obtain ⟨o9k, p9k⟩ := o9k); subst o9k; subst p9k; (try simp only [List.nil_append] at N9k); (try dsimp only [nl_int, nl_str, nl_pat, nl_del, nl_hold, pl_int, pl_str, pl_pat, pl_del, pl_hold, pa_int, pa_str, pa_pat, pa_del, pa_hold]); (try k_fold))))
  k_with "m call ref" => ((k_here; (with_reducible show wpAny _ _ (call (Value.ref 256) _ _) _ _ _); k_dflt (refine' Ctr.use (c_is_part _ _ _ _ ?a1Z) ?k1Z ?k2Z ?k3Z ?k4Z ?k5Z ?kKZ ?kdZ ?kuZ ?_ ?_; walk_at "ctr"; (case a1Z => first | assumption | exact IsPv.mono (by assumption) (by walk_at "led") | exact IsWorld.mono (by assumption) (by walk_at "led") | exact datMono (by assumption) (by walk_at "led")); rotate_left; exact (fun _ _ _ _ _ _ _ _ h => h.elim); intro r9k tl9k h9k tk9k F9k N9k o9k; (obtain ⟨o9k, p9k⟩ := o9k); subst o9k; subst p9k; (try simp only [List.nil_append] at N9k); (try dsimp only [nl_int, nl_str, nl_pat, nl_del, nl_hold, pl_int, pl_str, pl_pat, pl_del, pl_hold, pa_int, pa_str, pa_pat, pa_del, pa_hold]); (try k_fold))))
  k_with "m call ref" => ((k_here; (with_reducible show wpAny _ _ (call (Value.ref 149) _ _) _ _ _); k_dflt (refine' Ctr.use (c_to_text _ _ _ ?a1Z _ ?a2Z) ?k1Z ?k2Z ?k3Z ?k4Z ?k5Z ?kKZ ?kdZ ?kuZ ?_ ?_; walk_at "ctr"; (case a2Z => first | assumption | exact IsPv.mono (by assumption) (by walk_at "led") | exact IsWorld.mono (by assumption) (by walk_at "led") | exact datMono (by assumption) (by walk_at "led")); (case a1Z => first | assumption | exact IsPv.mono (by assumption) (by walk_at "led") | exact IsWorld.mono (by assumption) (by walk_at "led") | exact datMono (by assumption) (by walk_at "led")); rotate_left; exact (fun _ _ _ _ _ _ _ _ h => h.elim); intro r9k tl9k h9k tk9k F9k N9k o9k; (obtain ⟨o9k, p9k⟩ := o9k); subst o9k; (generalize hw9k : Pv.text _ = ow9k at p9k); cases p9k; exact (text_none (by assumption) (by assumption)).elim; (try simp only [List.nil_append] at N9k); (try dsimp only [nl_int, nl_str, nl_pat, nl_del, nl_hold, pl_int, pl_str, pl_pat, pl_del, pl_hold, pa_int, pa_str, pa_pat, pa_del, pa_hold]); (try k_fold))))
  k_with "m call ref" => ((k_here; (with_reducible show wpAny _ _ (call (Value.ref 192) _ _) _ _ _); k_dflt (refine' Ctr.use (c_pattern_of' _ _ _ ?a1Z ?a2Z _ ?a3Z) ?k1Z ?k2Z ?k3Z ?k4Z ?k5Z ?kKZ ?kdZ ?kuZ ?_ ?_; walk_at "ctr"; (case a3Z => first | assumption | exact IsPv.mono (by assumption) (by walk_at "led") | exact IsWorld.mono (by assumption) (by walk_at "led") | exact datMono (by assumption) (by walk_at "led")); (case a2Z => first | assumption | exact IsPv.mono (by assumption) (by walk_at "led") | exact IsWorld.mono (by assumption) (by walk_at "led") | exact datMono (by assumption) (by walk_at "led")); (case a1Z => first | assumption | exact IsPv.mono (by assumption) (by walk_at "led") | exact IsWorld.mono (by assumption) (by walk_at "led") | exact datMono (by assumption) (by walk_at "led")); rotate_left; exact (fun _ _ _ _ _ _ _ _ h => h.elim); intro r9k tl9k h9k tk9k F9k N9k o9k; (obtain ⟨l9k, q9k, q9k', p9k⟩ := o9k); (try simp only [List.nil_append] at N9k); (try dsimp only [nl_int, nl_str, nl_pat, nl_del, nl_hold, pl_int, pl_str, pl_pat, pl_del, pl_hold, pa_int, pa_str, pa_pat, pa_del, pa_hold]); (try k_fold))))
  k_with "m call ref" => ((k_here; (with_reducible show wpAny _ _ (call (Value.ref 178) _ _) _ _ _); k_dflt (refine' Ctr.use (c_joined _ _ _ _ _ ?a1Z ?a2Z _ ?a3Z ?a4Z) ?k1Z ?k2Z ?k3Z ?k4Z ?k5Z ?kKZ ?kdZ ?kuZ ?_ ?_; walk_at "ctr"; (case a4Z => first | assumption | exact IsPv.mono (by assumption) (by walk_at "led") | exact IsWorld.mono (by assumption) (by walk_at "led") | exact datMono (by assumption) (by walk_at "led")); (case a3Z => first | assumption | exact IsPv.mono (by assumption) (by walk_at "led") | exact IsWorld.mono (by assumption) (by walk_at "led") | exact datMono (by assumption) (by walk_at "led")); (case a2Z => first | assumption | exact IsPv.mono (by assumption) (by walk_at "led") | exact IsWorld.mono (by assumption) (by walk_at "led") | exact datMono (by assumption) (by walk_at "led")); (case a1Z => first | assumption | exact IsPv.mono (by assumption) (by walk_at "led") | exact IsWorld.mono (by assumption) (by walk_at "led") | exact datMono (by assumption) (by walk_at "led")); rotate_left; exact (fun _ _ _ _ _ _ _ _ h => h.elim); intro r9k tl9k h9k tk9k F9k N9k o9k; (have p9k := o9k); clear o9k; (try simp only [List.nil_append] at N9k); (try dsimp only [nl_int, nl_str, nl_pat, nl_del, nl_hold, pl_int, pl_str, pl_pat, pl_del, pl_hold, pa_int, pa_str, pa_pat, pa_del, pa_hold]); (try k_fold))))
  k_with "m call ref" => ((k_here; (with_reducible show wpAny _ _ (call (Value.ref 185) _ _) _ _ _); k_dflt (refine' Ctr.use (c_either _ _ _ _ _ _ ?a1Z ?a2Z) ?k1Z ?k2Z ?k3Z ?k4Z ?k5Z ?kKZ ?kdZ ?kuZ ?_ ?_; walk_at "ctr"; (case a2Z => first | assumption | exact IsPv.mono (by assumption) (by walk_at "led") | exact IsWorld.mono (by assumption) (by walk_at "led") | exact datMono (by assumption) (by walk_at "led")); (case a1Z => first | assumption | exact IsPv.mono (by assumption) (by walk_at "led") | exact IsWorld.mono (by assumption) (by walk_at "led") | exact datMono (by assumption) (by walk_at "led")); rotate_left; exact (fun _ _ _ _ _ _ _ _ h => h.elim); intro r9k tl9k h9k tk9k F9k N9k o9k; (have p9k := o9k); clear o9k; (try simp only [List.nil_append] at N9k); (try dsimp only [nl_int, nl_str, nl_pat, nl_del, nl_hold, pl_int, pl_str, pl_pat, pl_del, pl_hold, pa_int, pa_str, pa_pat, pa_del, pa_hold]); (try k_fold))))
  k_with "m call ref" => ((k_here; (with_reducible show wpAny _ _ (call (Value.ref 221) _ _) _ _ _); k_dflt (refine' Ctr.use (c_check_length _ _ _ _ _ _ ?a1Z _ ?a2Z) ?k1Z ?k2Z ?k3Z ?k4Z ?k5Z ?kKZ ?kdZ ?kuZ ?_ ?_; walk_at "ctr"; (case a2Z => first | exact add_len (text_okS (by assumption) (by assumption)) (text_okS (by assumption) (by assumption)) | assumption | exact IsPv.mono (by assumption) (by walk_at "led") | exact IsWorld.mono (by assumption) (by walk_at "led") | exact datMono (by assumption) (by walk_at "led")); (case a1Z => first | exact add_len (text_okS (by assumption) (by assumption)) (text_okS (by assumption) (by assumption)) | assumption | exact IsPv.mono (by assumption) (by walk_at "led") | exact IsWorld.mono (by assumption) (by walk_at "led") | exact datMono (by assumption) (by walk_at "led")); rotate_left; intro g9k e9k n9k h9k tk9k F9k B9k U9k b9k; (try dsimp only at b9k); (try ((obtain ⟨b9k, b9k'⟩ := b9k); subst b9k)); (try dsimp only); rotate_left; intro r9k tl9k h9k tk9k F9k N9k o9k; (obtain ⟨o9k, p9k, q9k⟩ := o9k); subst o9k; subst p9k; (try simp only [List.nil_append] at N9k); (try dsimp only [nl_int, nl_str, nl_pat, nl_del, nl_hold, pl_int, pl_str, pl_pat, pl_del, pl_hold, pa_int, pa_str, pa_pat, pa_del, pa_hold]); (try k_fold))))
  exact True.intro
set_option maxRecDepth 100000 in
set_option maxHeartbeats 8000000 in
theorem c_join (w : World) (wv v1 v2 : Value) (p q : Pv) (wd ml : Int) (ok1 : p.ok) (ok2 : q.ok) (news : Led) (hw : IsWorld news wv wd ml) (hp1 : IsPv w news v1 p) (hp2 : IsPv w news v2 q) :
   Ctr w 30 263 [wv, v1, v2] news (fun r tl => ∃ x, joinR p q ml = .ok x ∧ IsPv w (tl ++ news) r x) (fun e => joinR p q ml = .error e) := by
  intro dp un gd cn cs a ccd cl outer A₀ base h₀ L m loose mean mg mb s Q E B F X N T hk hd hu ret exc
  skip
  all_goals (refine wpAny_call ?_; k_dflt ktr_enter)
  all_goals k_steps
  all_goals first
    | exact ret _ [] _ _ (by k_asm) (by walk_at "news") ⟨_, jr_1 (by assumption), by assumption⟩
    | exact ret _ [] _ _ (by k_asm) (by walk_at "news") ⟨_, jr_2 (by assumption) (by assumption), by assumption⟩
    | exact ret _ [] _ _ (by k_asm) (by walk_at "news") ⟨_, jr_3 (by assumption) (by assumption) (by assumption) (by assumption) (by assumption) (by assumption) (by assumption), .str _ _⟩
    | exact ret _ (_ :: _ :: (_ ++ (_ ++ _))) _ _ (by k_asm) (news3 (by assumption)) ⟨_, jr_6 (by assumption) (by assumption) (by first | exact .inl (by assumption) | exact .inr (by assumption)) (by assumption) (by assumption) (by assumption) (by assumption), .pat (.head _) (.tail _ (.head _)) (dat3 (by assumption))⟩
    | exact exc _ _ _ _ _ (by k_asm) (by walk_at "boom") (by k_asm) (jr_4 (by assumption) (by assumption) (by assumption) (by assumption) (by assumption) (by assumption) (by assumption))
    | exact exc _ _ _ _ _ (by k_asm) (by walk_at "boom") (by k_asm) (jr_5 (by assumption) (by assumption) (by first | exact .inl (by assumption) | exact .inr (by assumption)) (by first | exact .inl (by assumption) | exact .inr (by assumption)))



end
end Mine
namespace Mine
section

theorem reg26 : True := by
  k_with_none
  k_with "m room" => (exact rm1 (by assumption) (by exact rfl))
  k_with "m units" => (exact rm2 (by assumption) (by exact rfl))
  k_with "m ctr" => (((case k1Z => k_asm); (case k2Z => k_asm); (case k3Z => k_asm); (case k4Z => k_asm); (case k5Z => k_asm); (case kKZ => first | exact rfl | assumption); (case kdZ => ktr_room); (case kuZ => ktr_units)))
  k_with "m exec Raise some none" => ((k_here; k_dflt (refine raise_exec (w := ‹World›) rfl ?_)))
  k_with "m RaisePost" => ((refine ⟨_, _, _, rfl, News.get (by k_asm) (List.Mem.tail _ (List.Mem.head _)), by k_in, ?_⟩))
  k_with "m call ref" => ((k_here; k_dflt ( (with_reducible show wpAny _ _ (call (Value.ref 34) _ _) _ _ _); refine' exc_made _ _ _ _ _ _ _ _ _ _ _ _ _ _ _ _ _ _ _ _ _ ?k1Z ?k2Z ?k3Z ?k4Z ?k5Z ?kAZ ?kFZ ?kKZ ?kRZ ?_; (case kAZ => exact rfl); (case k1Z => k_asm); (case k2Z => k_asm); (case k3Z => k_asm); (case k4Z => k_asm); (case k5Z => k_asm); (case kFZ => exact rfl); (case kKZ => first | exact rfl | assumption); (case kRZ => ktr_room); intro e9k d9k t9k k9k k9k' h9k tk9k F9k N9k ne9k lt9k; (try dsimp only))))
  k_with "m leaving" => ((k_here; k_dflt (first | (refine' leave_madeD ?k1Z ?k2Z ?k3Z (List.Mem.tail _ (List.Mem.head _)) (List.Mem.head _) ?k4Z ?_; (case k1Z => k_asm); (case k2Z => k_asm); (case k3Z => k_asm); (case k4Z => exact fun p hp => ⟨List.Mem.tail _ (List.Mem.tail _ hp), by solve_by_elim⟩); intro h9k B9k U9k) | (refine' leave_onD ?k1Z ?k2Z ?k3Z ?k4Z ?_; (case k1Z => k_asm); (case k2Z => k_asm); (case k3Z => k_asm); (case k4Z => k_asm); intro h9k B9k U9k))))
  k_with "m mem" => (first | exact List.mem_cons_self | (refine' List.mem_cons_of_mem _ ?_; k_mem))
  k_with "m news" => (first | with_reducible assumption | assumption | exact ndrop (by assumption) | exact ndrop (ndrop (by assumption)) | exact ndrop (ndrop (ndrop (by assumption))))
  k_with "m eval Call Name" => ((k_here; (fail_if_success (with_reducible show wpAny _ _ (eval (Expr.Call (Expr.Name "range" _) _ _ _) _) _ _ _)); k_dflt (refine Call_ ?_)))
  k_with "m boom" => (first | with_reducible assumption | exact Boom.sub (by assumption) (fun p hp => List.Mem.tail _ hp) | exact Boom.sub (by assumption) (fun p hp => List.Mem.tail _ (List.Mem.tail _ hp)) | exact Boom.sub (by assumption) (fun p hp => List.Mem.tail _ (List.mem_append.mpr (Or.inl hp))) | exact Boom.sub (by assumption) (fun p hp => List.mem_append.mpr (Or.inl hp)))
  k_with "m led" => (first | exact fun _ h => h | exact fun _ h => List.Mem.tail _ h | exact fun _ h => List.Mem.tail _ (List.Mem.tail _ h) | exact fun _ h => List.Mem.tail _ (List.Mem.tail _ (List.Mem.tail _ h)) | exact fun _ h => List.mem_append.mpr (Or.inr h) | exact fun _ h => List.mem_append.mpr (Or.inl h) | exact fun _ h => List.Mem.tail _ (List.mem_append.mpr (Or.inr h)) | exact fun _ h => List.mem_append.mpr (Or.inr (List.mem_append.mpr (Or.inr h))) | exact fun _ h => List.mem_append.mpr (Or.inr (List.Mem.tail _ h)))
  k_with "m call ref" => ((k_here; k_dflt (refine' call_cls ?k1Z ?k2Z ?k3Z ?k4Z ?k5Z ?k6Z ?_; (case k1Z => k_asm); (case k2Z => k_asm); (case k3Z => k_asm); (case k4Z => k_is); (case k5Z => k_is); (case k6Z => k_is); k_whole; intro x' d' h' F' N' l1k l2k; (try k_lt l1k); (try k_lt2 l2k); (try k_sweep); (refine' code_def ?k1Z ?k2Z ?k3Z ?k4Z ?k5Z ?kAZ ?kFZ ?kKZ ?k6Z ?k7Z ?k8Z ?k9Z ?kBZ ?_ ?c2Z ?c3Z ?c4Z ?c5Z; (case kAZ => exact rfl); (case kFZ => exact rfl); (case kKZ => first | exact rfl | assumption); (case k1Z => k_asm); (case k2Z => k_asm); (case k3Z => k_asm); (case k4Z => k_asm); (case k5Z => k_asm); (case k6Z => k_is); (case k7Z => k_is); (case k8Z => ktr_room); (case k9Z => exact BindsTo.of_eq rfl); (case c5Z => decide); (case kBZ => exact locs rfl); (case c2Z => exact rfl); (case c3Z => exact rfl); (case c4Z => exact rfl); k_whole; intro g' L' h' FG' F' N' B' X' T'; (try dsimp only); (try k_fold)))))
  k_with "m ite" => ((k_here; k_openite; with_reducible first | refine ite_pos (by assumption) ?_ | refine ite_neg (by assumption) ?_ | refine ite_isFalse (by assumption) ?_ | (refine split_ine ?_ ?_ <;> intro _) | (refine split_ieq ?_ ?_ <;> intro _) | refine split_not ?_ | (refine split_dec ?_ ?_ <;> intro _) | (refine split_bool ?_ ?_ <;> intro _)))
  k_with "m ite" => ((with_reducible first | refine ite_tt ?_ | refine ite_ff ?_))
  k_with "m testChain" => (dsimp only)
  k_with "m evalPairs" => (dsimp only)
  k_with "m compareChain" => (dsimp only)
  k_with "m ite" => ((k_closed; first | ((with_reducible refine ite_cf ?chZ ?_); (case chZ => decide +kernel)) | ((with_reducible refine ite_ct ?chZ ?_); (case chZ => decide +kernel))))
  k_with "m InvEndN" => (k_dflt kst_close)
  exact True.intro
noncomputable def altR (p q : Pv) : Except Int Pv :=
  if !p.isPart || !q.isPart then .error 1
  else match p.leaf, q.leaf with
    | some a, some b => .ok (.pat (altD a.dat b.dat))
    | _, _ => .error 0
theorem ar_5 {p q : Pv} (h4 : p.isPart = false ∨ q.isPart = false) : altR p q = .error 1 := by
  unfold altR; rw [if_pos (by rcases h4 with h4 | h4 <;> rw [h4] <;> simp)]
theorem ar_6 {p q : Pv} {a b : Leaf} (h4 : p.isPart = true) (h5 : q.isPart = true) (l1 : p.leaf = some a) (l2 : q.leaf = some b) : altR p q = .ok (.pat (altD a.dat b.dat)) := by
  unfold altR; rw [if_neg (by rw [h4, h5]; decide), l1, l2]
theorem reg27 : True := by
  k_with "m all" => (first | exact fun p hp => Nat.ne_of_lt ((by assumption : ∀ p ∈ _, p.1 < _) p hp) | exact fun p hp => Nat.ne_of_lt (allLt_mem (by assumption) p hp))
  k_with "m call ref" => ((k_here; (with_reducible show wpAny _ _ (call (Value.ref 256) _ _) _ _ _); k_dflt (refine' Ctr.use (c_is_part _ _ _ _ ?a1Z) ?k1Z ?k2Z ?k3Z ?k4Z ?k5Z ?kKZ ?kdZ ?kuZ ?_ ?_; walk_at "ctr"; (case a1Z => first | assumption | exact IsPv.mono (by assumption) (by walk_at "led") | exact IsWorld.mono (by assumption) (by walk_at "led") | exact datMono (by assumption) (by walk_at "led")); rotate_left; exact (fun _ _ _ _ _ _ _ _ h => h.elim); intro r9k tl9k h9k tk9k F9k N9k o9k; (obtain ⟨o9k, p9k⟩ := o9k); subst o9k; subst p9k; (try simp only [List.nil_append] at N9k); (try dsimp only [nl_int, nl_str, nl_pat, nl_del, nl_hold, pl_int, pl_str, pl_pat, pl_del, pl_hold, pa_int, pa_str, pa_pat, pa_del, pa_hold]); (try k_fold))))
  k_with "m call ref" => ((k_here; (with_reducible show wpAny _ _ (call (Value.ref 192) _ _) _ _ _); k_dflt (refine' Ctr.use (c_pattern_of' _ _ _ ?a1Z ?a2Z _ ?a3Z) ?k1Z ?k2Z ?k3Z ?k4Z ?k5Z ?kKZ ?kdZ ?kuZ ?_ ?_; walk_at "ctr"; (case a3Z => first | assumption | exact IsPv.mono (by assumption) (by walk_at "led") | exact IsWorld.mono (by assumption) (by walk_at "led") | exact datMono (by assumption) (by walk_at "led")); (case a2Z => first | assumption | exact IsPv.mono (by assumption) (by walk_at "led") | exact IsWorld.mono (by assumption) (by walk_at "led") | exact datMono (by assumption) (by walk_at "led")); (case a1Z => first | assumption | exact IsPv.mono (by assumption) (by walk_at "led") | exact IsWorld.mono (by assumption) (by walk_at "led") | exact datMono (by assumption) (by walk_at "led")); rotate_left; exact (fun _ _ _ _ _ _ _ _ h => h.elim); intro r9k tl9k h9k tk9k F9k N9k o9k; (obtain ⟨l9k, q9k, q9k', p9k⟩ := o9k); (try simp only [List.nil_append] at N9k); (try dsimp only [nl_int, nl_str, nl_pat, nl_del, nl_hold, pl_int, pl_str, pl_pat, pl_del, pl_hold, pa_int, pa_str, pa_pat, pa_del, pa_hold]); (try k_fold))))
  k_with "m call ref" => ((k_here; (with_reducible show wpAny _ _ (call (Value.ref 185) _ _) _ _ _); k_dflt (refine' Ctr.use (c_either _ _ _ _ _ _ ?a1Z ?a2Z) ?k1Z ?k2Z ?k3Z ?k4Z ?k5Z ?kKZ ?kdZ ?kuZ ?_ ?_; walk_at "ctr"; (case a2Z => first | assumption | exact IsPv.mono (by assumption) (by walk_at "led") | exact IsWorld.mono (by assumption) (by walk_at "led") | exact datMono (by assumption) (by walk_at "led")); (case a1Z => first | assumption | exact IsPv.mono (by assumption) (by walk_at "led") | exact IsWorld.mono (by assumption) (by walk_at "led") | exact datMono (by assumption) (by walk_at "led")); rotate_left; exact (fun _ _ _ _ _ _ _ _ h => h.elim); intro r9k tl9k h9k tk9k F9k N9k o9k; (have p9k := o9k); clear o9k; (try simp only [List.nil_append] at N9k); (try dsimp only [nl_int, nl_str, nl_pat, nl_del, nl_hold, pl_int, pl_str, pl_pat, pl_del, pl_hold, pa_int, pa_str, pa_pat, pa_del, pa_hold]); (try k_fold))))
  exact True.intro
set_option maxRecDepth 100000 in
set_option maxHeartbeats 8000000 in
theorem c_either_value (w : World) (v1 v2 : Value) (p q : Pv) (ok1 : p.ok) (ok2 : q.ok) (news : Led) (hp1 : IsPv w news v1 p) (hp2 : IsPv w news v2 q) :
   Ctr w 30 270 [v1, v2] news (fun r tl => ∃ x, altR p q = .ok x ∧ IsPv w (tl ++ news) r x) (fun e => altR p q = .error e) := by
  intro dp un gd cn cs a ccd cl outer A₀ base h₀ L m loose mean mg mb s Q E B F X N T hk hd hu ret exc
  skip
  all_goals (refine wpAny_call ?_; k_dflt ktr_enter)
  all_goals k_steps
  all_goals first
    | exact ret _ (_ :: _ :: (_ ++ (_ ++ _))) _ _ (by k_asm) (news3 (by assumption)) ⟨_, ar_6 (by assumption) (by assumption) (by assumption) (by assumption), .pat (.head _) (.tail _ (.head _)) (dat3 (by assumption))⟩
    | exact exc _ _ _ _ _ (by k_asm) (by walk_at "boom") (by k_asm) (ar_5 (by first | exact .inl (by assumption) | exact .inr (by assumption)))


theorem reg28 : True := by
  k_with "m call ref" => ((k_here; (with_reducible show wpAny _ _ (call (Value.ref 270) _ _) _ _ _); k_dflt (refine' Ctr.use (c_either_value _ _ _ _ _ ?a1Z ?a2Z _ ?a3Z ?a4Z) ?k1Z ?k2Z ?k3Z ?k4Z ?k5Z ?kKZ ?kdZ ?kuZ ?_ ?_; walk_at "ctr"; (case a4Z => first | assumption | exact IsPv.mono (by assumption) (by walk_at "led") | exact IsWorld.mono (by assumption) (by walk_at "led") | exact datMono (by assumption) (by walk_at "led")); (case a3Z => first | assumption | exact IsPv.mono (by assumption) (by walk_at "led") | exact IsWorld.mono (by assumption) (by walk_at "led") | exact datMono (by assumption) (by walk_at "led")); (case a2Z => first | assumption | exact IsPv.mono (by assumption) (by walk_at "led") | exact IsWorld.mono (by assumption) (by walk_at "led") | exact datMono (by assumption) (by walk_at "led")); (case a1Z => first | assumption | exact IsPv.mono (by assumption) (by walk_at "led") | exact IsWorld.mono (by assumption) (by walk_at "led") | exact datMono (by assumption) (by walk_at "led")); rotate_left; intro g9k e9k n9k h9k tk9k F9k B9k U9k b9k; (try dsimp only at b9k); (try ((obtain ⟨b9k, b9k'⟩ := b9k); subst b9k)); (try dsimp only); rotate_left; intro r9k tl9k h9k tk9k F9k N9k o9k; (try simp only [List.nil_append] at N9k); (try dsimp only [nl_int, nl_str, nl_pat, nl_del, nl_hold, pl_int, pl_str, pl_pat, pl_del, pl_hold, pa_int, pa_str, pa_pat, pa_del, pa_hold]); (try k_fold))))
  exact True.intro
set_option maxRecDepth 100000 in
set_option maxHeartbeats 8000000 in
theorem c_binary_alt (w : World) (wv v1 v2 : Value) (p q : Pv) (t : Tok) (ok1 : p.ok) (ok2 : q.ok) (news : Led) (hp1 : IsPv w news v1 p) (hp2 : IsPv w news v2 q) :
   Ctr w 33 277 [wv, .str (nm "|") t, v1, v2] news (fun r tl => ∃ x, altR p q = .ok x ∧ IsPv w (tl ++ news) r x) (fun e => altR p q = .error e) := by
  intro dp un gd cn cs a ccd cl outer A₀ base h₀ L m loose mean mg mb s Q E B F X N T hk hd hu ret exc
  skip
  all_goals (refine wpAny_call ?_; k_dflt ktr_enter)
  all_goals k_steps
  · exact ret _ _ _ _ (by k_asm) (by k_asm) (by assumption)
  · exact exc _ _ _ _ _ (by k_asm) (by walk_at "boom") (by k_asm) (by assumption)


noncomputable def Pv.ltext : Pv → Option Str
  | .int i => some (Str.ofString (toString i))
  | .str x => some x
  | _ => none
set_option maxRecDepth 100000 in
set_option maxHeartbeats 8000000 in
theorem c_law_text (w : World) (v : Value) (p : Pv) (ok : p.ok) (news : Led) (hp : IsPv w news v p) :
   Ctr w 9 331 [v] news (fun r tl => tl = [] ∧ IsOptS r p.ltext) (fun e => False) := by
  intro dp un gd cn cs a ccd cl outer A₀ base h₀ L m loose mean mg mb s Q E B F X N T hk hd hu ret exc
  cases hp
  all_goals (try have hi1 : -1000000000000 < (_ : Int) ∧ (_ : Int) < 1000000000000 := ok)
  all_goals (refine wpAny_call ?_; k_dflt ktr_enter)
  all_goals k_steps
  all_goals exact ret _ [] _ _ (by k_asm) (by walk_at "news") ⟨rfl, by constructor⟩


inductive Res where
  | val (p : Pv)
  | err (k : Int)
noncomputable def IsRes (w : World) (news : Led) (v : Value) : Res → Prop
  | .val p => IsPv w news v p
  | .err k => DatIn news v (.tuple [.str (nm "error"), .int k])
noncomputable def Res.ok : Res → Prop
  | .val (.pat d) => kqdOk 8 d = true
  | _ => True
theorem err_kqd (k : Int) : kqdOk 8 (.tuple [.str (nm "error"), .int k]) = true := by simp only [kqdOk, List.all_cons, List.all_nil, Bool.and_true, Bool.and_eq_true]; decide +kernel
theorem eqv_self {d : Dat} (h : kqdOk 8 d = true) : PyData.eqv (kqdP d) (kqdP d) = true := (kqd_eqv 8 d d 8 h h).mpr rfl
theorem err_in {news : Led} {v : Value} {k : Int} (h : DatIn news v (.tuple [.str (nm "error"), .int k])) : ∃ a t1 t2 n, v = .ref a ∧ (a, tup2 (.str (nm "error") t1) (.int k t2) n) ∈ news := by
  cases h with
  | tuple hm r => cases r with | cons h1 r => cases h1; cases r with | cons h2 r => cases h2; cases r; exact ⟨_, _, _, _, rfl, hm⟩
section
variable {prog : Program} {w : World} {A : Around} {E : Value → Shared → Prop} {s : Shared} {h₀ : Heap} {L : Addr} {news n1 n2 : Led} {Q : Value → Shared → Prop}
theorem dat_self {v v' : Value} {d : Dat} (N : News h₀ L s.heap news) (Da : DatIn n1 v d) (s1 : ∀ q ∈ n1, q ∈ news) (Db : DatIn n2 v' d) (s2 : ∀ q ∈ n2, q ∈ news) (k : kqdOk 8 d = true) (hu : A.units + 64 < cLine)
    (h : Q (.bool true) s) : wpAny (model prog w) A (compareOp .Eq v v') Q E s := dat_eq N (Da.mono s1) (Db.mono s2) k k hu (by rw [eqv_self k]; exact h)
end
theorem reg29 : True := by
  k_with "m compareOp Eq" => ((k_here; k_dflt (refine' dat_self ?k1Z ?k2Z ?k3Z ?k4Z ?k5Z ?k6Z ?k7Z ?_; (case k1Z => k_asm); (case k2Z => assumption); (case k3Z => walk_at "led"); (case k4Z => assumption); (case k5Z => walk_at "led"); (case k6Z => first | assumption | exact err_kqd _ | decide +kernel); (case k7Z => ktr_units))))
  exact True.intro
set_option maxRecDepth 100000 in
set_option maxHeartbeats 8000000 in
theorem c_same (w : World) (v1 v2 : Value) (x : Res) (ok : x.ok) (news : Led) (h1 : IsRes w news v1 x) (h2 : IsRes w news v2 x) :
   Ctr w 15 338 [v1, v2] news (fun r tl => tl = [] ∧ r = .bool true) (fun e => False) := by
  intro dp un gd cn cs a ccd cl outer A₀ base h₀ L m loose mean mg mb s Q E B F X N T hk hd hu ret exc
  cases x with
  | val p =>
    have h1 : IsPv w news v1 p := h1
    have h2 : IsPv w news v2 p := h2
    cases p
    all_goals (try have ok : kqdOk 8 _ = true := ok)
    all_goals (cases h1; cases h2)
    all_goals (refine wpAny_call ?_; k_dflt ktr_enter)
    all_goals k_steps
    all_goals first | exact ret _ [] _ _ (by k_asm) (by walk_at "news") ⟨rfl, rfl⟩ | exact ret _ [] _ _ (by k_asm) (by walk_at "news") ⟨rfl, congrArg Value.bool (by simp)⟩
  | err k =>
    have h1 : DatIn news v1 (.tuple [.str (nm "error"), .int k]) := h1
    have h2 : DatIn news v2 (.tuple [.str (nm "error"), .int k]) := h2
    obtain ⟨a1, t1, u1, n1, rfl, m1⟩ := err_in h1
    obtain ⟨a2, t2, u2, n2, rfl, m2⟩ := err_in h2
    refine wpAny_call ?_; k_dflt ktr_enter
    k_steps
    all_goals first | exact ret _ [] _ _ (by k_asm) (by walk_at "news") ⟨rfl, rfl⟩



end
end Mine
namespace Mine
section

theorem reg30 : True := by
  k_with_none
  k_with "m room" => (exact rm1 (by assumption) (by exact rfl))
  k_with "m units" => (exact rm2 (by assumption) (by exact rfl))
  k_with "m ctr" => (((case k1Z => k_asm); (case k2Z => k_asm); (case k3Z => k_asm); (case k4Z => k_asm); (case k5Z => k_asm); (case kKZ => first | exact rfl | assumption); (case kdZ => ktr_room); (case kuZ => ktr_units)))
  k_with "m exec Raise some none" => ((k_here; k_dflt (refine raise_exec (w := ‹World›) rfl ?_)))
  k_with "m RaisePost" => ((refine ⟨_, _, _, rfl, News.get (by k_asm) (List.Mem.tail _ (List.Mem.head _)), by k_in, ?_⟩))
  k_with "m call ref" => ((k_here; k_dflt ( (with_reducible show wpAny _ _ (call (Value.ref 34) _ _) _ _ _); refine' exc_made _ _ _ _ _ _ _ _ _ _ _ _ _ _ _ _ _ _ _ _ _ ?k1Z ?k2Z ?k3Z ?k4Z ?k5Z ?kAZ ?kFZ ?kKZ ?kRZ ?_; (case kAZ => exact rfl); (case k1Z => k_asm); (case k2Z => k_asm); (case k3Z => k_asm); (case k4Z => k_asm); (case k5Z => k_asm); (case kFZ => exact rfl); (case kKZ => first | exact rfl | assumption); (case kRZ => ktr_room); intro e9k d9k t9k k9k k9k' h9k tk9k F9k N9k ne9k lt9k; (try dsimp only))))
  k_with "m leaving" => ((k_here; k_dflt (first | (refine' leave_madeD ?k1Z ?k2Z ?k3Z (List.Mem.tail _ (List.Mem.head _)) (List.Mem.head _) ?k4Z ?_; (case k1Z => k_asm); (case k2Z => k_asm); (case k3Z => k_asm); (case k4Z => exact fun p hp => ⟨List.Mem.tail _ (List.Mem.tail _ hp), by solve_by_elim⟩); intro h9k B9k U9k) | (refine' leave_onD ?k1Z ?k2Z ?k3Z ?k4Z ?_; (case k1Z => k_asm); (case k2Z => k_asm); (case k3Z => k_asm); (case k4Z => k_asm); intro h9k B9k U9k))))
  k_with "m mem" => (first | exact List.mem_cons_self | (refine' List.mem_cons_of_mem _ ?_; k_mem))
  k_with "m news" => (first | with_reducible assumption | assumption | exact ndrop (by assumption) | exact ndrop (ndrop (by assumption)) | exact ndrop (ndrop (ndrop (by assumption))))
  k_with "m eval Call Name" => ((k_here; (fail_if_success (with_reducible show wpAny _ _ (eval (Expr.Call (Expr.Name "range" _) _ _ _) _) _ _ _)); k_dflt (refine Call_ ?_)))
  k_with "m boom" => (first | with_reducible assumption | exact Boom.sub (by assumption) (fun p hp => List.Mem.tail _ hp) | exact Boom.sub (by assumption) (fun p hp => List.Mem.tail _ (List.Mem.tail _ hp)) | exact Boom.sub (by assumption) (fun p hp => List.Mem.tail _ (List.mem_append.mpr (Or.inl hp))) | exact Boom.sub (by assumption) (fun p hp => List.mem_append.mpr (Or.inl hp)))
  k_with "m led" => (first | exact fun _ h => h | exact fun _ h => List.Mem.tail _ h | exact fun _ h => List.Mem.tail _ (List.Mem.tail _ h) | exact fun _ h => List.Mem.tail _ (List.Mem.tail _ (List.Mem.tail _ h)) | exact fun _ h => List.mem_append.mpr (Or.inr h) | exact fun _ h => List.mem_append.mpr (Or.inl h) | exact fun _ h => List.Mem.tail _ (List.mem_append.mpr (Or.inr h)) | exact fun _ h => List.mem_append.mpr (Or.inr (List.mem_append.mpr (Or.inr h))) | exact fun _ h => List.mem_append.mpr (Or.inr (List.Mem.tail _ h)))
  k_with "m call ref" => ((k_here; k_dflt (refine' call_cls ?k1Z ?k2Z ?k3Z ?k4Z ?k5Z ?k6Z ?_; (case k1Z => k_asm); (case k2Z => k_asm); (case k3Z => k_asm); (case k4Z => k_is); (case k5Z => k_is); (case k6Z => k_is); k_whole; intro x' d' h' F' N' l1k l2k; (try k_lt l1k); (try k_lt2 l2k); (try k_sweep); (refine' code_def ?k1Z ?k2Z ?k3Z ?k4Z ?k5Z ?kAZ ?kFZ ?kKZ ?k6Z ?k7Z ?k8Z ?k9Z ?kBZ ?_ ?c2Z ?c3Z ?c4Z ?c5Z; (case kAZ => exact rfl); (case kFZ => exact rfl); (case kKZ => first | exact rfl | assumption); (case k1Z => k_asm); (case k2Z => k_asm); (case k3Z => k_asm); (case k4Z => k_asm); (case k5Z => k_asm); (case k6Z => k_is); (case k7Z => k_is); (case k8Z => ktr_room); (case k9Z => exact BindsTo.of_eq rfl); (case c5Z => decide); (case kBZ => exact locs rfl); (case c2Z => exact rfl); (case c3Z => exact rfl); (case c4Z => exact rfl); k_whole; intro g' L' h' FG' F' N' B' X' T'; (try dsimp only); (try k_fold)))))
  k_with "m ite" => ((k_here; k_openite; with_reducible first | refine ite_pos (by assumption) ?_ | refine ite_neg (by assumption) ?_ | refine ite_isFalse (by assumption) ?_ | (refine split_ine ?_ ?_ <;> intro _) | (refine split_ieq ?_ ?_ <;> intro _) | refine split_not ?_ | (refine split_dec ?_ ?_ <;> intro _) | (refine split_bool ?_ ?_ <;> intro _)))
  k_with "m ite" => ((with_reducible first | refine ite_tt ?_ | refine ite_ff ?_))
  k_with "m testChain" => (dsimp only)
  k_with "m evalPairs" => (dsimp only)
  k_with "m compareChain" => (dsimp only)
  k_with "m ite" => ((k_closed; first | ((with_reducible refine ite_cf ?chZ ?_); (case chZ => decide +kernel)) | ((with_reducible refine ite_ct ?chZ ?_); (case chZ => decide +kernel))))
  k_with "m InvEndN" => (k_dflt kst_close)
  exact True.intro
section
variable {w : World} {A₀ : Around} {E : Value → Shared → Prop} {s' : Shared} {base g G : Heap} {outer : List Env} {L a e : Addr} {m : Str → Option Value} {name : Str} {scope : Scope} {cd : Value}
  {n : Str} {b₀ : Stmt} {suite : List Stmt} {pos np : Pos} {rest : List ExceptHandler} {Q : Flow → Shared → Prop} {news : Led} {KF : Frag} {nn : Int}
  {p : Program} {loose : List Str} {mean : ExcName → Option Value} {mg mb : Str → Option Value} {x : Str}
theorem caught_boom {prog : Program} (R : Boom w base G (envOf name scope L a cd :: outer) e nn news s'.heap) (F : Fr g L G m) (K : Below A₀ base outer g) (hsm : G.UpToSlots s'.heap) (XB : KF.In base) (TB : Top p loose mean mg mb base)
    (ex : nsIn KF mainGlobals x = some (some (.ref 34))) (q : ktsIn KF 34 "BaseException" = true)
    (k : ∀ h' g' oe dx t1 told t2 k1 k2 tk, KtsTurn (outer.filterMap (·.frame)) g g' → Fr g' L h' (fun y => if y = n then some (.ref e) else m y) → News g' L h' news → InstAt h' e oe 34 (some (numDict w nn t1 told t2 k1 k2)) → oe.dict = some dx → Below A₀ base outer g' → KF.In g' → Top p loose mean mg mb g' →
      wpAny (model prog w) ((A₀.deeper (envOf name scope L a cd)).mark (some (.ref e))) (execs (b₀ :: suite) (envOf name scope L a cd))
        (fun f s₄ => wpAny (model prog w) (A₀.deeper (envOf name scope L a cd)) (do bindName (envOf name scope L a cd) n .none; unbindBehindTheSuite (envOf name scope L a cd) n pos) (fun _ s₅ => Q f s₅) E s₄)
        (AsSuiteRaised (model prog w) ((A₀.deeper (envOf name scope L a cd)).mark (some (.ref e))) (envOf name scope L a cd) n pos (notedBy (model prog w) ((A₀.deeper (envOf name scope L a cd)).mark (some (.ref e))) (envOf name scope L a cd) (cameBackBy (model prog w) (A₀.deeper (envOf name scope L a cd)) (envOf name scope L a cd) E)))
        { s' with heap := h', toks := tk })
    (hk : scope.kind = .function := by rfl) (hlo : (envOf name scope L a cd).kindOf n = some .local := by rfl) (hx : (envOf name scope L a cd).kindOf x = some .globalImplicit := by rfl) (hd : (x == ("__debug__" : Str)) = false := by decide) :
    wpAny (model prog w) (A₀.deeper (envOf name scope L a cd)) (noteFrame (.ref e) (envOf name scope L a cd))
      (fun _ s₂ => wpAny (model prog w) (A₀.deeper (envOf name scope L a cd)) (setFlight (.ref e) none) (fun _ s₃ =>
        wpAny (model prog w) (A₀.deeper (envOf name scope L a cd)) (handleBy (.ref e) (envOf name scope L a cd) (.ExceptHandler (some (.Name x np)) (some n) (b₀ :: suite) pos :: rest)) Q E s₃) E s₂) E s' := by
  obtain ⟨B, dx, t1, told, t2, k1, k2, hB, hBG, hl, hfl, hdx⟩ := R
  have hL : B.get? L = none := by
    obtain ⟨_, ⟨L', _, hf, hn', _⟩, _⟩ := hfl.frames
    obtain rfl : L = L' := Option.some.inj hf
    exact hn'
  refine note_nextD (Around.frames_deeper K.stack) rfl hfl fun h₄ hheld₄ hsm₄ => ?_
  refine landD hheld₄ fun h₅ hheld hsm₅' => ?_
  have hsm₅ := hsm₄.trans hsm₅'
  obtain ⟨g₅, T₅, F₅, K₅⟩ := kts_ground K F hBG hheld.stays (hsm.trans hsm₅)
  have X₅ : KF.In g₅ := XB.keeps K₅.stays
  have P₅ : TopRead p loose mg mb g₅ := topRead_of (TB.keeps K₅.stays)
  obtain ⟨ob, vs, hob, hobc, _, _⟩ := hheld.there
  obtain ⟨nm, q', N, bs, bm, hdct, sn, sub, ab, col, dd, k0, k1', k2', k3, k5, newId, hC, hbase, hbT⟩ := kts_cls X₅ q
  have hC₅ := F₅.keep _ _ hC
  refine wpAny_handleBy_cons (codeAny_handlers_test (name_K F₅ X₅ P₅ ex ?_ hk hx hd)) (by intro q; cases q)
  refine wpAny_excMatches_sub_self hC₅ hob hobc hbase (codeAny_handlers_suite_as ?_)
  refine landD hheld fun h₆ hfl₆ hsm₆ => ?_
  obtain ⟨g₆, T₆, F₆, K₆⟩ := kts_ground K F hBG hfl₆.stays ((hsm.trans hsm₅).trans hsm₆)
  obtain ⟨oe, vs', hoe, hoec, hoedx, hoed⟩ := hfl₆.there
  have Nl : News g₆ L h₆ news := fun q hq => ⟨hfl₆.stays _ _ (hl q hq).1, (fun z => by have := (hl q hq).1; rw [z, hL] at this; cases this), T₆.none_ _ (kts_none F.keep (hl q hq).2.1)⟩
  have X₆ : KF.In g₆ := XB.keeps K₆.stays
  have P₆ : Top p loose mean mg mb g₆ := TB.keeps K₆.stays
  have dxL : dx ≠ L := fun z => by rw [z, hL] at hdx; cases hdx
  have eL : e ≠ L := fun z => by
    obtain ⟨oL, es, ep, h1, h2, _⟩ := F₆.ns
    rw [z, h1] at hoe
    cases hoe
    rw [h2] at hoed
    cases hoed
  refine wpAny_storeName_local hlo F₆.ns (fun h₇ hn hs => ?_) (by show (scope.kind == .class || (scope.kind == .module && L != mainGlobals)) = false; rw [hk]; rfl)
  exact k h₇ g₆ oe dx t1 told t2 k1 k2 _ T₆ (F₆.set hn hs) (Nl.set hs) ⟨(hs.2 e eL).trans hoe, hoec, by unfold notCls; rw [hoed], by rw [hoedx]; exact (hs.2 dx dxL).trans (hfl₆.stays _ _ hdx)⟩ hoedx K₆ X₆ P₆
end

noncomputable def LeaveT (A₀ : Around) (base : Heap) (outer : List Env) (K : Frag) (loose : List Str) (mean : ExcName → Option Value) (mg mb : Str → Option Value) (h₀ : Heap) (L : Addr) (m : Str → Option Value) (env : Env) (g : Heap) (R : Result → Shared → Prop) (v : Value) (s' : Shared) : Prop :=
  ∃ g' L' m' news', KtsTurn ((env :: outer).filterMap (·.frame)) g g' ∧ Fr g' L' s'.heap m' ∧ News g' L' s'.heap news' ∧
    ∀ h₀', KtsTurn (outer.filterMap (·.frame)) h₀ h₀' → Fr h₀' L s'.heap m → News h₀' L s'.heap news' → Below A₀ base outer h₀' → K.In h₀' → Top topProg loose mean mg mb h₀' → R (.ok (.ret v)) s'
theorem leaveT_ {A₀ : Around} {base : Heap} {outer : List Env} {K : Frag} {loose : List Str} {mean : ExcName → Option Value} {mg mb : Str → Option Value} {h₀ : Heap} {L : Addr} {m : Str → Option Value} {env : Env} {g : Heap} {R : Result → Shared → Prop} {v : Value} {s' : Shared}
    {g' : Heap} {L' : Addr} {m' : Str → Option Value} {news' : Led} (T : KtsTurn ((env :: outer).filterMap (·.frame)) g g') (F' : Fr g' L' s'.heap m') (N' : News g' L' s'.heap news')
    (k : ∀ h₀', KtsTurn (outer.filterMap (·.frame)) h₀ h₀' → Fr h₀' L s'.heap m → News h₀' L s'.heap news' → Below A₀ base outer h₀' → K.In h₀' → Top topProg loose mean mg mb h₀' → R (.ok (.ret v)) s') :
    LeaveT A₀ base outer K loose mean mg mb h₀ L m env g R v s' := ⟨g', L', m', news', T, F', N', k⟩
section
variable {prog : Program} {w : World} {A₀ A : Around} {s : Shared} {base h₀ : Heap} {outer : List Env} {L : Addr} {m : Str → Option Value} {env : Env} {news : Led} {K : Frag} {loose : List Str} {mean : ExcName → Option Value} {mg mb : Str → Option Value}
  {R : Result → Shared → Prop} {name qual : Str} {params : Arguments} {body : List Stmt} {scope : Scope} {dV kV doc pm cdv ct oc : Value} {an od : Option Addr} {osl : Array (Option Value)} {f : Addr} {args : Args} {binds : List (Str × Value)}
theorem groundT (B : Below A₀ base outer h₀) (F : Fr h₀ L s.heap m) (N : News h₀ L s.heap news) (XB : K.In base) (TB : Top topProg loose mean mg mb base) (hA : A.frames = some (env :: outer)) (hf : env.frame = some L) (hke : env.scope.kind = .function) :
    ∀ v s', LeaveT A₀ base outer K loose mean mg mb h₀ L m env (hideAll s.heap (news.map (·.1))) R v s' → R (.ok (.ret v)) s' := by
  intro v s' hl
  obtain ⟨FG, BG, st, _⟩ := groundX (R := R) B F N hA hf hke
  obtain ⟨g', L', m', news', T', F', N', k⟩ := hl
  obtain ⟨oL, es, ep, hLg, hLd, hLk, hLf⟩ := FG.ns
  have nL₀ : h₀.get? L = none := kts_self F
  have memE : ∀ b, b ∈ (env :: outer).filterMap (·.frame) → b = L ∨ b ∈ outer.filterMap (·.frame) := fun b hb => by
    obtain ⟨env', he, hf'⟩ := List.mem_filterMap.mp hb
    rcases List.mem_cons.mp he with rfl | he
    · exact .inl (Option.some.inj (hf'.symm.trans hf))
    · exact .inr (List.mem_filterMap.mpr ⟨env', he, hf'⟩)
  obtain ⟨sl, hs⟩ := T'.up hLg
  obtain ⟨T₁, S₁⟩ := kts_turn_at (h := s'.heap) (fs := outer.filterMap (·.frame)) (g := h₀)
    (fun b hb => by
      obtain ⟨_, o, ho', _⟩ := B.frames.mem hb
      exact ⟨o, ho'⟩)
    (fun b o e nmem => F'.keep b o (T'.other b o (st b o e) (fun q => by
      rcases memE _ q with z | z
      · rw [z, nL₀] at e
        cases e
      · exact nmem z)))
    (fun b o e hm => by
      obtain ⟨sl', hs'⟩ := T'.up (st b o e)
      exact ⟨sl', F'.keep _ _ hs'⟩)
  have B₃ : Below A₀ base outer (ktsHeap s'.heap (outer.filterMap (·.frame)) h₀) := ⟨B.stack, fun b o e => T₁.other b o (B.stays b o e) (fun hm => by
    rw [(B.frames.mem hm).1] at e
    cases e), B.frames.of_keeps fun b o e _ => by
    obtain ⟨sl', hs'⟩ := T₁.up e
    exact ⟨_, hs', rfl⟩⟩
  refine k _ T₁ ⟨⟨_, es, ep, F'.keep _ _ hs, hLd, hLk, hLf⟩, S₁, by rw [T₁.size]; exact F.above⟩ (fun p hp => ⟨(N' p hp).1, fun q => ?_, ?_⟩) B₃ (XB.keeps B₃.stays) (TB.keeps B₃.stays)
  · have := (N' p hp).2.2; rw [q, hs] at this; cases this
  · refine T₁.none_ _ ?_
    cases q : h₀.get? p.1 with
    | none => rfl
    | some o =>
      obtain ⟨sl', hs'⟩ := T'.up (st _ _ q)
      have := (N' p hp).2.2
      rw [hs'] at this
      cases this
theorem code_defT (B : Below A₀ base outer h₀) (F : Fr h₀ L s.heap m) (X₀ : K.In h₀) (N : News h₀ L s.heap news) (T : Top topProg loose mean mg mb h₀) (XB : K.In base) (TB : Top topProg loose mean mg mb base) (hA : A.frames = some (env :: outer)) (hf : env.frame = some L) (hke : env.scope.kind = .function)
    (ho : K.lookup f = some ⟨oc, od, .func (fnOf name qual params body scope dV kV doc pm an cdv ct), osl⟩) (hcd : codeIn K cdv qual = true) (hroom : A.depth < recursionLimit)
    (hbind : BindsTo s (fnOf name qual params body scope dV kV doc pm an cdv ct) args binds) (hloc : ∀ y ∈ binds, scope.names.lookup y.1 = some .local)
    (h : ∀ g L' h₁, Fr h₀ L g m → Fr g L' h₁ (fun y => binds.reverse.lookup y) → News g L' h₁ news → Below A base (env :: outer) g → K.In g → Top topProg loose mean mg mb g →
      wpAny (model prog w) (A.deeper (envOf qual scope L' f cdv)) (execs body (envOf qual scope L' f cdv))
        (fun fl s' => LeaveT A₀ base outer K loose mean mg mb h₀ L m env g R (match fl with | .ret v => v | _ => .none) s')
        (fun e s' => wpAny (model prog w) (A.deeper (envOf qual scope L' f cdv)) (leaving (envOf qual scope L' f cdv) e) (fun _ s'' => R (.error e) s'') (fun e' s'' => R (.error e') s'') s')
        { s with heap := h₁, toks := s.toks + binds.length })
    (hco : scope.isCoroutine = false) (hgen : scope.isGenerator = false) (hk : scope.kind = .function)
    (hcell : ∀ x ∈ scope.names, x.2 ≠ .cell) : codeAny (model prog w) A (.call (.ref f) args) R s := by
  have X := X₀.keeps F.keep
  obtain ⟨FG, BG, st, _⟩ := groundX (R := R) B F N hA hf hke
  have lv := groundT (R := R) B F N XB TB hA hf hke
  refine codeAny_call_def (fd := fnOf name qual params body scope dV kV doc pm an cdv ct) (body := body) (binds := binds) hroom (X _ _ ho) rfl (T.nolimit.keeps F.keep) (codeRec_of X hcd) rfl hbind hcell hloc (fun h₁ hns hk₁ => ?_) hco hgen hk
  exact wpAny_mono (h _ s.heap.objs.size h₁ FG ⟨hns, fun b o e => hk₁ b o (of_hideAll _ e), Nat.le_of_eq (hideAll_size _ _)⟩
    (fun p hp => ⟨hk₁ _ _ (N p hp).1, Nat.ne_of_lt (Heap.lt_size (N p hp).1), hideAll_none _ (List.mem_map_of_mem hp)⟩) BG (X₀.keeps st) (T.keeps st)) (fun fl s' hl => lv _ _ hl) fun _ _ y => y
theorem code_defTC (B : Below A₀ base outer h₀) (F : Fr h₀ L s.heap m) (X₀ : K.In h₀) (N : News h₀ L s.heap news) (T : Top topProg loose mean mg mb h₀) (XB : K.In base) (TB : Top topProg loose mean mg mb base) (hA : A.frames = some (env :: outer)) (hf : env.frame = some L) (hke : env.scope.kind = .function)
    (ho : K.lookup f = some ⟨oc, od, .func (fnOf name qual params body scope dV kV doc pm an cdv ct), osl⟩) (hcd : codeIn K cdv qual = true) (hroom : A.depth < recursionLimit)
    (hbind : BindsTo s (fnOf name qual params body scope dV kV doc pm an cdv ct) args binds) (hkind : (binds.all fun y => scope.names.lookup y.1 == some .local || scope.names.lookup y.1 == some .cell) = true)
    (hnd : ((cellsFrom 0 scope.names []).map (·.1)).Nodup)
    (h : ∀ g L' h₁ tk cells, Fr h₀ L g m → Fr g L' h₁ (bindL (envOfC qual scope L' f cdv).kindOf binds fun _ => none) → News g L' h₁ (cells ++ news) →
      CellsAre (bindC (envOfC qual scope L' f cdv).kindOf binds fun _ => none) (cellsFrom (L' + 1) scope.names []) cells → Below A base (env :: outer) g → K.In g → Top topProg loose mean mg mb g → (∀ p ∈ news, p.1 < L') →
      wpAny (model prog w) (A.deeper (envOfC qual scope L' f cdv)) (execs body (envOfC qual scope L' f cdv))
        (fun fl s' => LeaveT A₀ base outer K loose mean mg mb h₀ L m env g R (match fl with | .ret v => v | _ => .none) s')
        (fun e s' => wpAny (model prog w) (A.deeper (envOfC qual scope L' f cdv)) (leaving (envOfC qual scope L' f cdv) e) (fun _ s'' => R (.error e) s'') (fun e' s'' => R (.error e') s'') s')
        { s with heap := h₁, toks := tk })
    (hco : scope.isCoroutine = false) (hgen : scope.isGenerator = false) (hk : scope.kind = .function) : codeAny (model prog w) A (.call (.ref f) args) R s := by
  have X := X₀.keeps F.keep
  have hlim := T.nolimit
  obtain ⟨FG, BG, st, _⟩ := groundX (R := R) B F N hA hf hke
  have lv := groundT (R := R) B F N XB TB hA hf hke
  refine codeAny_call_function hroom (X _ _ ho) rfl hco hgen rfl (codeRec_of X hcd) (hbind _ _ _ _ ?_)
  refine wpAny_newFunctionEnv_cells hk (kindsX hkind _) fun env' he s' x => ?_
  subst he
  refine ⟨(hlim.keeps F.keep).keeps x.toInCall.keep, codeAny_func ?_⟩
  obtain ⟨h₁, tk, rfl, _⟩ := x.done
  have hk₁ := x.toInCall.keep
  obtain ⟨cells, NC, Y⟩ := Cl.news (h₀ := s.heap) (Nat.le_refl _) fun n c hm => ⟨x.cell n c (lookup_of_mem_nodup (cellsFrom_names scope.names 0 (s.heap.objs.size + 1) [] [] rfl ▸ hnd) hm), x.above n c hm⟩
  refine wpAny_mono (h _ s.heap.objs.size h₁ tk cells FG ⟨x.toInCall.ns, fun b o e => hk₁ b o (of_hideAll _ e), Nat.le_of_eq (hideAll_size _ _)⟩ (fun p hp => ?_) Y BG (X₀.keeps st) (T.keeps st) (fun p hp => Heap.lt_size (N p hp).1)) (fun fl s' hl => lv _ _ hl) fun _ _ y => y
  rcases List.mem_append.mp hp with hp | hp
  · refine ⟨(NC p hp).1, (NC p hp).2.1, ?_⟩
    cases q : (hideAll s.heap (news.map (·.1))).get? p.1 with
    | none => rfl
    | some o => have := of_hideAll _ q; rw [(NC p hp).2.2] at this; cases this
  · exact ⟨hk₁ _ _ (N p hp).1, Nat.ne_of_lt (Heap.lt_size (N p hp).1), hideAll_none _ (List.mem_map_of_mem hp)⟩
end
noncomputable def CtrT (w : World) (k : Nat) (f : Addr) (args : List Value) (news : Led) (Ok : Value → Led → Prop) : Prop :=
  ∀ (dp un : Nat) (gd : Option (List Code)) (cn : Str) (cs : Scope) (a : Addr) (ccd : Value) (cl : List (Str × Addr)) (outer : List Env) (A₀ : Around) (base h₀ : Heap) (L : Addr) (m : Str → Option Value)
    (loose : List Str) (mean : ExcName → Option Value) (mg mb : Str → Option Value) (s : Shared) (Q E : Value → Shared → Prop),
    Below A₀ base outer h₀ → Fr h₀ L s.heap m → (mkK.heap_1 w.params).In h₀ → News h₀ L s.heap news → Top topProg loose mean mg mb h₀ → cs.kind = .function → (mkK.heap_1 w.params).In base → Top topProg loose mean mg mb base →
    dp + k < recursionLimit → un + 8 * k < cLine →
    (∀ r tl h' tk' h₀', KtsTurn (outer.filterMap (·.frame)) h₀ h₀' → Fr h₀' L h' m → News h₀' L h' (tl ++ news) → Below A₀ base outer h₀' → (mkK.heap_1 w.params).In h₀' → Top topProg loose mean mg mb h₀' → Ok r tl → Q r { s with heap := h', toks := tk' }) →
    wpAny (model PySem.Challenge.rw_np0295_01.row.prog w) (ktrTop dp un gd cn cs L a ccd cl outer) (call (.ref f) args) Q E s
noncomputable abbrev errD (n : Int) : Dat := .tuple [.str (nm "error"), .int n]
theorem reg31 : True := by
  k_with "m callWith ref" => ((k_here; k_dflt (refine' callWith_F0 ?k1Z ?_; (case k1Z => exact FnAt.of (by k_asm) (by k_mem)); k_whole; try dsimp only [List.nil_append, List.cons_append])))
  exact True.intro
theorem exc_ga : ExcAttrFacts "Exception" where
  ga := .of (owner := "BaseException") (n := "__getattribute__") (by rw [typeLookup_type, builtinLookup_eq_fast]; kernel_rfl) (by decide +kernel) (by decide +kernel) (by decide +kernel)
    (by first | exact .inl (by decide +kernel) | exact .inr (by decide +kernel)) (by rw [isSubtype_type]; kernel_rfl)
  lkArgs := by rw [typeLookup_type, builtinLookup_eq_fast]; kernel_rfl
  sub := by rw [isSubtype_type]; kernel_rfl
section
variable {prog : Program} {w : World} {A : Around} {E : Value → Shared → Prop} {s : Shared} {K : Frag} {a : Addr} {ox : Obj} {od : Obj} {name : Str} {v : Value} {expr : Bool} {Q : Value → Shared → Prop}
theorem exc_check {M : Model} {hh : Heap} {g : Array GenState} {d : Drawn} {t : Nat} {os : OsState} {nameV : Value} {o : Obj} {Q : Unit → Shared → Prop} {nm q : Str} {N : Addr} {bs bm : List Value} {hdct : Bool} {sn : List Str} {sub : List Value} {ab : Bool} {col : Option Bool} {dd : Option Addr} {k0 k1 k2 k3 k5 : Option Value} {newId : String}
    (hC : hh.get? 34 = some (excClassObj nm q 34 N bs bm hdct sn sub ab col dd k0 k1 k2 k3 k5 newId)) (hbase : bm.contains (.type "BaseException") = true)
    (hx : hh.get? a = some o) (hc : o.cls = .ref 34) (hq : Q () ⟨hh, g, d, t, os⟩) : wpAny M A (checkBuiltinCall "BaseException.__getattribute__" ⟨[.ref a, nameV], []⟩) Q E ⟨hh, g, d, t, os⟩ := by
  have hk : builtinKind "BaseException.__getattribute__" = some .slot := by decide +kernel
  have hsplit : splitId "BaseException.__getattribute__" = some ("BaseException", "__getattribute__") := by decide +kernel
  have hcB : (Value.ref 34 :: bm).contains (.type "BaseException") = true := by rw [List.contains_cons, hbase, Bool.or_true]
  have ha := F.args_bexc_ga (.ref a) nameV
  simp only [checkBuiltinCall, hk, hsplit]
  refine wpAny_bind ?_
  · unfold isInstance
    repeat (first | (with_reducible refine wpAny_loadPart_at hx ?_; rw [hc]) | (with_reducible refine wpAny_isSubtype_exc hC ?_; rw [hcB]) | wp_step)
    exact hq
theorem exc_attr (X : K.In s.heap) (I : InstAt s.heap a ox 34 (some od)) (q : ktsIn K 34 "BaseException" = true) (hga : findIn K (.ref 34) "__getattribute__" = some (some (.builtin "BaseException.__getattribute__"))) (hgh : findIn K (.ref 34) "__getattr__" = some none)
    (hf : findObj K 34 (some od) name = some (.value v)) (hv : handedIn v = true) (h : Q v { s with toks := s.toks + 1 }) : wpAny (model prog w) A (getAttr (.ref a) name expr) Q E s := by
  obtain ⟨hh, g, d, t, os⟩ := s
  have L0 := I.type (M := model prog w)
  have L1 := looks_findIn (M := model prog w) X hga
  have L2 := looks_findIn (M := model prog w) X hgh
  have L3 := looks_find (M := model prog w) X I hf
  obtain ⟨nm', q', N, bs, bm, hdct, sn, sub, ab, col, dd, k0, k1, k2, k3, k5, newId, hC, hbase, hbT⟩ := kts_cls X q
  have hx := I.at_
  have hc := I.cls
  have hk : builtinKind "BaseException.__getattribute__" = some .slot := by decide +kernel
  have hsplit : splitId "BaseException.__getattribute__" = some ("BaseException", "__getattribute__") := by decide +kernel
  have hcB : (Value.ref 34 :: bm).contains (.type "BaseException") = true := by rw [List.contains_cons, hbase, Bool.or_true]
  have hx0 : (expr && onTheHeap (Value.builtin "BaseException.__getattribute__")) = false := by cases expr <;> rfl
  unfold getAttr getAttrBy
  refine wpAny_bind (wpAny_mkText (wpAny_holding (wpAny_bind (L0.at (wpAny_bind (L1.at ?_))))))
  show wpAny _ _ (getAttrByItsOwn (.ref a) (.str name t) (.ref 34) (.builtin "BaseException.__getattribute__") true expr) _ _ _
  unfold getAttrByItsOwn hookBefore callGetattribute boundAndCalled
  refine wpAny_bind (show wpAny _ _ (typeLookup (.ref 34) "__getattr__") _ _ _ from L2.at ?_)
  refine wpAny_bind (wpAny_attempt (wpAny_holding ?_))
  rw [if_neg (by rw [hx0]; decide)]
  refine wpAny_bind (wpAny_of_eq (exc_ga.ga.bind (.ref a)) ?_)
  refine wpAny_call (codeAny_call_builtin exc_ga.ga.plain F.entry_bexc_ga (exc_check hC hbase hx hc ?_))
  unfold Builtin.«object.__getattribute__»
  first
    | refine wpAny_bind (wpAny_pure (wpAny_bind (wpAny_pure (wpAny_bind (L0.at (wpAny_bind (L3.at ?_)))))))
    | refine wpAny_bind (wpAny_pure (wpAny_bind (L0.at (wpAny_bind (L3.at ?_)))))
  refine wpAny_pure ?_
  show wpAny _ _ (handedOut v) _ _ _
  rw [handedOut_of hv]
  exact wpAny_pure h
end
theorem exc_own {prog : Program} {w : World} {A : Around} {E : Value → Shared → Prop} {s : Shared} {K : Frag} {a : Addr} {ox : Obj} {es : List DictEntry} {n : Nat} {name : Str} {v : Value} {expr : Bool} {Q : Value → Shared → Prop} {attr : Option Value} (X : K.In s.heap) (I : InstAt s.heap a ox 34 (some (dictOf es n))) (q : ktsIn K 34 "BaseException" = true)
    (hga : findIn K (.ref 34) "__getattribute__" = some (some (.builtin "BaseException.__getattribute__"))) (hgh : findIn K (.ref 34) "__getattr__" = some none) (hh : hasDictIn K 34 = true) (ha : findIn K (.ref 34) name = some attr) (hn : noGet K attr = true) (hl : getL name es = some (some v)) (hv : handedIn v = true)
    (h : Q v { s with toks := s.toks + 1 }) : wpAny (model prog w) A (getAttr (.ref a) name expr) Q E s := exc_attr X I q hga hgh (findObj_own hh ha hn hl) hv h
theorem reg32 : True := by
  k_with "m getAttr ref" => ((k_here; k_dflt (refine' exc_own ?k1Z ?k2Z ?k3Z ?k4Z ?k5Z ?k6Z ?k7Z ?k8Z ?k9Z ?k10Z ?_; (case k1Z => k_in); (case k2Z => assumption); (case k3Z => kernel_rfl); (case k4Z => k_is); (case k5Z => k_is); (case k6Z => k_is); (case k7Z => k_is); (case k8Z => k_is); (case k9Z => k_get); (case k10Z => k_handed); k_whole)))
  exact True.intro
set_option maxRecDepth 100000 in
set_option maxHeartbeats 8000000 in
theorem c_heard (w : World) (k : Nat) (fa : Addr) (fd : FuncData) (oc : Value) (od : Option Addr) (osl : Array (Option Value)) (news : Led) (hfa : (fa, (⟨oc, od, .func fd, osl⟩ : Obj)) ∈ news) (Ok : Value → Led → Prop) (Bad : Int → Prop) (C : Ctr w k fa [] news Ok Bad) :
   CtrT w (k + 3) 317 [.ref fa] news (fun r tl => Ok r tl ∨ ∃ n, Bad n ∧ DatIn (tl ++ news) r (errD n)) := by
  intro dp un gd cn cs a ccd cl outer A₀ base h₀ L m loose mean mg mb s Q E B F X N T hk XB TB hd hu ret
  refine wpAny_call ?_
  k_dflt (refine' code_defT ?k1 ?k2 ?k3 ?k4 ?k5 ?kXB ?kTB ?kA ?kF ?kK ?k6 ?k7 ?k8 ?k9 ?kB ?_ ?c2 ?c3 ?c4 ?c5)
  case kA => exact rfl
  case kF => exact rfl
  case kK => assumption
  case kXB => exact XB
  case kTB => exact TB
  case k1 => k_asm
  case k2 => k_asm
  case k3 => k_asm
  case k4 => k_asm
  case k5 => k_asm
  case k6 => k_is
  case k7 => k_is
  case k8 => ktr_room
  case k9 => exact BindsTo.of_eq rfl
  case c5 => decide
  case kB => exact locs rfl
  case c2 => exact rfl
  case c3 => exact rfl
  case c4 => exact rfl
  intro g' L' h' FG' F' N' B' X' T'
  try dsimp only
  try k_fold
  k_steps
  k_dflt (refine' Ctr.use C ?zk1 ?zk2 ?zk3 ?zk4 ?zk5 ?zkK ?zkd ?zku ?_ ?_)
  case zk1 => k_asm
  case zk2 => k_asm
  case zk3 => k_asm
  case zk4 => k_asm
  case zk5 => k_asm
  case zkK => exact rfl
  case zkd => exact (show dp + 1 + k < recursionLimit by omega)
  case zku => exact (show un + 3 + 8 * k < cLine by omega)
  · intro r9 tl9 h9 tk9 F9 N9 o9
    k_unfold
    dsimp only
    refine leaveT_ KtsTurn.refl F9 N9 fun h₀' T₀ F₀ N₀ B₀ X₀ TT₀ => ?_
    dsimp only
    exact ret _ _ _ _ _ T₀ F₀ N₀ B₀ X₀ TT₀ (.inl o9)
  · intro g9 e9 n9 h9 tk9 F9 B9 U9 b9
    dsimp only
    k_dflt (refine' caught_boom B9 F9 ?yB U9 XB TB ?yex ?yq ?_)
    case yB => k_asm
    case yex => k_is
    case yq => kernel_rfl
    intro h8 g8 oe8 dx8 t8 told8 t8' k8 k8' tk8 T8 F8 N8 I8 _ B8 X8 TT8
    try k_fold
    k_steps
    refine leaveT_ T8 (by k_asm) (by k_asm) fun h₀' T₀ F₀ N₀ B₀ X₀ TT₀ => ?_
    exact ret _ [_] _ _ _ T₀ F₀ N₀ B₀ X₀ TT₀ (.inr ⟨_, b9, DatIn.tuple (.head _) (.cons (.str _ _) (.cons (.int _ _) .nil))⟩)

end
end Mine
namespace Mine
section

theorem reg33 : True := by
  k_with_none
  k_with "m room" => (exact rm1 (by assumption) (by exact rfl))
  k_with "m units" => (exact rm2 (by assumption) (by exact rfl))
  k_with "m ctr" => (((case k1Z => k_asm); (case k2Z => k_asm); (case k3Z => k_asm); (case k4Z => k_asm); (case k5Z => k_asm); (case kKZ => first | exact rfl | assumption); (case kdZ => ktr_room); (case kuZ => ktr_units)))
  k_with "m exec Raise some none" => ((k_here; k_dflt (refine raise_exec (w := ‹World›) rfl ?_)))
  k_with "m RaisePost" => ((refine ⟨_, _, _, rfl, News.get (by k_asm) (List.Mem.tail _ (List.Mem.head _)), by k_in, ?_⟩))
  k_with "m call ref" => ((k_here; k_dflt ( (with_reducible show wpAny _ _ (call (Value.ref 34) _ _) _ _ _); refine' exc_made _ _ _ _ _ _ _ _ _ _ _ _ _ _ _ _ _ _ _ _ _ ?k1Z ?k2Z ?k3Z ?k4Z ?k5Z ?kAZ ?kFZ ?kKZ ?kRZ ?_; (case kAZ => exact rfl); (case k1Z => k_asm); (case k2Z => k_asm); (case k3Z => k_asm); (case k4Z => k_asm); (case k5Z => k_asm); (case kFZ => exact rfl); (case kKZ => first | exact rfl | assumption); (case kRZ => ktr_room); intro e9k d9k t9k k9k k9k' h9k tk9k F9k N9k ne9k lt9k; (try dsimp only))))
  k_with "m leaving" => ((k_here; k_dflt (first | (refine' leave_madeD ?k1Z ?k2Z ?k3Z (List.Mem.tail _ (List.Mem.head _)) (List.Mem.head _) ?k4Z ?_; (case k1Z => k_asm); (case k2Z => k_asm); (case k3Z => k_asm); (case k4Z => exact fun p hp => ⟨List.Mem.tail _ (List.Mem.tail _ hp), by solve_by_elim⟩); intro h9k B9k U9k) | (refine' leave_onD ?k1Z ?k2Z ?k3Z ?k4Z ?_; (case k1Z => k_asm); (case k2Z => k_asm); (case k3Z => k_asm); (case k4Z => k_asm); intro h9k B9k U9k))))
  k_with "m mem" => (first | exact List.mem_cons_self | (refine' List.mem_cons_of_mem _ ?_; k_mem))
  k_with "m news" => (first | with_reducible assumption | assumption | exact ndrop (by assumption) | exact ndrop (ndrop (by assumption)) | exact ndrop (ndrop (ndrop (by assumption))))
  k_with "m eval Call Name" => ((k_here; (fail_if_success (with_reducible show wpAny _ _ (eval (Expr.Call (Expr.Name "range" _) _ _ _) _) _ _ _)); k_dflt (refine Call_ ?_)))
  k_with "m boom" => (first | with_reducible assumption | exact Boom.sub (by assumption) (fun p hp => List.Mem.tail _ hp) | exact Boom.sub (by assumption) (fun p hp => List.Mem.tail _ (List.Mem.tail _ hp)) | exact Boom.sub (by assumption) (fun p hp => List.Mem.tail _ (List.mem_append.mpr (Or.inl hp))) | exact Boom.sub (by assumption) (fun p hp => List.mem_append.mpr (Or.inl hp)))
  k_with "m led" => (first | exact fun _ h => h | exact fun _ h => List.Mem.tail _ h | exact fun _ h => List.Mem.tail _ (List.Mem.tail _ h) | exact fun _ h => List.Mem.tail _ (List.Mem.tail _ (List.Mem.tail _ h)) | exact fun _ h => List.mem_append.mpr (Or.inr h) | exact fun _ h => List.mem_append.mpr (Or.inl h) | exact fun _ h => List.Mem.tail _ (List.mem_append.mpr (Or.inr h)) | exact fun _ h => List.mem_append.mpr (Or.inr (List.mem_append.mpr (Or.inr h))) | exact fun _ h => List.mem_append.mpr (Or.inr (List.Mem.tail _ h)))
  k_with "m call ref" => ((k_here; k_dflt (refine' call_cls ?k1Z ?k2Z ?k3Z ?k4Z ?k5Z ?k6Z ?_; (case k1Z => k_asm); (case k2Z => k_asm); (case k3Z => k_asm); (case k4Z => k_is); (case k5Z => k_is); (case k6Z => k_is); k_whole; intro x' d' h' F' N' l1k l2k; (try k_lt l1k); (try k_lt2 l2k); (try k_sweep); (refine' code_def ?k1Z ?k2Z ?k3Z ?k4Z ?k5Z ?kAZ ?kFZ ?kKZ ?k6Z ?k7Z ?k8Z ?k9Z ?kBZ ?_ ?c2Z ?c3Z ?c4Z ?c5Z; (case kAZ => exact rfl); (case kFZ => exact rfl); (case kKZ => first | exact rfl | assumption); (case k1Z => k_asm); (case k2Z => k_asm); (case k3Z => k_asm); (case k4Z => k_asm); (case k5Z => k_asm); (case k6Z => k_is); (case k7Z => k_is); (case k8Z => ktr_room); (case k9Z => exact BindsTo.of_eq rfl); (case c5Z => decide); (case kBZ => exact locs rfl); (case c2Z => exact rfl); (case c3Z => exact rfl); (case c4Z => exact rfl); k_whole; intro g' L' h' FG' F' N' B' X' T'; (try dsimp only); (try k_fold)))))
  k_with "m ite" => ((k_here; k_openite; with_reducible first | refine ite_pos (by assumption) ?_ | refine ite_neg (by assumption) ?_ | refine ite_isFalse (by assumption) ?_ | (refine split_ine ?_ ?_ <;> intro _) | (refine split_ieq ?_ ?_ <;> intro _) | refine split_not ?_ | (refine split_dec ?_ ?_ <;> intro _) | (refine split_bool ?_ ?_ <;> intro _)))
  k_with "m ite" => ((with_reducible first | refine ite_tt ?_ | refine ite_ff ?_))
  k_with "m testChain" => (dsimp only)
  k_with "m evalPairs" => (dsimp only)
  k_with "m compareChain" => (dsimp only)
  k_with "m ite" => ((k_closed; first | ((with_reducible refine ite_cf ?chZ ?_); (case chZ => decide +kernel)) | ((with_reducible refine ite_ct ?chZ ?_); (case chZ => decide +kernel))))
  k_with "m InvEndN" => (k_dflt kst_close)
  exact True.intro
inductive IsAns (led : Led) : Value → Ans → Prop
  | ok (n : Int) (t : Tok) : IsAns led (.int n t) (.ok n)
  | err {v : Value} {k : Int} : DatIn led v (errD k) → IsAns led v (.error k)
theorem IsAns.mono {news news' : Led} {v : Value} {a : Ans} (h : IsAns news v a) (hs : ∀ q ∈ news, q ∈ news') : IsAns news' v a := by
  cases h with
  | ok => exact .ok _ _
  | err h => exact .err (datMono h hs)
noncomputable def dueF (x wd : Int) : Nat → Int
  | 0 => 1
  | k + 1 => if (if dueF x wd k < 0 then -dueF x wd k else dueF x wd k) < 2 ^ wd.toNat then dueF x wd k * x else dueF x wd k
theorem dueF_0 {x wd : Int} : 1 = dueF x wd ([] : List Int).length := rfl
theorem dueF_a {x wd f k : Int} {pre : List Int} (h : f = dueF x wd pre.length) (c : (if f < 0 then -f else f) < 2 ^ wd.toNat) : f * x = dueF x wd (pre ++ [k]).length := by
  rw [List.length_append, List.length_cons, List.length_nil, Nat.zero_add, dueF, ← h, if_pos c]
theorem dueF_b {x wd f k : Int} {pre : List Int} (h : f = dueF x wd pre.length) (c : ¬ (if f < 0 then -f else f) < 2 ^ wd.toNat) : f = dueF x wd (pre ++ [k]).length := by
  rw [List.length_append, List.length_cons, List.length_nil, Nat.zero_add, dueF, ← h, if_neg c]
noncomputable def dueN (x y : Int) : Nat := if 1 < (if x < 0 then -x else x) then (y - 0).toNat else ((if 2 + y.fmod 2 < y then 2 + y.fmod 2 else y) - 0).toNat
noncomputable def divD (x y : Int) : Int := (if x < 0 then -x else x).fdiv (if y < 0 then -y else y) * (if (decide (x < 0) == decide (y < 0)) = true then 1 else -1)
noncomputable def dueA (o : Op) (o1 o2 : Option Int) (wd : Int) : Ans := match o1, o2 with
  | some x, some y => (match o with
    | .add => chk (x + y) wd
    | .sub => chk (x - y) wd
    | .mul => chk (x * y) wd
    | .div => if y = 0 then .error 2 else chk (divD x y) wd
    | _ => if y < 0 then .error 2 else chk (dueF x wd (dueN x y)) wd)
  | _, _ => .error 1
theorem due_a {x y wd f : Int} (h : 1 < (if x < 0 then -x else x)) (e : f = dueF x wd (rangeKs 0 (y - 0).toNat).length) : dueF x wd (dueN x y) = f := by
  unfold dueN; rw [if_pos h, e, rangeKs_length]
theorem due_b {x y wd f : Int} (h : ¬ 1 < (if x < 0 then -x else x)) (e : f = dueF x wd (rangeKs 0 ((if 2 + y.fmod 2 < y then 2 + y.fmod 2 else y) - 0).toNat).length) : dueF x wd (dueN x y) = f := by
  unfold dueN; rw [if_neg h, e, rangeKs_length]
theorem due_d1 {x y : Int} (h : (decide (x < 0) == decide (y < 0)) = true) : divD x y = (if x < 0 then -x else x).fdiv (if y < 0 then -y else y) * 1 := by unfold divD; rw [h, if_pos rfl]
theorem due_d2 {x y : Int} (h : (decide (x < 0) == decide (y < 0)) = false) : divD x y = (if x < 0 then -x else x).fdiv (if y < 0 then -y else y) * -1 := by unfold divD; rw [h, if_neg (by decide : ¬ (false = true))]
theorem chk_e1 {n wd : Int} (h : ¬ -2 ^ (wd - 1).toNat ≤ n) : chk n wd = .error 2 := chk_err fun z => h z.1
theorem chk_e2 {n wd : Int} (h : ¬ n < 2 ^ (wd - 1).toNat) : chk n wd = .error 2 := chk_err fun z => h z.2
theorem chk_o {n wd : Int} (h : -2 ^ (wd - 1).toNat ≤ n) (k : n < 2 ^ (wd - 1).toNat) : chk n wd = .ok n := chk_ok ⟨h, k⟩
theorem ans_ok {led : Led} {n : Int} {t : Tok} {a : Ans} (h : a = .ok n) : IsAns led (.int n t) a := by rw [h]; exact .ok _ _
theorem ans_err {led : Led} {v : Value} {k : Int} {a : Ans} (D : DatIn led v (errD k)) (h : a = .error k) : IsAns led v a := by rw [h]; exact .err D
theorem reg34 : True := by
  k_with "m binaryOp FloorDiv int int" => ((k_here; refine floordiv_int (ok_pos (by assumption)) ?_ (Or.inl (noPy (ok_nat (by assumption))))))
  exact True.intro
theorem nkeep0 {h₀ h : Heap} {L : Addr} {x : Addr × Obj} {news : Led} (N : News h₀ L h (x :: news)) : News h₀ L h ([x] ++ news) := N
theorem nkeep1 {h₀ h : Heap} {L : Addr} {x y : Addr × Obj} {news : Led} (N : News h₀ L h (x :: y :: news)) : News h₀ L h ([x] ++ news) := fun p hp => N p (by rcases List.mem_cons.mp hp with rfl | hp; exact .head _; exact .tail _ (.tail _ hp))
theorem nkeep2 {h₀ h : Heap} {L : Addr} {x y z : Addr × Obj} {news : Led} (N : News h₀ L h (x :: y :: z :: news)) : News h₀ L h ([x] ++ news) := fun p hp => N p (by rcases List.mem_cons.mp hp with rfl | hp; exact .head _; exact .tail _ (.tail _ (.tail _ hp)))
theorem nkeep3 {h₀ h : Heap} {L : Addr} {x y z u : Addr × Obj} {news : Led} (N : News h₀ L h (x :: y :: z :: u :: news)) : News h₀ L h ([x] ++ news) := fun p hp => N p (by rcases List.mem_cons.mp hp with rfl | hp; exact .head _; exact .tail _ (.tail _ (.tail _ (.tail _ hp))))
theorem reg35 : True := by
  k_with "m news1" => (first | with_reducible assumption | with_reducible exact nkeep0 (by with_reducible assumption) | with_reducible exact nkeep1 (by with_reducible assumption) | with_reducible exact nkeep2 (by with_reducible assumption) | with_reducible exact nkeep3 (by with_reducible assumption))
  exact True.intro
theorem pw_a {wd : Int} (h : 5 ≤ wd) : 0 ≤ wd - 1 := by omega
theorem pw_b {wd : Int} (h : wd ≤ 40) : wd - 1 ≤ 1000000 := by omega
theorem pw_c {wd : Int} (h : 5 ≤ wd) : 0 ≤ wd := by omega
theorem pw_d {wd : Int} (h : wd ≤ 40) : wd ≤ 1000000 := by omega
theorem reg36 : True := by
  k_with "m binaryOp Pow int int" => ((k_here; (with_reducible refine pow_int_small ?kb1Z ?kb2Z ?kb3Z ?_); (case kb1Z => first | with_reducible exact pw_a (by with_reducible assumption) | with_reducible exact pw_c (by with_reducible assumption)); (case kb2Z => first | with_reducible exact pw_b (by with_reducible assumption) | with_reducible exact pw_d (by with_reducible assumption)); (case kb3Z => decide)))
  exact True.intro
theorem dueA_pw {o : Op} {x y wd : Int} (ho : o = .pow ∨ o = .bang) : dueA o (some x) (some y) wd = if y < 0 then .error 2 else chk (dueF x wd (dueN x y)) wd := by rcases ho with rfl | rfl <;> rfl
theorem opq_d (o : Op) (ho : o = .pow ∨ o = .bang) : (o.s == nm "/") = false := by rcases ho with rfl | rfl <;> decide +kernel
theorem opq_p (o : Op) (ho : o = .pow ∨ o = .bang) : ([nm "**", nm "!"].any fun y => y == o.s) = true := by rcases ho with rfl | rfl <;> decide +kernel
set_option maxRecDepth 100000 in
set_option maxHeartbeats 8000000 in
theorem c_due_pow (w : World) (o : Op) (ho : o = .pow ∨ o = .bang) (sv : Str) (x y wd : Int) (t0 t1 t2 t3 : Tok) (hs : sv = o.s) (hx : okI x) (hy : okI y) (h5 : 5 ≤ wd) (h40 : wd ≤ 40) (news : Led) :
   Ctr w 12 310 [.str sv t0, .int x t1, .int y t2, .int wd t3] news (fun r tl => IsAns (tl ++ news) r (dueA o (some x) (some y) wd)) (fun e => False) := by
  intro dp un gd cn cs a ccd cl outer A₀ base h₀ L m loose mean mg mb s Q E B F X N T hk hd hu ret exc
  subst hs
  have oq := opq_d o ho
  have oq2 := opq_p o ho
  (k_with "pyIter ref" => k_state (fun pre f => f = dueF x wd pre.length) "found")
  (k_with "state" => first | exact dueF_a (by assumption) (by assumption) | exact dueF_b (by assumption) (by assumption) | exact dueF_0)
  all_goals (refine wpAny_call ?_; k_dflt ktr_enter)
  all_goals k_steps
  · exact ret _ [_] _ _ (by k_asm) (by walk_at "news1") (ans_err (DatIn.tuple (.head _) (.cons (.str _ _) (.cons (.int _ _) .nil))) ((dueA_pw ho).trans (if_pos (by with_reducible assumption))))
  · exact ret _ [] _ _ (by k_asm) (by walk_at "news") (ans_ok ((dueA_pw ho).trans ((if_neg (by with_reducible assumption)).trans (by rw [due_a (by with_reducible assumption) (by with_reducible assumption)]; exact chk_o (by with_reducible assumption) (by with_reducible assumption)))))
  · exact ret _ [_] _ _ (by k_asm) (by walk_at "news1") (ans_err (DatIn.tuple (.head _) (.cons (.str _ _) (.cons (.int _ _) .nil))) ((dueA_pw ho).trans ((if_neg (by with_reducible assumption)).trans (by rw [due_a (by with_reducible assumption) (by with_reducible assumption)]; exact chk_e2 (by with_reducible assumption)))))
  · exact ret _ [_] _ _ (by k_asm) (by walk_at "news1") (ans_err (DatIn.tuple (.head _) (.cons (.str _ _) (.cons (.int _ _) .nil))) ((dueA_pw ho).trans ((if_neg (by with_reducible assumption)).trans (by rw [due_a (by with_reducible assumption) (by with_reducible assumption)]; exact chk_e1 (by with_reducible assumption)))))
  · exact ret _ [] _ _ (by k_asm) (by walk_at "news") (ans_ok ((dueA_pw ho).trans ((if_neg (by with_reducible assumption)).trans (by rw [due_b (by with_reducible assumption) (by with_reducible assumption)]; exact chk_o (by with_reducible assumption) (by with_reducible assumption)))))
  · exact ret _ [_] _ _ (by k_asm) (by walk_at "news1") (ans_err (DatIn.tuple (.head _) (.cons (.str _ _) (.cons (.int _ _) .nil))) ((dueA_pw ho).trans ((if_neg (by with_reducible assumption)).trans (by rw [due_b (by with_reducible assumption) (by with_reducible assumption)]; exact chk_e2 (by with_reducible assumption)))))
  · exact ret _ [_] _ _ (by k_asm) (by walk_at "news1") (ans_err (DatIn.tuple (.head _) (.cons (.str _ _) (.cons (.int _ _) .nil))) ((dueA_pw ho).trans ((if_neg (by with_reducible assumption)).trans (by rw [due_b (by with_reducible assumption) (by with_reducible assumption)]; exact chk_e1 (by with_reducible assumption)))))


theorem opq_d3 (o : Op) (ho : o = .add ∨ o = .sub ∨ o = .mul) : (o.s == nm "/") = false := by rcases ho with rfl | rfl | rfl <;> decide +kernel
theorem opq_p3 (o : Op) (ho : o = .add ∨ o = .sub ∨ o = .mul) : ([nm "**", nm "!"].any fun y => y == o.s) = false := by rcases ho with rfl | rfl | rfl <;> decide +kernel
set_option maxRecDepth 100000 in
set_option maxHeartbeats 8000000 in
theorem c_due_arith (w : World) (o : Op) (ho : o = .add ∨ o = .sub ∨ o = .mul) (sv : Str) (x y wd : Int) (t0 t1 t2 t3 : Tok) (hs : sv = o.s) (hx : okI x) (hy : okI y) (h5 : 5 ≤ wd) (h40 : wd ≤ 40) (news : Led) :
   Ctr w 12 310 [.str sv t0, .int x t1, .int y t2, .int wd t3] news (fun r tl => IsAns (tl ++ news) r (dueA o (some x) (some y) wd)) (fun e => False) := by
  intro dp un gd cn cs a ccd cl outer A₀ base h₀ L m loose mean mg mb s Q E B F X N T hk hd hu ret exc
  subst hs
  have oq := opq_d3 o ho
  have oq2 := opq_p3 o ho
  all_goals (refine wpAny_call ?_; k_dflt ktr_enter)
  repeat' (first | (k_unfold; (try dsimp only)) | ((fail_if_success (with_reducible show wpAny _ _ (subscriptTail _ _ _ _) _ _ _)); walk1) | ((fail_if_success (with_reducible show wpAny _ _ (subscriptTail _ _ _ _) _ _ _)); dsimp only; walk1))
  all_goals (rcases ho with rfl | rfl | rfl <;> dsimp only [Op.s])
  all_goals k_steps
  · exact ret _ [] _ _ (by k_asm) (by walk_at "news") (ans_ok (chk_o (by with_reducible assumption) (by with_reducible assumption)))
  · exact ret _ [_] _ _ (by k_asm) (by walk_at "news1") (ans_err (DatIn.tuple (.head _) (.cons (.str _ _) (.cons (.int _ _) .nil))) (chk_e2 (by with_reducible assumption)))
  · exact ret _ [_] _ _ (by k_asm) (by walk_at "news1") (ans_err (DatIn.tuple (.head _) (.cons (.str _ _) (.cons (.int _ _) .nil))) (chk_e1 (by with_reducible assumption)))
  · exact ret _ [] _ _ (by k_asm) (by walk_at "news") (ans_ok (chk_o (by with_reducible assumption) (by with_reducible assumption)))
  · exact ret _ [_] _ _ (by k_asm) (by walk_at "news1") (ans_err (DatIn.tuple (.head _) (.cons (.str _ _) (.cons (.int _ _) .nil))) (chk_e2 (by with_reducible assumption)))
  · exact ret _ [_] _ _ (by k_asm) (by walk_at "news1") (ans_err (DatIn.tuple (.head _) (.cons (.str _ _) (.cons (.int _ _) .nil))) (chk_e1 (by with_reducible assumption)))
  · exact ret _ [] _ _ (by k_asm) (by walk_at "news") (ans_ok (chk_o (by with_reducible assumption) (by with_reducible assumption)))
  · exact ret _ [_] _ _ (by k_asm) (by walk_at "news1") (ans_err (DatIn.tuple (.head _) (.cons (.str _ _) (.cons (.int _ _) .nil))) (chk_e2 (by with_reducible assumption)))
  · exact ret _ [_] _ _ (by k_asm) (by walk_at "news1") (ans_err (DatIn.tuple (.head _) (.cons (.str _ _) (.cons (.int _ _) .nil))) (chk_e1 (by with_reducible assumption)))


set_option maxRecDepth 100000 in
set_option maxHeartbeats 8000000 in
theorem c_due_div (w : World) (o : Op) (ho : o = .div) (sv : Str) (x y wd : Int) (t0 t1 t2 t3 : Tok) (hs : sv = o.s) (hx : okI x) (hy : okI y) (h5 : 5 ≤ wd) (h40 : wd ≤ 40) (news : Led) :
   Ctr w 12 310 [.str sv t0, .int x t1, .int y t2, .int wd t3] news (fun r tl => IsAns (tl ++ news) r (dueA o (some x) (some y) wd)) (fun e => False) := by
  intro dp un gd cn cs a ccd cl outer A₀ base h₀ L m loose mean mg mb s Q E B F X N T hk hd hu ret exc
  rcases ho with rfl <;> (dsimp only [Op.s] at hs; subst hs)
  all_goals (refine wpAny_call ?_; k_dflt ktr_enter)
  all_goals k_steps
  · exact ret _ [_] _ _ (by k_asm) (by walk_at "news1") (ans_err (DatIn.tuple (.head _) (.cons (.str _ _) (.cons (.int _ _) .nil))) (if_pos (by with_reducible assumption)))
  · exact ret _ [] _ _ (by k_asm) (by walk_at "news") (ans_ok ((if_neg (by with_reducible assumption)).trans (by rw [due_d1 (by with_reducible assumption)]; exact chk_o (by with_reducible assumption) (by with_reducible assumption))))
  · exact ret _ [_] _ _ (by k_asm) (by walk_at "news1") (ans_err (DatIn.tuple (.head _) (.cons (.str _ _) (.cons (.int _ _) .nil))) ((if_neg (by with_reducible assumption)).trans (by rw [due_d1 (by with_reducible assumption)]; exact chk_e2 (by with_reducible assumption))))
  · exact ret _ [_] _ _ (by k_asm) (by walk_at "news1") (ans_err (DatIn.tuple (.head _) (.cons (.str _ _) (.cons (.int _ _) .nil))) ((if_neg (by with_reducible assumption)).trans (by rw [due_d1 (by with_reducible assumption)]; exact chk_e1 (by with_reducible assumption))))
  · exact ret _ [] _ _ (by k_asm) (by walk_at "news") (ans_ok ((if_neg (by with_reducible assumption)).trans (by rw [due_d2 (by with_reducible assumption)]; exact chk_o (by with_reducible assumption) (by with_reducible assumption))))
  · exact ret _ [_] _ _ (by k_asm) (by walk_at "news1") (ans_err (DatIn.tuple (.head _) (.cons (.str _ _) (.cons (.int _ _) .nil))) ((if_neg (by with_reducible assumption)).trans (by rw [due_d2 (by with_reducible assumption)]; exact chk_e2 (by with_reducible assumption))))
  · exact ret _ [_] _ _ (by k_asm) (by walk_at "news1") (ans_err (DatIn.tuple (.head _) (.cons (.str _ _) (.cons (.int _ _) .nil))) ((if_neg (by with_reducible assumption)).trans (by rw [due_d2 (by with_reducible assumption)]; exact chk_e1 (by with_reducible assumption))))



end
end Mine
namespace Mine
section

theorem reg37 : True := by
  k_with_none
  k_with "m room" => (exact rm1 (by assumption) (by exact rfl))
  k_with "m units" => (exact rm2 (by assumption) (by exact rfl))
  k_with "m ctr" => (((case k1Z => k_asm); (case k2Z => k_asm); (case k3Z => k_asm); (case k4Z => k_asm); (case k5Z => k_asm); (case kKZ => first | exact rfl | assumption); (case kdZ => ktr_room); (case kuZ => ktr_units)))
  k_with "m exec Raise some none" => ((k_here; k_dflt (refine raise_exec (w := ‹World›) rfl ?_)))
  k_with "m RaisePost" => ((refine ⟨_, _, _, rfl, News.get (by k_asm) (List.Mem.tail _ (List.Mem.head _)), by k_in, ?_⟩))
  k_with "m call ref" => ((k_here; k_dflt ( (with_reducible show wpAny _ _ (call (Value.ref 34) _ _) _ _ _); refine' exc_made _ _ _ _ _ _ _ _ _ _ _ _ _ _ _ _ _ _ _ _ _ ?k1Z ?k2Z ?k3Z ?k4Z ?k5Z ?kAZ ?kFZ ?kKZ ?kRZ ?_; (case kAZ => exact rfl); (case k1Z => k_asm); (case k2Z => k_asm); (case k3Z => k_asm); (case k4Z => k_asm); (case k5Z => k_asm); (case kFZ => exact rfl); (case kKZ => first | exact rfl | assumption); (case kRZ => ktr_room); intro e9k d9k t9k k9k k9k' h9k tk9k F9k N9k ne9k lt9k; (try dsimp only))))
  k_with "m leaving" => ((k_here; k_dflt (first | (refine' leave_madeD ?k1Z ?k2Z ?k3Z (List.Mem.tail _ (List.Mem.head _)) (List.Mem.head _) ?k4Z ?_; (case k1Z => k_asm); (case k2Z => k_asm); (case k3Z => k_asm); (case k4Z => exact fun p hp => ⟨List.Mem.tail _ (List.Mem.tail _ hp), by solve_by_elim⟩); intro h9k B9k U9k) | (refine' leave_onD ?k1Z ?k2Z ?k3Z ?k4Z ?_; (case k1Z => k_asm); (case k2Z => k_asm); (case k3Z => k_asm); (case k4Z => k_asm); intro h9k B9k U9k))))
  k_with "m mem" => (first | exact List.mem_cons_self | (refine' List.mem_cons_of_mem _ ?_; k_mem))
  k_with "m news" => (first | with_reducible assumption | assumption | exact ndrop (by assumption) | exact ndrop (ndrop (by assumption)) | exact ndrop (ndrop (ndrop (by assumption))))
  k_with "m eval Call Name" => ((k_here; (fail_if_success (with_reducible show wpAny _ _ (eval (Expr.Call (Expr.Name "range" _) _ _ _) _) _ _ _)); k_dflt (refine Call_ ?_)))
  k_with "m boom" => (first | with_reducible assumption | exact Boom.sub (by assumption) (fun p hp => List.Mem.tail _ hp) | exact Boom.sub (by assumption) (fun p hp => List.Mem.tail _ (List.Mem.tail _ hp)) | exact Boom.sub (by assumption) (fun p hp => List.Mem.tail _ (List.mem_append.mpr (Or.inl hp))) | exact Boom.sub (by assumption) (fun p hp => List.mem_append.mpr (Or.inl hp)))
  k_with "m led" => (first | exact fun _ h => h | exact fun _ h => List.Mem.tail _ h | exact fun _ h => List.Mem.tail _ (List.Mem.tail _ h) | exact fun _ h => List.Mem.tail _ (List.Mem.tail _ (List.Mem.tail _ h)) | exact fun _ h => List.mem_append.mpr (Or.inr h) | exact fun _ h => List.mem_append.mpr (Or.inl h) | exact fun _ h => List.Mem.tail _ (List.mem_append.mpr (Or.inr h)) | exact fun _ h => List.mem_append.mpr (Or.inr (List.mem_append.mpr (Or.inr h))) | exact fun _ h => List.mem_append.mpr (Or.inr (List.Mem.tail _ h)))
  k_with "m call ref" => ((k_here; k_dflt (refine' call_cls ?k1Z ?k2Z ?k3Z ?k4Z ?k5Z ?k6Z ?_; (case k1Z => k_asm); (case k2Z => k_asm); (case k3Z => k_asm); (case k4Z => k_is); (case k5Z => k_is); (case k6Z => k_is); k_whole; intro x' d' h' F' N' l1k l2k; (try k_lt l1k); (try k_lt2 l2k); (try k_sweep); (refine' code_def ?k1Z ?k2Z ?k3Z ?k4Z ?k5Z ?kAZ ?kFZ ?kKZ ?k6Z ?k7Z ?k8Z ?k9Z ?kBZ ?_ ?c2Z ?c3Z ?c4Z ?c5Z; (case kAZ => exact rfl); (case kFZ => exact rfl); (case kKZ => first | exact rfl | assumption); (case k1Z => k_asm); (case k2Z => k_asm); (case k3Z => k_asm); (case k4Z => k_asm); (case k5Z => k_asm); (case k6Z => k_is); (case k7Z => k_is); (case k8Z => ktr_room); (case k9Z => exact BindsTo.of_eq rfl); (case c5Z => decide); (case kBZ => exact locs rfl); (case c2Z => exact rfl); (case c3Z => exact rfl); (case c4Z => exact rfl); k_whole; intro g' L' h' FG' F' N' B' X' T'; (try dsimp only); (try k_fold)))))
  k_with "m ite" => ((k_here; k_openite; with_reducible first | refine ite_pos (by assumption) ?_ | refine ite_neg (by assumption) ?_ | refine ite_isFalse (by assumption) ?_ | (refine split_ine ?_ ?_ <;> intro _) | (refine split_ieq ?_ ?_ <;> intro _) | refine split_not ?_ | (refine split_dec ?_ ?_ <;> intro _) | (refine split_bool ?_ ?_ <;> intro _)))
  k_with "m ite" => ((with_reducible first | refine ite_tt ?_ | refine ite_ff ?_))
  k_with "m testChain" => (dsimp only)
  k_with "m evalPairs" => (dsimp only)
  k_with "m compareChain" => (dsimp only)
  k_with "m ite" => ((k_closed; first | ((with_reducible refine ite_cf ?chZ ?_); (case chZ => decide +kernel)) | ((with_reducible refine ite_ct ?chZ ?_); (case chZ => decide +kernel))))
  k_with "m InvEndN" => (k_dflt kst_close)
  exact True.intro
noncomputable def CtrB (w : World) (k : Nat) (f : Addr) (args : List Value) (bx : Addr) (bo : Obj) (rest : Led) (Ok : Value → Led → Obj → Prop) : Prop :=
  ∀ (dp un : Nat) (gd : Option (List Code)) (cn : Str) (cs : Scope) (a : Addr) (ccd : Value) (cl : List (Str × Addr)) (outer : List Env) (A₀ : Around) (base h₀ : Heap) (L : Addr) (m : Str → Option Value)
    (loose : List Str) (mean : ExcName → Option Value) (mg mb : Str → Option Value) (s : Shared) (Q E : Value → Shared → Prop),
    Below A₀ base outer h₀ → Fr h₀ L s.heap m → (mkK.heap_1 w.params).In h₀ → News h₀ L s.heap ((bx, bo) :: rest) → Top topProg loose mean mg mb h₀ → cs.kind = .function → dp + k < recursionLimit → un + 8 * k < cLine →
    (∀ r tl bo' h' tk', Fr h₀ L h' m → News h₀ L h' ((bx, bo') :: (tl ++ rest)) → (∀ p ∈ tl, p.1 ≠ bx ∧ ∀ q ∈ rest, q.1 < p.1) → Ok r tl bo' → Q r { s with heap := h', toks := tk' }) →
    wpAny (model PySem.Challenge.rw_np0295_01.row.prog w) (ktrTop dp un gd cn cs L a ccd cl outer) (call (.ref f) args) Q E s
noncomputable abbrev hMod : Int := 2147483647
noncomputable def IsBox (xs : Addr) (hi : Int) (o : Obj) : Prop := ∃ i h t0 t2 n, o = listOf #[.int i t0, .ref xs, .int h t2] n ∧ -1 ≤ i ∧ i < hi ∧ 0 ≤ h ∧ h < hMod
section
variable {prog : Program} {w : World} {A : Around} {E : Value → Shared → Prop} {s : Shared} {h₀ : Heap} {L xs : Addr} {news : Led} {Q : Value → Shared → Prop} {vs : List Value} {ns : List Int} {nn : Nat}
theorem box_len (N : News h₀ L s.heap news) (hm : (xs, listOf vs.toArray nn) ∈ news) (hns : IntsAre vs ns) (hl : ns.length ≤ 64) (h : Q (.int (ns.length : Int) (s.toks + 1)) { s with toks := s.toks + 1 + 1 }) : wpAny (model prog w) A (call (.builtin "len") [.ref xs]) Q E s := by
  have e : vs.toArray.size = ns.length := by rw [List.size_toArray]; exact hns.length
  refine len_list (News.isList N hm) (by rw [e]; omega) ?_
  rw [e]; exact h
theorem box_item {value slice : Expr} {k : Int} {u : Tok} (N : News h₀ L s.heap news) (hm : (xs, listOf vs.toArray nn) ∈ news) (hns : IntsAre vs ns) (hl : ns.length ≤ 64) (h0 : 0 ≤ k) (h1 : k < (ns.length : Int)) (h : ∀ n t, Q (.int n t) s)
    (hs : subscripted slice false (.ref xs) (.int k u) = operate [.ref xs, .int k u] (getItem (.ref xs) (.int k u)) := by with_unfolding_all rfl) : wpAny (model prog w) A (subscriptTail value slice (.ref xs) (.int k u)) Q E s := by
  have hk : k.toNat < ns.length := by omega
  obtain ⟨t, ht⟩ := hns.get k.toNat ns[k.toNat] (by simp [hk])
  have L1 := News.isList N hm
  exact tail_any L1.typeIs slot_list_getitem.lookup (wpAny_getItem_list L1 h0 (by omega) (by simpa using ht) (h _ t)) hs
end
theorem reg38 : True := by
  k_with "m call builtin:len" => ((k_here; k_dflt (refine' box_len ?k1Z ?k2Z ?k3Z ?k4Z ?_; (case k1Z => k_asm); (case k2Z => k_mem); (case k3Z => assumption); (case k4Z => assumption))))
  k_with "m subscriptTail" => ((k_here; k_dflt (refine' box_item ?k1Z ?k2Z ?k3Z ?k4Z ?k5Z ?k6Z ?_ ?k7Z; (case k1Z => k_asm); (case k2Z => k_mem); (case k3Z => assumption); (case k4Z => assumption); (case k5Z => omega); (case k6Z => assumption); (case k7Z => with_unfolding_all rfl); intro n9k t9k)))
  k_with "m all" => (first | assumption | exact List.forall_mem_nil _)
  exact True.intro
set_option maxRecDepth 100000 in
set_option maxHeartbeats 8000000 in
theorem c_draw (w : World) (bx xs : Addr) (vs : List Value) (ns : List Int) (nn : Nat) (many hi : Int) (t : Tok) (bo : Obj) (rest : Led) (hb : IsBox xs hi bo) (hhi : hi < 100000) (hxs : (xs, listOf vs.toArray nn) ∈ rest) (hns : IntsAre vs ns) (hlen : ns.length ≤ 64) (hm1 : 1 ≤ many) (hm2 : many ≤ 64) (hne : ∀ p ∈ rest, p.1 ≠ bx) :
   CtrB w 3 291 [.ref bx, .int many t] bx bo rest (fun r tl bo' => tl = [] ∧ IsBox xs (hi + 1) bo' ∧ ∃ d t', r = .int d t' ∧ 0 ≤ d ∧ d < many) := by
  intro dp un gd cn cs a ccd cl outer A₀ base h₀ L m loose mean mg mb s Q E B F X N T hk hd hu ret
  obtain ⟨i, h, t0, t2, n, rfl, hi1, hi2, hh1, hh2⟩ := hb
  refine wpAny_call ?_
  k_dflt ktr_enter
  k_steps
  · exact ret _ [] _ _ _ (by k_asm) (by k_asm) (fun _ h => nomatch h) ⟨rfl, ⟨_, _, _, _, _, rfl, by omega, by omega, hh1, hh2⟩, _, _, rfl, Int.fmod_nonneg_of_pos _ (by omega), Int.fmod_lt_of_pos _ (by omega)⟩
  · exact ret _ [] _ _ _ (by k_asm) (by k_asm) (fun _ h => nomatch h) ⟨rfl, ⟨_, _, _, _, _, rfl, by omega, by omega, Int.fmod_nonneg_of_pos _ (by decide), Int.fmod_lt_of_pos _ (by decide)⟩, _, _, rfl, Int.fmod_nonneg_of_pos _ (by omega), Int.fmod_lt_of_pos _ (by omega)⟩


end
end Mine
namespace Mine
section

theorem reg39 : True := by
  k_with_none
  k_with "m room" => (exact rm1 (by assumption) (by exact rfl))
  k_with "m units" => (exact rm2 (by assumption) (by exact rfl))
  k_with "m ctr" => (((case k1Z => k_asm); (case k2Z => k_asm); (case k3Z => k_asm); (case k4Z => k_asm); (case k5Z => k_asm); (case kKZ => first | exact rfl | assumption); (case kdZ => ktr_room); (case kuZ => ktr_units)))
  k_with "m exec Raise some none" => ((k_here; k_dflt (refine raise_exec (w := ‹World›) rfl ?_)))
  k_with "m RaisePost" => ((refine ⟨_, _, _, rfl, News.get (by k_asm) (List.Mem.tail _ (List.Mem.head _)), by k_in, ?_⟩))
  k_with "m call ref" => ((k_here; k_dflt ( (with_reducible show wpAny _ _ (call (Value.ref 34) _ _) _ _ _); refine' exc_made _ _ _ _ _ _ _ _ _ _ _ _ _ _ _ _ _ _ _ _ _ ?k1Z ?k2Z ?k3Z ?k4Z ?k5Z ?kAZ ?kFZ ?kKZ ?kRZ ?_; (case kAZ => exact rfl); (case k1Z => k_asm); (case k2Z => k_asm); (case k3Z => k_asm); (case k4Z => k_asm); (case k5Z => k_asm); (case kFZ => exact rfl); (case kKZ => first | exact rfl | assumption); (case kRZ => ktr_room); intro e9k d9k t9k k9k k9k' h9k tk9k F9k N9k ne9k lt9k; (try dsimp only))))
  k_with "m leaving" => ((k_here; k_dflt (first | (refine' leave_madeD ?k1Z ?k2Z ?k3Z (List.Mem.tail _ (List.Mem.head _)) (List.Mem.head _) ?k4Z ?_; (case k1Z => k_asm); (case k2Z => k_asm); (case k3Z => k_asm); (case k4Z => exact fun p hp => ⟨List.Mem.tail _ (List.Mem.tail _ hp), by solve_by_elim⟩); intro h9k B9k U9k) | (refine' leave_onD ?k1Z ?k2Z ?k3Z ?k4Z ?_; (case k1Z => k_asm); (case k2Z => k_asm); (case k3Z => k_asm); (case k4Z => k_asm); intro h9k B9k U9k))))
  k_with "m mem" => (first | exact List.mem_cons_self | (refine' List.mem_cons_of_mem _ ?_; k_mem))
  k_with "m news" => (first | with_reducible assumption | assumption | exact ndrop (by assumption) | exact ndrop (ndrop (by assumption)) | exact ndrop (ndrop (ndrop (by assumption))))
  k_with "m eval Call Name" => ((k_here; (fail_if_success (with_reducible show wpAny _ _ (eval (Expr.Call (Expr.Name "range" _) _ _ _) _) _ _ _)); k_dflt (refine Call_ ?_)))
  k_with "m boom" => (first | with_reducible assumption | exact Boom.sub (by assumption) (fun p hp => List.Mem.tail _ hp) | exact Boom.sub (by assumption) (fun p hp => List.Mem.tail _ (List.Mem.tail _ hp)) | exact Boom.sub (by assumption) (fun p hp => List.Mem.tail _ (List.mem_append.mpr (Or.inl hp))) | exact Boom.sub (by assumption) (fun p hp => List.mem_append.mpr (Or.inl hp)))
  k_with "m led" => (first | exact fun _ h => h | exact fun _ h => List.Mem.tail _ h | exact fun _ h => List.Mem.tail _ (List.Mem.tail _ h) | exact fun _ h => List.Mem.tail _ (List.Mem.tail _ (List.Mem.tail _ h)) | exact fun _ h => List.mem_append.mpr (Or.inr h) | exact fun _ h => List.mem_append.mpr (Or.inl h) | exact fun _ h => List.Mem.tail _ (List.mem_append.mpr (Or.inr h)) | exact fun _ h => List.mem_append.mpr (Or.inr (List.mem_append.mpr (Or.inr h))) | exact fun _ h => List.mem_append.mpr (Or.inr (List.Mem.tail _ h)))
  k_with "m call ref" => ((k_here; k_dflt (refine' call_cls ?k1Z ?k2Z ?k3Z ?k4Z ?k5Z ?k6Z ?_; (case k1Z => k_asm); (case k2Z => k_asm); (case k3Z => k_asm); (case k4Z => k_is); (case k5Z => k_is); (case k6Z => k_is); k_whole; intro x' d' h' F' N' l1k l2k; (try k_lt l1k); (try k_lt2 l2k); (try k_sweep); (refine' code_def ?k1Z ?k2Z ?k3Z ?k4Z ?k5Z ?kAZ ?kFZ ?kKZ ?k6Z ?k7Z ?k8Z ?k9Z ?kBZ ?_ ?c2Z ?c3Z ?c4Z ?c5Z; (case kAZ => exact rfl); (case kFZ => exact rfl); (case kKZ => first | exact rfl | assumption); (case k1Z => k_asm); (case k2Z => k_asm); (case k3Z => k_asm); (case k4Z => k_asm); (case k5Z => k_asm); (case k6Z => k_is); (case k7Z => k_is); (case k8Z => ktr_room); (case k9Z => exact BindsTo.of_eq rfl); (case c5Z => decide); (case kBZ => exact locs rfl); (case c2Z => exact rfl); (case c3Z => exact rfl); (case c4Z => exact rfl); k_whole; intro g' L' h' FG' F' N' B' X' T'; (try dsimp only); (try k_fold)))))
  k_with "m ite" => ((k_here; k_openite; with_reducible first | refine ite_pos (by assumption) ?_ | refine ite_neg (by assumption) ?_ | refine ite_isFalse (by assumption) ?_ | (refine split_ine ?_ ?_ <;> intro _) | (refine split_ieq ?_ ?_ <;> intro _) | refine split_not ?_ | (refine split_dec ?_ ?_ <;> intro _) | (refine split_bool ?_ ?_ <;> intro _)))
  k_with "m ite" => ((with_reducible first | refine ite_tt ?_ | refine ite_ff ?_))
  k_with "m testChain" => (dsimp only)
  k_with "m evalPairs" => (dsimp only)
  k_with "m compareChain" => (dsimp only)
  k_with "m ite" => ((k_closed; first | ((with_reducible refine ite_cf ?chZ ?_); (case chZ => decide +kernel)) | ((with_reducible refine ite_ct ?chZ ?_); (case chZ => decide +kernel))))
  k_with "m InvEndN" => (k_dflt kst_close)
  exact True.intro
theorem CtrB.use {w : World} {k : Nat} {f : Addr} {args : List Value} {bx : Addr} {bo : Obj} {rest : Led} {Ok : Value → Led → Obj → Prop} (C : CtrB w k f args bx bo rest Ok)
    {dp un : Nat} {gd : Option (List Code)} {cn : Str} {cs : Scope} {a : Addr} {ccd : Value} {cl : List (Str × Addr)} {outer : List Env} {A₀ : Around} {base h₀ : Heap} {L : Addr} {m : Str → Option Value}
    {loose : List Str} {mean : ExcName → Option Value} {mg mb : Str → Option Value} {s : Shared} {Q E : Value → Shared → Prop}
    (B : Below A₀ base outer h₀) (F : Fr h₀ L s.heap m) (X : (mkK.heap_1 w.params).In h₀) (N : News h₀ L s.heap ((bx, bo) :: rest)) (T : Top topProg loose mean mg mb h₀) (hk : cs.kind = .function) (hd : dp + k < recursionLimit) (hu : un + 8 * k < cLine)
    (ret : ∀ r tl bo' h' tk', Fr h₀ L h' m → News h₀ L h' ((bx, bo') :: (tl ++ rest)) → (∀ p ∈ tl, p.1 ≠ bx ∧ ∀ q ∈ rest, q.1 < p.1) → Ok r tl bo' → Q r { s with heap := h', toks := tk' }) :
    wpAny (model PySem.Challenge.rw_np0295_01.row.prog w) (ktrTop dp un gd cn cs L a ccd cl outer) (call (.ref f) args) Q E s := C _ _ _ _ _ _ _ _ _ _ _ _ _ _ _ _ _ _ _ _ _ B F X N T hk hd hu ret

theorem reg40 : True := by
  k_with "m call ref" => ((k_here; k_dflt (refine' CtrB.use (c_draw _ _ _ _ _ _ _ _ _ _ _ ?a1Z ?a2Z ?a3Z ?a4Z ?a5Z ?a6Z ?a7Z ?a8Z) ?k1Z ?k2Z ?k3Z ?k4Z ?k5Z ?kKZ ?kdZ ?kuZ ?_; walk_at "ctr"; (case a1Z => assumption); (case a3Z => assumption); (case a4Z => assumption); (case a5Z => assumption); (case a2Z => omega); (case a6Z => decide); (case a7Z => decide); (case a8Z => assumption); intro r9k tl9k bo9k h9k tk9k F9k N9k l9k o9k; (obtain ⟨o9k, b9k, d9k, t9k, p9k, lo9k, hi9k⟩ := o9k); subst o9k; subst p9k; clear l9k; (try simp only [List.nil_append] at N9k); (try dsimp only); (try k_fold))))
  k_with "m binaryOp Pow int int" => ((k_here; (with_reducible refine pow_int_small ?kb1Z ?kb2Z ?kb3Z ?_); (case kb1Z => first | with_reducible exact pw_a (by with_reducible assumption) | with_reducible exact pw_c (by with_reducible assumption)); (case kb2Z => first | with_reducible exact pw_b (by with_reducible assumption) | with_reducible exact pw_d (by with_reducible assumption)); (case kb3Z => decide)))
  exact True.intro
theorem upto {k : Nat} {P : Int → Prop} {d : Int} (h1 : d < (k : Int)) (h0 : 0 ≤ d) (h : ∀ n : Nat, n < k → P (n : Int)) : P d := by
  obtain ⟨n, rfl⟩ := Int.eq_ofNat_of_zero_le h0
  exact h n (Int.ofNat_lt.mp h1)
theorem ten {d : Int} (h1 : d < 10) (h0 : 0 ≤ d) : d = 0 ∨ d = 1 ∨ d = 2 ∨ d = 3 ∨ d = 4 ∨ d = 5 ∨ d = 6 ∨ d = 7 ∨ d = 8 ∨ d = 9 := upto (k := 10) (P := fun d => d = 0 ∨ d = 1 ∨ d = 2 ∨ d = 3 ∨ d = 4 ∨ d = 5 ∨ d = 6 ∨ d = 7 ∨ d = 8 ∨ d = 9) h1 h0 (by decide)
theorem six6 {d : Int} (h1 : d < 6) (h0 : 0 ≤ d) : d = 0 ∨ d = 1 ∨ d = 2 ∨ d = 3 ∨ d = 4 ∨ d = 5 := upto (k := 6) (P := fun d => d = 0 ∨ d = 1 ∨ d = 2 ∨ d = 3 ∨ d = 4 ∨ d = 5) h1 h0 (by decide)
theorem five5 (d : Int) : d.fmod 5 = 0 ∨ d.fmod 5 = 1 ∨ d.fmod 5 = 2 ∨ d.fmod 5 = 3 ∨ d.fmod 5 = 4 := upto (k := 5) (P := fun d => d = 0 ∨ d = 1 ∨ d = 2 ∨ d = 3 ∨ d = 4) (Int.fmod_lt_of_pos _ (by decide)) (Int.fmod_nonneg_of_pos _ (by decide)) (by decide)
section
variable {prog : Program} {w : World} {A : Around} {E : Value → Shared → Prop} {s : Shared} {h₀ : Heap} {L l : Addr} {news : Led} {Q : Value → Shared → Prop} {nn : Nat}
theorem ten_item {value slice : Expr} {d : Int} {u : Tok} {x0 x1 x2 x3 x4 x5 x6 x7 x8 x9 : Value} (N : News h₀ L s.heap news) (hm : (l, listOf #[x0, x1, x2, x3, x4, x5, x6, x7, x8, x9] nn) ∈ news) (h0 : 0 ≤ d) (h1 : d < 10) (h : Q ([x0, x1, x2, x3, x4, x5, x6, x7, x8, x9].getD d.toNat .none) s)
    (hs : subscripted slice false (.ref l) (.int d u) = operate [.ref l, .int d u] (getItem (.ref l) (.int d u)) := by with_unfolding_all rfl) : wpAny (model prog w) A (subscriptTail value slice (.ref l) (.int d u)) Q E s := by
  have L1 := News.isList N hm
  refine tail_any L1.typeIs slot_list_getitem.lookup ?_ hs
  rcases ten h1 h0 with rfl | rfl | rfl | rfl | rfl | rfl | rfl | rfl | rfl | rfl
  all_goals exact wpAny_getItem_list L1 (by decide) (by decide) rfl h
end
theorem p2_bd {wd : Int} (h40 : wd ≤ 40) : (2 : Int) ^ (wd - 1).toNat ≤ 549755813888 := by
  have h := Nat.pow_le_pow_right (n := 2) (by decide) (show (wd - 1).toNat ≤ 39 by omega)
  have h2 : ((2 ^ (wd - 1).toNat : Nat) : Int) ≤ ((2 ^ 39 : Nat) : Int) := Int.ofNat_le.mpr h
  rw [Int.natCast_pow] at h2
  exact h2
theorem p2_pos {wd : Int} : (1 : Int) ≤ 2 ^ (wd - 1).toNat := by
  have h : (0 : Int) < 2 ^ (wd - 1).toNat := Int.pow_pos (by decide)
  omega
theorem str6 {wd d : Int} (h1 : d < 10) (h0 : 0 ≤ d) (h40 : wd ≤ 40) : -1000000000000 < (2 : Int) ^ (wd - 1).toNat - d ∧ (2 : Int) ^ (wd - 1).toNat - d < 1000000000000 := by
  have := p2_bd h40
  have := p2_pos (wd := wd)
  omega
theorem str6l {wd d : Int} (h1 : d < 10) (h0 : 0 ≤ d) (h40 : wd ≤ 40) : ((2 : Int) ^ (wd - 1).toNat - d).natAbs.log2 < 1920 := by
  have h := str6 h1 h0 h40
  have : ((2 : Int) ^ (wd - 1).toNat - d).natAbs < 2 ^ 1920 := Nat.lt_of_lt_of_le (show ((2 : Int) ^ (wd - 1).toNat - d).natAbs < 2 ^ 40 by omega) (Nat.pow_le_pow_right (by decide) (by decide))
  by_cases hz : ((2 : Int) ^ (wd - 1).toNat - d).natAbs = 0
  · rw [hz]; decide
  · exact (Nat.log2_lt hz).mpr this
theorem reg41 : True := by
  k_with "m subscriptTail Name Name ref int" => ((k_here; k_dflt (refine' ten_item ?k1Z ?k2Z ?k3Z ?k4Z ?_ ?k7Z; (case k1Z => k_asm); (case k2Z => k_mem); (case k3Z => assumption); (case k4Z => exact (by assumption : _ < (10 : Int))); (case k7Z => with_unfolding_all rfl))))
  k_with "m subscriptTail List Name ref int" => ((k_here; k_dflt (refine' ten_item ?k1Z ?k2Z ?k3Z ?k4Z ?_ ?k7Z; (case k1Z => k_asm); (case k2Z => k_mem); (case k3Z => assumption); (case k4Z => exact (by assumption : _ < (10 : Int))); (case k7Z => with_unfolding_all rfl))))
  k_with "m call type:str" => ((k_here; refine P.str_of_int (str6l (by with_reducible assumption) (by with_reducible assumption) (by with_reducible assumption)) ?_))
  k_with "m all" => (first | exact fun p hp => Nat.ne_of_lt ((by assumption : ∀ p ∈ _, p.1 < _) p hp) | exact fun p hp => Nat.ne_of_lt (allLt_mem (by assumption) p hp))
  exact True.intro
noncomputable def okSB (x : Str) : Bool := decide (x.cps.size ≤ 60) && PyData.strOk x
theorem okS_b {x : Str} (h : okSB x = true) : okS x := by
  unfold okSB at h
  rw [Bool.and_eq_true] at h
  exact ⟨of_decide_eq_true h.1, h.2⟩
noncomputable def chkW (x : Str) (v : Option Int) : Bool := okSB x && (List.range 36).all fun k => wot x ((k : Int) + 5) == v
theorem chkW_ok {x : Str} {v : Option Int} (h : chkW x v = true) : okS x ∧ ∀ wd : Int, 5 ≤ wd → wd ≤ 40 → wot x wd = v := by
  unfold chkW at h
  rw [Bool.and_eq_true] at h
  refine ⟨okS_b h.1, fun wd h5 h40 => ?_⟩
  have := List.all_eq_true.mp h.2 (wd - 5).toNat (List.mem_range.mpr (by omega))
  have e : (((wd - 5).toNat : Nat) : Int) + 5 = wd := by omega
  rw [e] at this
  exact eq_of_beq this
noncomputable def chk6 : Bool := (List.range 36).all fun k => (List.range 10).all fun d =>
  let n := (2 : Int) ^ (k + 4) - (d : Int)
  okSB (Str.ofString (toString n)) && wot (Str.ofString (toString n)) ((k : Int) + 5) == (if d > 0 then some n else none)
set_option maxRecDepth 100000 in
theorem chk6_ok : chk6 = true := by decide +kernel

theorem six {wd d : Int} (h1 : d < 10) (h0 : 0 ≤ d) (h5 : 5 ≤ wd) (h40 : wd ≤ 40) : okS (Str.ofString (toString ((2 : Int) ^ (wd - 1).toNat - d))) ∧ wot (Str.ofString (toString ((2 : Int) ^ (wd - 1).toNat - d))) wd = (if 0 < d then some ((2 : Int) ^ (wd - 1).toNat - d) else none) := by
  have h := chk6_ok
  unfold chk6 at h
  have h2 := List.all_eq_true.mp (List.all_eq_true.mp h (wd - 5).toNat (List.mem_range.mpr (by omega))) d.toNat (List.mem_range.mpr (by omega))
  have e1 : (((wd - 5).toNat : Nat) : Int) + 5 = wd := by omega
  have e2 : ((d.toNat : Nat) : Int) = d := by omega
  have e3 : (wd - 5).toNat + 4 = (wd - 1).toNat := by omega
  rw [e3] at h2
  dsimp only at h2
  rw [e2, e1, Bool.and_eq_true] at h2
  refine ⟨okS_b h2.1, (eq_of_beq h2.2).trans ?_⟩
  by_cases hd : 0 < d
  · rw [if_pos (show d.toNat > 0 by omega), if_pos hd]
  · rw [if_neg (show ¬ d.toNat > 0 by omega), if_neg hd]
noncomputable def sameT (i : Int) : Bool := tow i == Str.ofString (toString i)
theorem sameT_ok {i : Int} (h : sameT i = true) : (Pv.int i).ltext = (Pv.int i).text := by
  show some (Str.ofString (toString i)) = some (tow i)
  rw [eq_of_beq h]
theorem small_a : ((List.range 20).all fun k => sameT ((k : Int) - 10)) = true := by decide +kernel
theorem small {i : Int} (h0 : -10 ≤ i) (h1 : i < 10) : (Pv.int i).ltext = (Pv.int i).text := by
  have h := List.all_eq_true.mp small_a (i + 10).toNat (List.mem_range.mpr (by omega))
  have e : (((i + 10).toNat : Nat) : Int) - 10 = i := by omega
  rw [e] at h
  exact sameT_ok h
theorem big_a : ((List.range 36).all fun k => sameT ((2 : Int) ^ (k + 4) - 1) && sameT (-(2 : Int) ^ (k + 4))) = true := by decide +kernel
theorem big {wd : Int} (h5 : 5 ≤ wd) (h40 : wd ≤ 40) (j : Nat) : okI ([(2 : Int) ^ (wd - 1).toNat - 1, -(2 : Int) ^ (wd - 1).toNat].getD j 0) ∧ (Pv.int ([(2 : Int) ^ (wd - 1).toNat - 1, -(2 : Int) ^ (wd - 1).toNat].getD j 0)).ltext = (Pv.int ([(2 : Int) ^ (wd - 1).toNat - 1, -(2 : Int) ^ (wd - 1).toNat].getD j 0)).text := by
  have h := List.all_eq_true.mp big_a (wd - 5).toNat (List.mem_range.mpr (by omega))
  have e3 : (wd - 5).toNat + 4 = (wd - 1).toNat := by omega
  rw [e3, Bool.and_eq_true] at h
  have b1 := p2_bd h40
  have b2 := p2_pos (wd := wd)
  match j with
  | 0 => exact ⟨show okI ((2 : Int) ^ (wd - 1).toNat - 1) by unfold okI; omega, sameT_ok h.1⟩
  | 1 => exact ⟨show okI (-(2 : Int) ^ (wd - 1).toNat) by unfold okI; omega, sameT_ok h.2⟩
  | j + 2 => exact ⟨show okI 0 by unfold okI; omega, small (i := 0) (by decide) (by decide)⟩
theorem cw_0 : chkW (nm "") (some (0)) = true := by decide +kernel
theorem cw_1 : chkW (nm "0") (some (0)) = true := by decide +kernel
theorem cw_2 : chkW (nm "007") (some (7)) = true := by decide +kernel
theorem cw_3 : chkW (nm "+5") (some (5)) = true := by decide +kernel
theorem cw_4 : chkW (nm "-6") (some (-6)) = true := by decide +kernel
theorem cw_5 : chkW (nm "+") none = true := by decide +kernel
theorem cw_6 : chkW (nm "1 ") none = true := by decide +kernel
theorem cw_7 : chkW (nm "a") none = true := by decide +kernel
theorem cw_8 : chkW (nm "3x") none = true := by decide +kernel
theorem cw_9 : chkW (nm "-0") (some (0)) = true := by decide +kernel
theorem cw_10 : chkW (nm "ab") none = true := by decide +kernel
theorem cw_11 : chkW (nm "abc") none = true := by decide +kernel
theorem cw_12 : chkW (nm "abcd") none = true := by decide +kernel
theorem cw_13 : chkW (nm "abcde") none = true := by decide +kernel

theorem abc {d : Int} : chkW (Txt.slice (nm "abcde") none (some (d.fmod 5 + 1))) none = true := by
  rcases five5 d with h | h | h | h | h <;> rw [h] <;> decide +kernel
theorem news_s1 {h₀ h : Heap} {L : Addr} {x y b : Addr × Obj} {rest : Led} (N : News h₀ L h (x :: y :: b :: rest)) : News h₀ L h (b :: ([x] ++ rest)) := fun p hp => N p (by
  rcases List.mem_cons.mp hp with rfl | hp
  · exact .tail _ (.tail _ (.head _))
  · rcases List.mem_cons.mp hp with rfl | hp
    · exact .head _
    · exact .tail _ (.tail _ (.tail _ hp)))
theorem news_s2 {h₀ h : Heap} {L : Addr} {x y z b : Addr × Obj} {rest : Led} (N : News h₀ L h (x :: y :: z :: b :: rest)) : News h₀ L h (b :: ([x] ++ rest)) := news_s1 (x := x) (y := z) fun p hp => N p (by
  rcases List.mem_cons.mp hp with rfl | hp
  · exact .head _
  · exact .tail _ (.tail _ hp))
theorem news_s3 {h₀ h : Heap} {L : Addr} {x y z u b : Addr × Obj} {rest : Led} (N : News h₀ L h (x :: y :: z :: u :: b :: rest)) : News h₀ L h (b :: ([x] ++ rest)) := news_s2 (x := x) (y := z) (z := u) fun p hp => N p (by
  rcases List.mem_cons.mp hp with rfl | hp
  · exact .head _
  · exact .tail _ (.tail _ hp))
theorem news_s4 {h₀ h : Heap} {L : Addr} {x i d n y b : Addr × Obj} {rest : Led} (N : News h₀ L h (x :: i :: d :: n :: y :: b :: rest)) : News h₀ L h (b :: ([x, i, d, n] ++ rest)) := fun p hp => N p (by
  rcases List.mem_cons.mp hp with rfl | hp
  · exact .tail _ (.tail _ (.tail _ (.tail _ (.tail _ (.head _)))))
  · rcases List.mem_cons.mp hp with rfl | hp
    · exact .head _
    rcases List.mem_cons.mp hp with rfl | hp
    · exact .tail _ (.head _)
    rcases List.mem_cons.mp hp with rfl | hp
    · exact .tail _ (.tail _ (.head _))
    rcases List.mem_cons.mp hp with rfl | hp
    · exact .tail _ (.tail _ (.tail _ (.head _)))
    · exact .tail _ (.tail _ (.tail _ (.tail _ (.tail _ (.tail _ hp))))))
theorem news_s5 {h₀ h : Heap} {L : Addr} {x i d y b : Addr × Obj} {rest : Led} (N : News h₀ L h (x :: i :: d :: y :: b :: rest)) : News h₀ L h (b :: ([x, i, d] ++ rest)) := fun p hp => N p (by
  rcases List.mem_cons.mp hp with rfl | hp
  · exact .tail _ (.tail _ (.tail _ (.tail _ (.head _))))
  · rcases List.mem_cons.mp hp with rfl | hp
    · exact .head _
    rcases List.mem_cons.mp hp with rfl | hp
    · exact .tail _ (.head _)
    rcases List.mem_cons.mp hp with rfl | hp
    · exact .tail _ (.tail _ (.head _))
    · exact .tail _ (.tail _ (.tail _ (.tail _ (.tail _ hp)))))
theorem allLt_le {d x : Addr} (hd : d < x) : ∀ {l : Led}, AllLt d l → ∀ p ∈ l, p.1 < x := fun a p hp => Nat.lt_trans (allLt_mem a p hp) hd
theorem fr0 {bx D : Addr} {rest : Led} (h : bx < D) (a : AllLt D rest) : D ≠ bx ∧ ∀ q ∈ rest, q.1 < D := ⟨Nat.ne_of_gt h, allLt_mem a⟩
theorem frx {bx d x : Addr} {rest : Led} (hx : d < x) (h : bx < d) (a : AllLt d rest) : x ≠ bx ∧ ∀ q ∈ rest, q.1 < x := ⟨Nat.ne_of_gt (Nat.lt_trans h hx), allLt_le hx a⟩
theorem fl1 {bx D : Addr} {o : Obj} {rest : Led} (h : D ≠ bx ∧ ∀ q ∈ rest, q.1 < D) : ∀ p ∈ [(D, o)], p.1 ≠ bx ∧ ∀ q ∈ rest, q.1 < p.1 := fun p hp => by
  rcases List.mem_cons.mp hp with rfl | hp
  · exact h
  · cases hp
theorem flc {bx D : Addr} {o : Obj} {rest tl : Led} (h : D ≠ bx ∧ ∀ q ∈ rest, q.1 < D) (k : ∀ p ∈ tl, p.1 ≠ bx ∧ ∀ q ∈ rest, q.1 < p.1) : ∀ p ∈ (D, o) :: tl, p.1 ≠ bx ∧ ∀ q ∈ rest, q.1 < p.1 := fun p hp => by
  rcases List.mem_cons.mp hp with rfl | hp
  · exact h
  · exact k p hp
theorem fA2 {bx D : Addr} {A : Prop} {o : Obj} {rest : Led} (h : A ∧ bx < D ∧ AllLt D rest) : ∀ p ∈ [(D, o)], p.1 ≠ bx ∧ ∀ q ∈ rest, q.1 < p.1 := fl1 (fr0 h.2.1 h.2.2)
theorem fA3 {bx D : Addr} {A B : Prop} {o : Obj} {rest : Led} (h : A ∧ B ∧ bx < D ∧ AllLt D rest) : ∀ p ∈ [(D, o)], p.1 ≠ bx ∧ ∀ q ∈ rest, q.1 < p.1 := fl1 (fr0 h.2.2.1 h.2.2.2)
theorem fA4 {bx D : Addr} {A B C : Prop} {o : Obj} {rest : Led} (h : A ∧ B ∧ C ∧ bx < D ∧ AllLt D rest) : ∀ p ∈ [(D, o)], p.1 ≠ bx ∧ ∀ q ∈ rest, q.1 < p.1 := fl1 (fr0 h.2.2.2.1 h.2.2.2.2)
theorem fP {bx D x d n : Addr} {A B C E A' B' A'' : Prop} {o1 o2 o3 o4 : Obj} {rest : Led} (h : A ∧ B ∧ C ∧ E ∧ bx < D ∧ AllLt D rest) (hx : d < x) (hd : A' ∧ B' ∧ bx < d ∧ AllLt d rest) (hn : A'' ∧ bx < n ∧ AllLt n rest) : ∀ p ∈ [(D, o1), (x, o2), (d, o3), (n, o4)], p.1 ≠ bx ∧ ∀ q ∈ rest, q.1 < p.1 :=
  flc (fr0 h.2.2.2.2.1 h.2.2.2.2.2) (flc (frx hx hd.2.2.1 hd.2.2.2) (flc (fr0 hd.2.2.1 hd.2.2.2) (fl1 (fr0 hn.2.1 hn.2.2))))
theorem fH {bx D x d : Addr} {A B C A' : Prop} {o1 o2 o3 : Obj} {rest : Led} (h : A ∧ B ∧ C ∧ bx < D ∧ AllLt D rest) (hx : d < x) (hd : A' ∧ bx < d ∧ AllLt d rest) : ∀ p ∈ [(D, o1), (x, o2), (d, o3)], p.1 ≠ bx ∧ ∀ q ∈ rest, q.1 < p.1 :=
  flc (fr0 h.2.2.2.1 h.2.2.2.2) (flc (frx hx hd.2.1 hd.2.2) (fl1 (fr0 hd.2.1 hd.2.2)))
noncomputable def GoodV (w : World) (led : Led) (wd : Int) (v ov : Value) (p : Pv) : Prop := IsPv w led v p ∧ p.ok ∧ IsOpt ov (p.whole wd) ∧ p.ltext = p.text
theorem gv_int {w : World} {led : Led} {wd i : Int} {t1 t2 : Tok} (h : okI i) (k : (Pv.int i).ltext = (Pv.int i).text) : GoodV w led wd (.int i t1) (.int i t2) (.int i) := ⟨.int _ _, h, .some _ _, k⟩
theorem gv_str {w : World} {led : Led} {wd : Int} {x : Str} {t1 : Tok} {ov : Value} {o : Option Int} (h : okS x) (e : wot x wd = o) (k : IsOpt ov o) : GoodV w led wd (.str x t1) ov (.str x) := ⟨.str _ _, h, by show IsOpt ov (wot x wd); rw [e]; exact k, rfl⟩
theorem gv_txt {w : World} {led : Led} {wd : Int} {x : Str} {t1 : Tok} {ov : Value} {o : Option Int} (c : chkW x o = true) (h5 : 5 ≤ wd) (h40 : wd ≤ 40) (k : IsOpt ov o) : GoodV w led wd (.str x t1) ov (.str x) := gv_str (chkW_ok c).1 ((chkW_ok c).2 wd h5 h40) k
theorem okV {w : World} {tl : Led} {wd : Int} {a : Addr} {v ov : Value} {n : Nat} (hm : (a, tup2 v ov n) ∈ tl) (h : ∃ p, GoodV w tl wd v ov p) : ∃ a' v' ov' p n', (Value.ref a) = .ref a' ∧ (a', tup2 v' ov' n') ∈ tl ∧ GoodV w tl wd v' ov' p :=
  let ⟨p, g⟩ := h; ⟨a, v, ov, p, n, rfl, hm, g⟩
theorem gv_ten {w : World} {led : Led} {wd d : Int} {t0 t1 t2 t3 t4 t5 t6 t7 t8 t9 u0 u1 u2 u3 u4 u9 : Tok} (h0 : 0 ≤ d) (h1 : d < 10) (h5 : 5 ≤ wd) (h40 : wd ≤ 40) : ∃ p, GoodV w led wd
    ([.str (nm "") t0, .str (nm "0") t1, .str (nm "007") t2, .str (nm "+5") t3, .str (nm "-6") t4, .str (nm "+") t5, .str (nm "1 ") t6, .str (nm "a") t7, .str (nm "3x") t8, .str (nm "-0") t9].getD d.toNat .none)
    ([.int 0 u0, .int 0 u1, .int 7 u2, .int 5 u3, .int (-6) u4, .none, .none, .none, .none, .int 0 u9].getD d.toNat .none) p := by
  rcases ten h1 h0 with rfl | rfl | rfl | rfl | rfl | rfl | rfl | rfl | rfl | rfl
  · exact ⟨_, gv_txt cw_0 h5 h40 (.some _ _)⟩
  · exact ⟨_, gv_txt cw_1 h5 h40 (.some _ _)⟩
  · exact ⟨_, gv_txt cw_2 h5 h40 (.some _ _)⟩
  · exact ⟨_, gv_txt cw_3 h5 h40 (.some _ _)⟩
  · exact ⟨_, gv_txt cw_4 h5 h40 (.some _ _)⟩
  · exact ⟨_, gv_txt cw_5 h5 h40 .none⟩
  · exact ⟨_, gv_txt cw_6 h5 h40 .none⟩
  · exact ⟨_, gv_txt cw_7 h5 h40 .none⟩
  · exact ⟨_, gv_txt cw_8 h5 h40 .none⟩
  · exact ⟨_, gv_txt cw_9 h5 h40 (.some _ _)⟩
set_option maxRecDepth 100000 in
set_option maxHeartbeats 8000000 in
theorem c_value (w : World) (bx xs : Addr) (vs : List Value) (ns : List Int) (nn : Nat) (wd hi : Int) (t : Tok) (bo : Obj) (rest : Led) (hb : IsBox xs hi bo) (hhi : hi < 99000) (hxs : (xs, listOf vs.toArray nn) ∈ rest) (hns : IntsAre vs ns) (hlen : ns.length ≤ 64) (h5 : 5 ≤ wd) (h40 : wd ≤ 40) (hne : ∀ p ∈ rest, p.1 ≠ bx) :
   CtrB w 9 303 [.ref bx, .int wd t] bx bo rest (fun r tl bo' => IsBox xs (hi + 1 + 1) bo' ∧ ∃ a v ov p n, r = .ref a ∧ (a, tup2 v ov n) ∈ tl ∧ GoodV w tl wd v ov p) := by
  intro dp un gd cn cs a ccd cl outer A₀ base h₀ L m loose mean mg mb s Q E B F X N T hk hd hu ret
  refine wpAny_call ?_
  k_dflt ktr_enter
  k_steps
  · exact ret _ [_] _ _ _ (by k_asm) (news_s1 (by k_asm)) (fA2 (by with_reducible assumption)) ⟨by with_reducible assumption, _, _, _, _, _, rfl, .head _, gv_int (by unfold okI; omega) (small (by omega) (by omega))⟩
  · contradiction
  · contradiction
  · exact ret _ [_] _ _ _ (by k_asm) (news_s1 (by k_asm)) (fA2 (by with_reducible assumption)) ⟨by with_reducible assumption, _, _, _, _, _, rfl, .head _, gv_int (by unfold okI; omega) (small (by omega) (by omega))⟩
  · exact ret _ [_] _ _ _ (by k_asm) (news_s2 (by k_asm)) (fA3 (by with_reducible assumption)) ⟨by with_reducible assumption, _, _, _, _, _, rfl, .head _, gv_int (big h5 h40 _).1 (big h5 h40 _).2⟩
  · exact ret _ [_] _ _ _ (by k_asm) (news_s3 (by k_asm)) (fA4 (by with_reducible assumption)) ⟨by with_reducible assumption, okV (.head _) (gv_ten (by with_reducible assumption) (by with_reducible assumption) h5 h40)⟩
  · exact ret _ [_] _ _ _ (by k_asm) (news_s1 (by k_asm)) (fA2 (by with_reducible assumption)) ⟨by with_reducible assumption, _, _, _, _, _, rfl, .head _, gv_txt cw_0 h5 h40 (.some _ _)⟩
  · exact ret _ [_] _ _ _ (by k_asm) (news_s1 (by k_asm)) (fA2 (by with_reducible assumption)) ⟨by with_reducible assumption, _, _, _, _, _, rfl, .head _, gv_str (six (by with_reducible assumption) (by with_reducible assumption) h5 h40).1 ((six (by with_reducible assumption) (by with_reducible assumption) h5 h40).2.trans (if_pos (by with_reducible assumption))) (.some _ _)⟩
  · exact ret _ [_] _ _ _ (by k_asm) (news_s1 (by k_asm)) (fA2 (by with_reducible assumption)) ⟨by with_reducible assumption, _, _, _, _, _, rfl, .head _, gv_str (six (by with_reducible assumption) (by with_reducible assumption) h5 h40).1 ((six (by with_reducible assumption) (by with_reducible assumption) h5 h40).2.trans (if_neg (by with_reducible assumption))) .none⟩
  · exact ret _ [_] _ _ _ (by k_asm) (news_s1 (by k_asm)) (fA2 (by with_reducible assumption)) ⟨by with_reducible assumption, _, _, _, _, _, rfl, .head _, gv_txt abc h5 h40 .none⟩
  · exact ret _ [_, _, _, _] _ _ _ (by k_asm) (news_s4 (by k_asm)) (fP (by with_reducible assumption) (by with_reducible assumption) (by with_reducible assumption) (by with_reducible assumption)) ⟨by with_reducible assumption, _, _, _, _, _, rfl, .head _, .pat (.tail _ (.head _)) (.tail _ (.tail _ (.head _))) (.tuple (.tail _ (.tail _ (.tail _ (.head _)))) (.cons (.str _ _) (.cons (.int _ _) .nil))), ⟨_, rfl⟩, .none, rfl⟩
  · exact ret _ [_, _, _, _] _ _ _ (by k_asm) (news_s4 (by k_asm)) (fP (by with_reducible assumption) (by with_reducible assumption) (by with_reducible assumption) (by with_reducible assumption)) ⟨by with_reducible assumption, _, _, _, _, _, rfl, .head _, .del (.tail _ (.head _)) (.tail _ (.tail _ (.head _))) (.tuple (.tail _ (.tail _ (.tail _ (.head _)))) (.cons (.str _ _) (.cons (.str _ _) .nil))), trivial, .none, rfl⟩
  · exact ret _ [_, _, _] _ _ _ (by k_asm) (news_s5 (by k_asm)) (fH (by with_reducible assumption) (by with_reducible assumption) (by with_reducible assumption)) ⟨by with_reducible assumption, _, _, _, _, _, rfl, .head _, .hold (.tail _ (.head _)) (.tail _ (.tail _ (.head _))), trivial, .none, rfl⟩

end
end Mine
namespace Mine
section
theorem reg42 : True := by
  k_with_none
  k_with "m room" => (exact rm1 (by assumption) (by exact rfl))
  k_with "m units" => (exact rm2 (by assumption) (by exact rfl))
  k_with "m ctr" => (((case k1Z => k_asm); (case k2Z => k_asm); (case k3Z => k_asm); (case k4Z => k_asm); (case k5Z => k_asm); (case kKZ => first | exact rfl | assumption); (case kdZ => ktr_room); (case kuZ => ktr_units)))
  k_with "m exec Raise some none" => ((k_here; k_dflt (refine raise_exec (w := ‹World›) rfl ?_)))
  k_with "m RaisePost" => ((refine ⟨_, _, _, rfl, News.get (by k_asm) (List.Mem.tail _ (List.Mem.head _)), by k_in, ?_⟩))
  k_with "m call ref" => ((k_here; k_dflt ( (with_reducible show wpAny _ _ (call (Value.ref 34) _ _) _ _ _); refine' exc_made _ _ _ _ _ _ _ _ _ _ _ _ _ _ _ _ _ _ _ _ _ ?k1Z ?k2Z ?k3Z ?k4Z ?k5Z ?kAZ ?kFZ ?kKZ ?kRZ ?_; (case kAZ => exact rfl); (case k1Z => k_asm); (case k2Z => k_asm); (case k3Z => k_asm); (case k4Z => k_asm); (case k5Z => k_asm); (case kFZ => exact rfl); (case kKZ => first | exact rfl | assumption); (case kRZ => ktr_room); intro e9k d9k t9k k9k k9k' h9k tk9k F9k N9k ne9k lt9k; (try dsimp only))))
  k_with "m leaving" => ((k_here; k_dflt (first | (refine' leave_madeD ?k1Z ?k2Z ?k3Z (List.Mem.tail _ (List.Mem.head _)) (List.Mem.head _) ?k4Z ?_; (case k1Z => k_asm); (case k2Z => k_asm); (case k3Z => k_asm); (case k4Z => exact fun p hp => ⟨List.Mem.tail _ (List.Mem.tail _ hp), by solve_by_elim⟩); intro h9k B9k U9k) | (refine' leave_onD ?k1Z ?k2Z ?k3Z ?k4Z ?_; (case k1Z => k_asm); (case k2Z => k_asm); (case k3Z => k_asm); (case k4Z => k_asm); intro h9k B9k U9k))))
  k_with "m mem" => (first | exact List.mem_cons_self | (refine' List.mem_cons_of_mem _ ?_; k_mem))
  k_with "m news" => (first | with_reducible assumption | assumption | exact ndrop (by assumption) | exact ndrop (ndrop (by assumption)) | exact ndrop (ndrop (ndrop (by assumption))))
  k_with "m eval Call Name" => ((k_here; (fail_if_success (with_reducible show wpAny _ _ (eval (Expr.Call (Expr.Name "range" _) _ _ _) _) _ _ _)); k_dflt (refine Call_ ?_)))
  k_with "m boom" => (first | with_reducible assumption | exact Boom.sub (by assumption) (fun p hp => List.Mem.tail _ hp) | exact Boom.sub (by assumption) (fun p hp => List.Mem.tail _ (List.Mem.tail _ hp)) | exact Boom.sub (by assumption) (fun p hp => List.Mem.tail _ (List.mem_append.mpr (Or.inl hp))) | exact Boom.sub (by assumption) (fun p hp => List.mem_append.mpr (Or.inl hp)))
  k_with "m led" => (first | exact fun _ h => h | exact fun _ h => List.Mem.tail _ h | exact fun _ h => List.Mem.tail _ (List.Mem.tail _ h) | exact fun _ h => List.Mem.tail _ (List.Mem.tail _ (List.Mem.tail _ h)) | exact fun _ h => List.mem_append.mpr (Or.inr h) | exact fun _ h => List.mem_append.mpr (Or.inl h) | exact fun _ h => List.Mem.tail _ (List.mem_append.mpr (Or.inr h)) | exact fun _ h => List.mem_append.mpr (Or.inr (List.mem_append.mpr (Or.inr h))) | exact fun _ h => List.mem_append.mpr (Or.inr (List.Mem.tail _ h)))
  k_with "m call ref" => ((k_here; k_dflt (refine' call_cls ?k1Z ?k2Z ?k3Z ?k4Z ?k5Z ?k6Z ?_; (case k1Z => k_asm); (case k2Z => k_asm); (case k3Z => k_asm); (case k4Z => k_is); (case k5Z => k_is); (case k6Z => k_is); k_whole; intro x' d' h' F' N' l1k l2k; (try k_lt l1k); (try k_lt2 l2k); (try k_sweep); (refine' code_def ?k1Z ?k2Z ?k3Z ?k4Z ?k5Z ?kAZ ?kFZ ?kKZ ?k6Z ?k7Z ?k8Z ?k9Z ?kBZ ?_ ?c2Z ?c3Z ?c4Z ?c5Z; (case kAZ => exact rfl); (case kFZ => exact rfl); (case kKZ => first | exact rfl | assumption); (case k1Z => k_asm); (case k2Z => k_asm); (case k3Z => k_asm); (case k4Z => k_asm); (case k5Z => k_asm); (case k6Z => k_is); (case k7Z => k_is); (case k8Z => ktr_room); (case k9Z => exact BindsTo.of_eq rfl); (case c5Z => decide); (case kBZ => exact locs rfl); (case c2Z => exact rfl); (case c3Z => exact rfl); (case c4Z => exact rfl); k_whole; intro g' L' h' FG' F' N' B' X' T'; (try dsimp only); (try k_fold)))))
  k_with "m ite" => ((k_here; k_openite; with_reducible first | refine ite_pos (by assumption) ?_ | refine ite_neg (by assumption) ?_ | refine ite_isFalse (by assumption) ?_ | (refine split_ine ?_ ?_ <;> intro _) | (refine split_ieq ?_ ?_ <;> intro _) | refine split_not ?_ | (refine split_dec ?_ ?_ <;> intro _) | (refine split_bool ?_ ?_ <;> intro _)))
  k_with "m ite" => ((with_reducible first | refine ite_tt ?_ | refine ite_ff ?_))
  k_with "m testChain" => (dsimp only)
  k_with "m evalPairs" => (dsimp only)
  k_with "m compareChain" => (dsimp only)
  k_with "m ite" => ((k_closed; first | ((with_reducible refine ite_cf ?chZ ?_); (case chZ => decide +kernel)) | ((with_reducible refine ite_ct ?chZ ?_); (case chZ => decide +kernel))))
  k_with "m InvEndN" => (k_dflt kst_close)
  k_with "m news1" => (first | with_reducible assumption | with_reducible exact nkeep0 (by with_reducible assumption) | with_reducible exact nkeep1 (by with_reducible assumption) | with_reducible exact nkeep2 (by with_reducible assumption) | with_reducible exact nkeep3 (by with_reducible assumption))
  exact True.intro
set_option maxRecDepth 100000 in
set_option maxHeartbeats 8000000 in
theorem c_due_n1 (w : World) (sv : Str) (v2 : Value) (wd : Int) (t0 t3 : Tok) (news : Led) :
   Ctr w 12 310 [.str sv t0, .none, v2, .int wd t3] news (fun r tl => IsAns (tl ++ news) r (.error 1)) (fun e => False) := by
  intro dp un gd cn cs a ccd cl outer A₀ base h₀ L m loose mean mg mb s Q E B F X N T hk hd hu ret exc
  skip
  all_goals (refine wpAny_call ?_; k_dflt ktr_enter)
  all_goals k_steps
  · exact ret _ [_] _ _ (by k_asm) (by walk_at "news1") (ans_err (DatIn.tuple (.head _) (.cons (.str _ _) (.cons (.int _ _) .nil))) (rfl))

set_option maxRecDepth 100000 in
set_option maxHeartbeats 8000000 in
theorem c_due_n2 (w : World) (sv : Str) (x : Int) (wd : Int) (t0 t1 t3 : Tok) (news : Led) :
   Ctr w 12 310 [.str sv t0, .int x t1, .none, .int wd t3] news (fun r tl => IsAns (tl ++ news) r (.error 1)) (fun e => False) := by
  intro dp un gd cn cs a ccd cl outer A₀ base h₀ L m loose mean mg mb s Q E B F X N T hk hd hu ret exc
  skip
  all_goals (refine wpAny_call ?_; k_dflt ktr_enter)
  all_goals k_steps
  · exact ret _ [_] _ _ (by k_asm) (by walk_at "news1") (ans_err (DatIn.tuple (.head _) (.cons (.str _ _) (.cons (.int _ _) .nil))) (rfl))

theorem dueA_n1 {o : Op} {o2 : Option Int} {wd : Int} : dueA o none o2 wd = .error 1 := rfl
theorem dueA_n2 {o : Op} {o1 : Option Int} {wd : Int} : dueA o o1 none wd = .error 1 := by cases o1 <;> rfl
theorem c_due (w : World) (o : Op) (sv : Str) (v1 v2 : Value) (o1 o2 : Option Int) (wd : Int) (t0 t3 : Tok) (hs : sv = o.s) (h1 : IsOpt v1 o1) (h2 : IsOpt v2 o2) (k1 : ∀ x, o1 = some x → okI x) (k2 : ∀ x, o2 = some x → okI x) (h5 : 5 ≤ wd) (h40 : wd ≤ 40) (news : Led) :
   Ctr w 12 310 [.str sv t0, v1, v2, .int wd t3] news (fun r tl => IsAns (tl ++ news) r (dueA o o1 o2 wd)) (fun _ => False) := by
  cases h1 with
  | none => exact c_due_n1 w sv v2 wd t0 t3 news
  | some x t1 =>
    cases h2 with
    | none => rw [dueA_n2]; exact c_due_n2 w sv x wd t0 t1 t3 news
    | some y t2 =>
      cases o with
      | pow => exact c_due_pow w .pow (.inl rfl) sv x y wd t0 t1 t2 t3 hs (k1 _ rfl) (k2 _ rfl) h5 h40 news
      | bang => exact c_due_pow w .bang (.inr rfl) sv x y wd t0 t1 t2 t3 hs (k1 _ rfl) (k2 _ rfl) h5 h40 news
      | add => exact c_due_arith w .add (.inl rfl) sv x y wd t0 t1 t2 t3 hs (k1 _ rfl) (k2 _ rfl) h5 h40 news
      | sub => exact c_due_arith w .sub (.inr (.inl rfl)) sv x y wd t0 t1 t2 t3 hs (k1 _ rfl) (k2 _ rfl) h5 h40 news
      | mul => exact c_due_arith w .mul (.inr (.inr rfl)) sv x y wd t0 t1 t2 t3 hs (k1 _ rfl) (k2 _ rfl) h5 h40 news
      | div => exact c_due_div w .div rfl sv x y wd t0 t1 t2 t3 hs (k1 _ rfl) (k2 _ rfl) h5 h40 news

end
end Mine
namespace Mine
section
theorem reg43 : True := by
  k_with_none
  k_with "m room" => (exact rm1 (by assumption) (by exact rfl))
  k_with "m units" => (exact rm2 (by assumption) (by exact rfl))
  k_with "m ctr" => (((case k1Z => k_asm); (case k2Z => k_asm); (case k3Z => k_asm); (case k4Z => k_asm); (case k5Z => k_asm); (case kKZ => first | exact rfl | assumption); (case kdZ => ktr_room); (case kuZ => ktr_units)))
  k_with "m exec Raise some none" => ((k_here; k_dflt (refine raise_exec (w := ‹World›) rfl ?_)))
  k_with "m RaisePost" => ((refine ⟨_, _, _, rfl, News.get (by k_asm) (List.Mem.tail _ (List.Mem.head _)), by k_in, ?_⟩))
  k_with "m call ref" => ((k_here; k_dflt ( (with_reducible show wpAny _ _ (call (Value.ref 34) _ _) _ _ _); refine' exc_made _ _ _ _ _ _ _ _ _ _ _ _ _ _ _ _ _ _ _ _ _ ?k1Z ?k2Z ?k3Z ?k4Z ?k5Z ?kAZ ?kFZ ?kKZ ?kRZ ?_; (case kAZ => exact rfl); (case k1Z => k_asm); (case k2Z => k_asm); (case k3Z => k_asm); (case k4Z => k_asm); (case k5Z => k_asm); (case kFZ => exact rfl); (case kKZ => first | exact rfl | assumption); (case kRZ => ktr_room); intro e9k d9k t9k k9k k9k' h9k tk9k F9k N9k ne9k lt9k; (try dsimp only))))
  k_with "m leaving" => ((k_here; k_dflt (first | (refine' leave_madeD ?k1Z ?k2Z ?k3Z (List.Mem.tail _ (List.Mem.head _)) (List.Mem.head _) ?k4Z ?_; (case k1Z => k_asm); (case k2Z => k_asm); (case k3Z => k_asm); (case k4Z => exact fun p hp => ⟨List.Mem.tail _ (List.Mem.tail _ hp), by solve_by_elim⟩); intro h9k B9k U9k) | (refine' leave_onD ?k1Z ?k2Z ?k3Z ?k4Z ?_; (case k1Z => k_asm); (case k2Z => k_asm); (case k3Z => k_asm); (case k4Z => k_asm); intro h9k B9k U9k))))
  k_with "m mem" => (first | exact List.mem_cons_self | (refine' List.mem_cons_of_mem _ ?_; k_mem))
  k_with "m news" => (first | with_reducible assumption | assumption | exact ndrop (by assumption) | exact ndrop (ndrop (by assumption)) | exact ndrop (ndrop (ndrop (by assumption))))
  k_with "m eval Call Name" => ((k_here; (fail_if_success (with_reducible show wpAny _ _ (eval (Expr.Call (Expr.Name "range" _) _ _ _) _) _ _ _)); k_dflt (refine Call_ ?_)))
  k_with "m boom" => (first | with_reducible assumption | exact Boom.sub (by assumption) (fun p hp => List.Mem.tail _ hp) | exact Boom.sub (by assumption) (fun p hp => List.Mem.tail _ (List.Mem.tail _ hp)) | exact Boom.sub (by assumption) (fun p hp => List.Mem.tail _ (List.mem_append.mpr (Or.inl hp))) | exact Boom.sub (by assumption) (fun p hp => List.mem_append.mpr (Or.inl hp)))
  k_with "m led" => (first | exact fun _ h => h | exact fun _ h => List.Mem.tail _ h | exact fun _ h => List.Mem.tail _ (List.Mem.tail _ h) | exact fun _ h => List.Mem.tail _ (List.Mem.tail _ (List.Mem.tail _ h)) | exact fun _ h => List.mem_append.mpr (Or.inr h) | exact fun _ h => List.mem_append.mpr (Or.inl h) | exact fun _ h => List.Mem.tail _ (List.mem_append.mpr (Or.inr h)) | exact fun _ h => List.mem_append.mpr (Or.inr (List.mem_append.mpr (Or.inr h))) | exact fun _ h => List.mem_append.mpr (Or.inr (List.Mem.tail _ h)))
  k_with "m call ref" => ((k_here; k_dflt (refine' call_cls ?k1Z ?k2Z ?k3Z ?k4Z ?k5Z ?k6Z ?_; (case k1Z => k_asm); (case k2Z => k_asm); (case k3Z => k_asm); (case k4Z => k_is); (case k5Z => k_is); (case k6Z => k_is); k_whole; intro x' d' h' F' N' l1k l2k; (try k_lt l1k); (try k_lt2 l2k); (try k_sweep); (refine' code_def ?k1Z ?k2Z ?k3Z ?k4Z ?k5Z ?kAZ ?kFZ ?kKZ ?k6Z ?k7Z ?k8Z ?k9Z ?kBZ ?_ ?c2Z ?c3Z ?c4Z ?c5Z; (case kAZ => exact rfl); (case kFZ => exact rfl); (case kKZ => first | exact rfl | assumption); (case k1Z => k_asm); (case k2Z => k_asm); (case k3Z => k_asm); (case k4Z => k_asm); (case k5Z => k_asm); (case k6Z => k_is); (case k7Z => k_is); (case k8Z => ktr_room); (case k9Z => exact BindsTo.of_eq rfl); (case c5Z => decide); (case kBZ => exact locs rfl); (case c2Z => exact rfl); (case c3Z => exact rfl); (case c4Z => exact rfl); k_whole; intro g' L' h' FG' F' N' B' X' T'; (try dsimp only); (try k_fold)))))
  k_with "m ite" => ((k_here; k_openite; with_reducible first | refine ite_pos (by assumption) ?_ | refine ite_neg (by assumption) ?_ | refine ite_isFalse (by assumption) ?_ | (refine split_ine ?_ ?_ <;> intro _) | (refine split_ieq ?_ ?_ <;> intro _) | refine split_not ?_ | (refine split_dec ?_ ?_ <;> intro _) | (refine split_bool ?_ ?_ <;> intro _)))
  k_with "m ite" => ((with_reducible first | refine ite_tt ?_ | refine ite_ff ?_))
  k_with "m testChain" => (dsimp only)
  k_with "m evalPairs" => (dsimp only)
  k_with "m compareChain" => (dsimp only)
  k_with "m ite" => ((k_closed; first | ((with_reducible refine ite_cf ?chZ ?_); (case chZ => decide +kernel)) | ((with_reducible refine ite_ct ?chZ ?_); (case chZ => decide +kernel))))
  k_with "m InvEndN" => (k_dflt kst_close)
  exact True.intro
theorem box_sz {vs : List Value} {ns : List Int} (h : IntsAre vs (List.take 40 ns)) : vs.toArray.size ≤ sizeLine := by
  rw [List.size_toArray, h.length, List.length_take]
  exact Nat.le_trans (Nat.min_le_left _ _) (by decide)
theorem reg44 : True := by
  k_with "m CompSrc" => ((k_here; (refine LCg.CompSrc.ledger (by rfl) (by k_asm) (by k_asm) (by k_mem) (box_sz (by assumption)) ?_); intro g'; (refine' kcf_list _ (by first | assumption | l_ints) (fun k' t' I' oI' C' oC' D' m' ys' h' tk' E' hk' hC' hx' F' N' off' ne' hMark' => ?_) ?_); (all_goals (try (simp only [LCg.Off3, and_true] at off'))); kcf_last))
  exact True.intro
noncomputable def boxJ (bx xs : Addr) (m₀ : Str → Option Value) (rest : Led) (_ : Nat) (m : Str → Option Value) (nx : Led) : Prop :=
  ∃ h t0 t2 n c, nx = (bx, listOf #[.int (-1) t0, .ref xs, .int h t2] n) :: rest ∧ 0 ≤ h ∧ h < hMod ∧ (∀ p ∈ rest, p.1 ≠ bx) ∧ m = fun y => if y = nm "cell" then c else m₀ y
theorem off_all {bx : Addr} {x : Obj} {rest own : Led} (h : ∀ p ∈ rest, p.1 ≠ bx) (o : OwnOff own (((bx, x) :: rest).map (·.1))) : ∀ p ∈ rest ++ own, p.1 ≠ bx := fun p hp => (List.mem_append.mp hp).elim (h p) (fun hp => o p hp _ (.head _))
theorem boxJ_0 {bx xs : Addr} {m₀ : Str → Option Value} {rest : Led} {t0 t2 : Tok} {n : Nat} (ho : ∀ p ∈ rest, p.1 ≠ bx) : boxJ bx xs m₀ rest 0 m₀ ((bx, listOf #[.int (-1) t0, .ref xs, .int 0 t2] n) :: rest) :=
  ⟨0, t0, t2, n, m₀ (nm "cell"), rfl, by decide, by decide, ho, by
    funext y
    by_cases e : y = nm "cell"
    · rw [if_pos e, e]
    · rw [if_neg e]⟩
theorem boxJ_end {bx xs l : Addr} {lo bo : Obj} {m₀ : Str → Option Value} {rest own : Led} {h₀ h h' : Heap} {L : Addr} {i : Nat} {s : Shared} {tk tk' : Nat} {v c : Option Value} {t0 t2 : Tok} {n : Nat} {x : Int}
    (F : Fr h₀ L h' (fun y => if y = nm "cell" then v else if y = nm "cell" then c else m₀ y)) (N : News h₀ L h' ((bx, listOf #[.int (-1) t0, .ref xs, .int (x.fmod hMod) t2] n) :: (rest ++ own))) (hm : (l, lo) ∈ rest) (ho : ∀ p ∈ rest, p.1 ≠ bx) :
    InvEndN h₀ L (fun m' nx => (l, lo) ∈ nx ∧ boxJ bx xs m₀ rest i m' nx) own (((bx, bo) :: rest).map (·.1)) { s with heap := h, toks := tk } { s with heap := h', toks := tk' } := by
  refine ⟨h', tk', _, _, (bx, listOf #[.int (-1) t0, .ref xs, .int (x.fmod hMod) t2] n) :: rest, rfl, F, N, ?_, ?_, rfl, .tail _ hm, _, _, _, _, v, rfl, Int.fmod_nonneg_of_pos _ (by decide), Int.fmod_lt_of_pos _ (by decide), ho, ?_⟩
  · intro p hp
    rcases List.mem_cons.mp hp with rfl | hp
    · exact .head _
    · exact .tail _ (List.mem_append_left _ hp)
  · intro p hp
    exact .tail _ (List.mem_append_right _ hp)
  · funext y
    by_cases e : y = nm "cell"
    · simp only [if_pos e]
    · simp only [if_neg e]
theorem reg45 : True := by
  k_with "m exec For Name Subscript cons nil" => ((k_here; (rename Fr _ _ _ _ => lF'); (with_unfolding_all refine' For_invVF lF' ?k1Z ?k2Z ?_; (case k1Z => exact rfl); (case k2Z => exact rfl); k_whole)))
  exact True.intro
theorem box_n3 {h₀ h : Heap} {L : Addr} {a b c : Addr × Obj} {news : Led} (N : News h₀ L h (a :: b :: c :: news)) : News h₀ L h (a :: b :: news) := fun p hp => N p (by
  rcases List.mem_cons.mp hp with rfl | hp
  · exact .head _
  rcases List.mem_cons.mp hp with rfl | hp
  · exact .tail _ (.head _)
  · exact .tail _ (.tail _ (.tail _ hp)))
theorem box_o3 {x : Addr} {b c : Addr × Obj} {news : Led} (h : ∀ p ∈ b :: c :: news, p.1 ≠ x) : ∀ p ∈ b :: news, p.1 ≠ x := fun p hp => h p (by
  rcases List.mem_cons.mp hp with rfl | hp
  · exact .head _
  · exact .tail _ (.tail _ hp))
theorem reg46 : True := by
  k_with "m all" => (first | assumption | exact List.forall_mem_nil _)
  exact True.intro
set_option maxRecDepth 100000 in
set_option maxHeartbeats 8000000 in
theorem c_box (w : World) (sc : Addr) (vs : List Value) (zs : List Int) (HI : IntsAre vs zs) (hzl : zs.length ≤ 63) (hLay : (PyData.list (List.map PyData.int zs)).layable0 = true) (news : Led) :
  ∀ (dp un : Nat) (gd : Option (List Code)) (cn : Str) (cs : Scope) (a : Addr) (ccd : Value) (cl : List (Str × Addr)) (outer : List Env) (A₀ : Around) (base h₀ : Heap) (L : Addr) (m : Str → Option Value)
    (loose : List Str) (mean : ExcName → Option Value) (mg mb : Str → Option Value) (s : Shared) (Q E : Value → Shared → Prop),
    Below A₀ base outer h₀ → Fr h₀ L s.heap m → (mkK.heap_1 w.params).In h₀ → News h₀ L s.heap news → Top topProg loose mean mg mb h₀ → cs.kind = .function → dp + 6 < recursionLimit → un + 8 * 6 < cLine →
    h₀.IsList sc vs.toArray →
    (∀ bx xs vs' ns nn bo h' tk', Fr h₀ L h' m → News h₀ L h' ((bx, bo) :: (xs, listOf (List.toArray vs') nn) :: news) → IntsAre vs' ns → ns.length ≤ 40 → IsBox xs 0 bo → (∀ p ∈ (xs, listOf (List.toArray vs') nn) :: news, p.1 ≠ bx) → Q (.ref bx) { s with heap := h', toks := tk' }) →
    wpAny (model PySem.Challenge.rw_np0295_01.row.prog w) (ktrTop dp un gd cn cs L a ccd cl outer) (call (.ref 296) [.ref sc]) Q E s := by
  intro dp un gd cn cs a ccd cl outer A₀ base h₀ L m loose mean mg mb s Q E B F X N T hk hd hu hL ret
  refine wpAny_call ?_
  k_dflt ktr_enter
  (rename Fr h₀ L _ m => fF'; have lifted := Fr.lst fF' hL)
  all_goals k_steps
  all_goals ((rename Fr _ _ _ _ => lF'); (rename News _ _ _ _ => lN'); (refine' iter_invNL (boxJ _ _ _ _) ?k1 ?k2 ?k3 lF' lN' ?k6 ?turn ?done); (case k6 => refine boxJ_0 ?_; k_all); (case k1 => exact rfl); (case k2 => k_mem); (case k3 => assumption))
  case turn =>
    intro i n t m₁ news₁ h tk own a1 a2 a3 a4 a5 a6 a7
    obtain ⟨hh, t0, t2, nn', c, rfl, b0, b1, b2, rfl⟩ := a5
    have hne := off_all b2 a3
    simp only [List.cons_append] at a7
    k_steps
    exact boxJ_end (by assumption) (by assumption) (.head _) (by assumption)
  case done =>
    intro m₁ news₁ h tk a4 a5 a6 a7
    obtain ⟨hh, t0, t2, nn', c, rfl, b0, b1, b2, rfl⟩ := a5
    k_steps
    refine' ret _ _ _ _ _ _ _ _ ?rF ?rN ?rI ?rL ?rB ?rO
    case rF => k_asm
    case rN => exact box_n3 (by assumption)
    case rI => assumption
    case rL => rw [List.length_map, List.length_take]; exact Nat.min_le_left _ _
    case rB => exact ⟨-1, _, _, _, _, rfl, by decide, by decide, b0, b1⟩
    case rO => exact box_o3 b2

end
end Mine
namespace Mine
section
open PySem PySem.W PySem.Spec PySem.Calls PyProof.Rows PySem.W.X
noncomputable abbrev CodeOk (led : Led) (qual : Str) (c' : Addr) : Prop := ∃ oc vs t, (c', oc) ∈ led ∧ oc.data = .fields vs ∧ vs[1]? = some (.str qual t)
noncomputable def TabOk (led : Led) (qual : Str) (ps : Array Value) : Prop := TriplesOk ps.toList ∧ ∀ pos cv, codeAmong pos ps.toList = some cv → ∃ c', cv = .ref c' ∧ CodeOk led qual c'
theorem CodeOk.mono {led led' : Led} {qual : Str} {c' : Addr} (x : CodeOk led qual c') (h : ∀ p ∈ led, p ∈ led') : CodeOk led' qual c' :=
  let ⟨oc, vs, t, a, b, c⟩ := x; ⟨oc, vs, t, h _ a, b, c⟩
theorem TabOk.mono {led led' : Led} {qual : Str} {ps : Array Value} (x : TabOk led qual ps) (h : ∀ p ∈ led, p ∈ led') : TabOk led' qual ps :=
  ⟨x.1, fun pos cv e => let ⟨c', e1, e2⟩ := x.2 pos cv e; ⟨c', e1, e2.mono h⟩⟩
theorem TabOk.empty {led : Led} {qual : Str} : TabOk led qual #[] := ⟨trivial, fun _ _ e => nomatch e⟩
theorem among_snoc {pos : Pos} {a b : Int} {c cv : Value} (l : List Value) (h : TriplesOk l) (e : codeAmong pos (l ++ [rawInt a, rawInt b, c]) = some cv) : codeAmong pos l = some cv ∨ cv = c := by
  fun_induction TriplesOk l with
  | case1 =>
    simp only [List.nil_append, codeAmong, rawInt] at e
    split at e
    · right; cases e; rfl
    · cases e
  | case2 a' t b' u x rest ih =>
    simp only [List.cons_append, codeAmong] at e ⊢
    split at e
    · rename_i hc; rw [if_pos hc]; exact .inl e
    · rename_i hc; rw [if_neg hc]; exact ih h e
  | case3 l h1 h2 => exact h.elim
theorem TabOk.push {led : Led} {qual : Str} {ps : Array Value} {a b : Int} {c' : Addr} (x : TabOk led qual ps) (hc : CodeOk led qual c') : TabOk led qual (ps ++ #[rawInt a, rawInt b, .ref c']) := by
  refine ⟨?_, fun pos cv e => ?_⟩
  · rw [Array.toList_append]; exact TriplesOk_snoc _ _ _ _ x.1
  · rw [Array.toList_append] at e
    rcases among_snoc _ x.1 e with e | e
    · exact x.2 pos cv e
    · exact ⟨c', e, hc⟩
section
variable {M : Model} {A : Around} {E : Value → Shared → Prop} {s : Shared} {h₀ : Heap} {L a c P : Addr} {m mg mb : Str → Option Value} {cn : Str} {cs : Scope} {ccd : Value} {cl : List (Str × Addr)} {st rest : Led}
  {p : Program} {loose : List Str} {mean : ExcName → Option Value} {name qual : Str} {params : Arguments} {body : Expr} {scope : Scope} {ps : Array Value} {pos : Pos} {firstLine : Nat} {clos : List (Str × Addr)}
theorem lam_any {Q : Value → Shared → Prop} (F : Fr h₀ L s.heap m) (N : News h₀ L s.heap ((P, tabObj ps) :: rest)) (T : Top p loose mean mg mb h₀) (C : CodeHd h₀ c P) (hcd : ccd = .ref c) (tb : TabOk st qual ps) (hne : ∀ p ∈ rest, p.1 ≠ P)
    (hcl : closureFor scope (envX cn cs L a ccd cl) = pure clos)
    (h : ∀ f c' ctv ps' tl h' tk, Fr h₀ L h' m → News h₀ L h' ((P, tabObj ps') :: (f, kla_obj name qual params body scope clos ((mg "__name__").getD .none) c' ctv) :: (tl ++ rest)) → TabOk (tl ++ st) qual ps' → CodeOk (tl ++ st) qual c' →
      (∀ q ∈ tl, P < q.1 ∧ q.1 < f ∧ ∀ p ∈ rest, p.1 < q.1) → P < f → (∀ p ∈ rest, p.1 < f) → Q (.ref f) { s with heap := h', toks := tk }) :
    wpAny M A (makeFunction name qual params (.expr body) scope (envX cn cs L a ccd cl) [] [] [] pos firstLine) Q E s := by
  cases hc : codeAmong pos ps.toList with
  | none =>
    refine kla_nest F N T C hcd (UpdF.head hne) tb.1 hc hcl fun f c' oc vs t ctv h' tk F' N' hd hv l1 l2 => ?_
    have co : CodeOk ([(c', oc)] ++ st) qual c' := ⟨oc, vs, t, .head _, hd, hv⟩
    refine h f c' ctv _ [(c', oc)] h' tk F' (fun p hp => N' p ?_) ((tb.mono fun p hp => .tail _ hp).push (a := pos.line) (b := pos.col) co) co ?_ (Nat.lt_trans (l1 _ (.head _)) l2) (fun p hp => Nat.lt_trans (l1 p (.tail _ hp)) l2)
    · rcases List.mem_cons.mp hp with rfl | hp
      · exact .tail _ (.tail _ (.head _))
      rcases List.mem_cons.mp hp with rfl | hp
      · exact .head _
      rcases List.mem_cons.mp hp with rfl | hp
      · exact .tail _ (.head _)
      · exact .tail _ (.tail _ (.tail _ hp))
    · intro q hq
      obtain rfl := List.mem_singleton.mp hq
      exact ⟨l1 _ (.head _), l2, fun p hp => l1 p (.tail _ hp)⟩
  | some cv =>
    obtain ⟨c', rfl, co⟩ := tb.2 pos cv hc
    refine kla_hit F N T C hcd (.head _) tb.1 hc hcl fun f ctv h' tk F' N' l1 => ?_
    refine h f c' ctv ps [] h' tk F' (fun p hp => N' p ?_) tb co (fun q hq => nomatch hq) (l1 _ (.head _)) (fun p hp => l1 p (.tail _ hp))
    rcases List.mem_cons.mp hp with rfl | hp
    · exact .tail _ (.head _)
    rcases List.mem_cons.mp hp with rfl | hp
    · exact .head _
    · exact .tail _ (.tail _ hp)
end
theorem turn0_fr {h₀ h₀' h : Heap} {L : Addr} {m : Str → Option Value} (T : KtsTurn [] h₀ h₀') (F : Fr h₀' L h m) : Fr h₀ L h m :=
  ⟨F.ns, fun b o e => F.keep b o (T.other b o e List.not_mem_nil), by rw [← T.size]; exact F.above⟩
theorem turn0_news {h₀ h₀' h : Heap} {L : Addr} {news : Led} (T : KtsTurn [] h₀ h₀') (N : News h₀' L h news) : News h₀ L h news :=
  fun p hp => ⟨(N p hp).1, (N p hp).2.1, by
    cases q : h₀.get? p.1 with
    | none => rfl
    | some o => have := (N p hp).2.2; rw [T.other _ _ q List.not_mem_nil] at this; cases this⟩

end
end Mine
namespace Mine
section
open PySem PySem.W PySem.Spec PySem.Calls PyProof.Rows PySem.W.X
noncomputable def hw (wd : Int) : Int := 2 ^ (wd - 1).toNat
theorem hw_ge {wd : Int} (h5 : 5 ≤ wd) : 16 ≤ hw wd := by
  have h := Nat.pow_le_pow_right (n := 2) (by decide) (show 4 ≤ (wd - 1).toNat by omega)
  have h2 : ((2 ^ 4 : Nat) : Int) ≤ ((2 ^ (wd - 1).toNat : Nat) : Int) := Int.ofNat_le.mpr h
  rw [Int.natCast_pow, Int.natCast_pow] at h2
  exact h2
theorem hw_two {wd : Int} (h5 : 5 ≤ wd) : (2 : Int) ^ wd.toNat = 2 * hw wd := by
  have e : wd.toNat = (wd - 1).toNat + 1 := by omega
  rw [e, Int.pow_succ, hw, Int.mul_comm]
theorem fits_iff {n wd : Int} : fitsB n wd = true ↔ -(hw wd) ≤ n ∧ n < hw wd := decide_eq_true_iff
theorem chk_if {n wd : Int} (h : -(hw wd) ≤ n ∧ n < hw wd) : chk n wd = .ok n := chk_ok h
theorem chk_not {n wd : Int} (h : ¬ (-(hw wd) ≤ n ∧ n < hw wd)) : chk n wd = .error 2 := chk_err h
theorem abs_nat (f : Int) : (if f < 0 then -f else f) = (f.natAbs : Int) := by split <;> omega
theorem mul_big {f x : Int} (hx : 2 ≤ x.natAbs) : 2 * f.natAbs ≤ (f * x).natAbs := by
  rw [Int.natAbs_mul, Nat.mul_comm 2]
  exact Nat.mul_le_mul_left _ hx
theorem dueF_s1 {x wd : Int} {k : Nat} (h5 : 5 ≤ wd) (h : ((dueF x wd k).natAbs : Int) < 2 * hw wd) : dueF x wd (k + 1) = dueF x wd k * x := by
  rw [dueF, abs_nat, hw_two h5, if_pos h]
theorem dueF_s2 {x wd : Int} {k : Nat} (h5 : 5 ≤ wd) (h : ¬ ((dueF x wd k).natAbs : Int) < 2 * hw wd) : dueF x wd (k + 1) = dueF x wd k := by
  rw [dueF, abs_nat, hw_two h5, if_neg h]
theorem due_out {x wd : Int} (h5 : 5 ≤ wd) (hx : 2 ≤ x.natAbs) {k : Nat} (h : ¬ (-(hw wd) ≤ dueF x wd k ∧ dueF x wd k < hw wd)) : ∀ m, ¬ (-(hw wd) ≤ dueF x wd (k + m) ∧ dueF x wd (k + m) < hw wd)
  | 0 => h
  | m + 1 => by
    have ih := due_out h5 hx h m
    have hp := hw_ge h5
    show ¬ (-(hw wd) ≤ dueF x wd (k + m + 1) ∧ dueF x wd (k + m + 1) < hw wd)
    by_cases c : ((dueF x wd (k + m)).natAbs : Int) < 2 * hw wd
    · rw [dueF_s1 h5 c]
      have := mul_big (f := dueF x wd (k + m)) hx
      omega
    · rw [dueF_s2 h5 c]
      exact ih
theorem powL_due {x wd : Int} (h5 : 5 ≤ wd) (hx : 2 ≤ x.natAbs) : ∀ (k j : Nat), (-(hw wd) ≤ dueF x wd j ∧ dueF x wd j < hw wd) → powL x wd k (dueF x wd j) = chk (dueF x wd (j + k)) wd
  | 0, j, h => by rw [powL]; exact (chk_if h).symm
  | k + 1, j, h => by
    have hp := hw_ge h5
    have e := dueF_s1 (x := x) (k := j) h5 (by omega)
    rw [powL, ← e, show j + (k + 1) = (j + 1) + k by omega]
    by_cases c : -(hw wd) ≤ dueF x wd (j + 1) ∧ dueF x wd (j + 1) < hw wd
    · rw [if_pos (fits_iff.mpr c)]
      exact powL_due h5 hx k (j + 1) c
    · rw [if_neg (fun z => c (fits_iff.mp z)), chk_not (due_out h5 hx c k)]
theorem due_big {x wd : Int} (h5 : 5 ≤ wd) (hx : 2 ≤ x.natAbs) : ∀ k : Nat, 2 ^ k ≤ (dueF x wd k).natAbs ∨ 2 * hw wd ≤ ((dueF x wd k).natAbs : Int)
  | 0 => .inl (by rw [dueF]; decide)
  | k + 1 => by
    by_cases c : ((dueF x wd k).natAbs : Int) < 2 * hw wd
    · rw [dueF_s1 h5 c]
      have := mul_big (f := dueF x wd k) hx
      rcases due_big h5 hx k with h | h
      · left; rw [Nat.pow_succ]; omega
      · omega
    · rw [dueF_s2 h5 c]; right; omega
theorem due_0 {wd : Int} (h5 : 5 ≤ wd) : ∀ k : Nat, dueF 0 wd (k + 1) = 0
  | 0 => by
    have hp := hw_ge h5
    rw [dueF_s1 h5 (by rw [dueF]; simp; omega), Int.mul_zero]
  | k + 1 => by
    have hp := hw_ge h5
    rw [dueF_s1 h5 (by rw [due_0 h5 k]; simp; omega), Int.mul_zero]
theorem due_1 {wd : Int} (h5 : 5 ≤ wd) : ∀ k : Nat, dueF 1 wd k = 1
  | 0 => by rw [dueF]
  | k + 1 => by
    have hp := hw_ge h5
    rw [dueF_s1 h5 (by rw [due_1 h5 k]; simp; omega), due_1 h5 k]; rfl
theorem due_m {wd : Int} (h5 : 5 ≤ wd) : ∀ k : Nat, dueF (-1) wd k = if k % 2 = 0 then 1 else -1
  | 0 => by rw [dueF]; rfl
  | k + 1 => by
    have hp := hw_ge h5
    have ih := due_m h5 k
    rw [dueF_s1 h5 (by rw [ih]; split <;> simp <;> omega), ih]
    by_cases c : k % 2 = 0
    · rw [if_pos c, if_neg (by omega)]; rfl
    · rw [if_neg c, if_pos (by omega)]; rfl
theorem pow_law {x y wd : Int} (h5 : 5 ≤ wd) : powA x y wd = if y < 0 then .error 2 else chk (dueF x wd (dueN x y)) wd := by
  have hp := hw_ge h5
  unfold powA
  by_cases hy : y < 0
  · rw [if_pos hy, if_pos hy]
  rw [if_neg hy, if_neg hy]
  by_cases hy0 : y = 0
  · subst hy0
    have e : dueN x 0 = 0 := by
      unfold dueN
      by_cases c : 1 < (if x < 0 then -x else x)
      · rw [if_pos c]; rfl
      · rw [if_neg c]; rfl
    rw [if_pos (.inr rfl), if_pos rfl, e, dueF]
    exact (chk_if (by omega)).symm
  have hf : y.fmod 2 = y % 2 := Int.fmod_eq_emod_of_nonneg _ (by decide)
  by_cases h0 : x = 0
  · subst h0
    rw [if_pos (.inl (by decide)), if_neg hy0]
    have : ∃ k, dueN 0 y = k + 1 := ⟨dueN 0 y - 1, by
      have : 1 ≤ dueN 0 y := by
        unfold dueN; rw [hf]; simp; split <;> omega
      omega⟩
    obtain ⟨k, e⟩ := this
    rw [e, due_0 h5]
    exact (chk_if (by omega)).symm
  by_cases h1 : x = 1
  · subst h1
    rw [if_pos (.inl (by decide)), if_neg hy0, due_1 h5]
    exact (chk_if (by omega)).symm
  have hn : ¬ (([0, 1].any fun z => z == x) = true ∨ y = 0) := by
    rintro (z | z)
    · simp only [List.any_cons, List.any_nil, Bool.or_false, Bool.or_eq_true, beq_iff_eq] at z
      omega
    · exact hy0 z
  rw [if_neg hn]
  by_cases hm : x = -1
  · subst hm
    rw [if_pos rfl, due_m h5]
    have e : dueN (-1) y % 2 = 0 ↔ y.fmod 2 = 0 := by
      unfold dueN; rw [hf]
      simp only [show ¬ (1 : Int) < (if (-1 : Int) < 0 then - -1 else -1) by decide, if_false]
      split <;> omega
    by_cases c : y.fmod 2 = 0
    · rw [if_pos c, if_pos (e.mpr c)]; exact (chk_if (by omega)).symm
    · rw [if_neg c, if_neg (fun z => c (e.mp z))]; exact (chk_if (by omega)).symm
  rw [if_neg hm]
  have hx : 2 ≤ x.natAbs := by omega
  have en : dueN x y = y.toNat := by
    unfold dueN; rw [abs_nat, if_pos (by omega)]; omega
  rw [en]
  by_cases hw1 : wd < y
  · rw [if_pos hw1]
    refine (chk_not fun z => ?_).symm
    have h2 : (2 : Int) ^ wd.toNat ≤ ((2 ^ y.toNat : Nat) : Int) := by
      have := Nat.pow_le_pow_right (n := 2) (by decide) (show wd.toNat ≤ y.toNat by omega)
      have h3 : ((2 ^ wd.toNat : Nat) : Int) ≤ ((2 ^ y.toNat : Nat) : Int) := Int.ofNat_le.mpr this
      rw [Int.natCast_pow] at h3
      exact h3
    rw [hw_two h5] at h2
    rcases due_big (x := x) h5 hx y.toNat with h | h <;> omega
  · rw [if_neg hw1]
    have := powL_due (x := x) h5 hx y.toNat 0 (by rw [dueF]; omega)
    rw [Nat.zero_add] at this
    exact this
theorem div_law {x y : Int} : divD x y = Int.tdiv x y := by
  cases h : (decide (x < 0) == decide (y < 0)) with
  | true => rw [due_d1 h, Int.mul_one]; exact absdiv_t h
  | false => rw [due_d2 h, Int.mul_neg, Int.mul_one]; exact absdiv_f h
theorem bin_law {o : Op} {p q : Pv} {wd : Int} (h5 : 5 ≤ wd) : binA o p q wd = dueA o (p.whole wd) (q.whole wd) wd := by
  unfold binA dueA
  cases p.whole wd with
  | none => rfl
  | some x =>
    cases q.whole wd with
    | none => rfl
    | some y =>
      cases o with
      | div => show (if y = 0 then _ else chk (Int.tdiv x y) wd) = if y = 0 then _ else chk (divD x y) wd; rw [div_law]
      | pow => exact pow_law h5
      | bang => exact pow_law h5
      | _ => rfl
theorem un_law {p : Pv} {wd : Int} : unA true p wd = dueA .sub (match p.whole wd with | none => none | some _ => some 0) (p.whole wd) wd := by
  unfold unA dueA
  cases p.whole wd with
  | none => rfl
  | some x => show chk (-x) wd = chk (0 - x) wd; rw [Int.zero_sub]
theorem rem_law {x y : Int} (_hy : y ≠ 0) : x - y * Int.tdiv x y = (if x < 0 then -x else x).fmod (if y < 0 then -y else y) * (if 0 ≤ x then 1 else -1) := by
  rw [← Int.tmod_def]
  have hay : 0 ≤ (if y < 0 then -y else y) := by split <;> omega
  have hax : 0 ≤ (if x < 0 then -x else x) := by split <;> omega
  rw [Int.fmod_eq_tmod_of_nonneg hax hay]
  have e1 : (if x < 0 then -x else x).tmod (if y < 0 then -y else y) = (if x < 0 then -x else x).tmod y := by
    by_cases c : y < 0
    · rw [if_pos c, Int.tmod_neg]
    · rw [if_neg c]
  rw [e1]
  by_cases c : x < 0
  · rw [if_pos c, if_neg (by omega), Int.neg_tmod, Int.mul_neg, Int.mul_one, Int.neg_neg]
  · rw [if_neg c, if_pos (by omega), Int.mul_one]

end
end Mine
namespace Mine
section

theorem reg47 : True := by
  k_with_none
  k_with "m room" => (exact rm1 (by assumption) (by exact rfl))
  k_with "m units" => (exact rm2 (by assumption) (by exact rfl))
  k_with "m ctr" => (((case k1Z => k_asm); (case k2Z => k_asm); (case k3Z => k_asm); (case k4Z => k_asm); (case k5Z => k_asm); (case kKZ => first | exact rfl | assumption); (case kdZ => ktr_room); (case kuZ => ktr_units)))
  k_with "m exec Raise some none" => ((k_here; k_dflt (refine raise_exec (w := ‹World›) rfl ?_)))
  k_with "m RaisePost" => ((refine ⟨_, _, _, rfl, News.get (by k_asm) (List.Mem.tail _ (List.Mem.head _)), by k_in, ?_⟩))
  k_with "m call ref" => ((k_here; k_dflt ( (with_reducible show wpAny _ _ (call (Value.ref 34) _ _) _ _ _); refine' exc_made _ _ _ _ _ _ _ _ _ _ _ _ _ _ _ _ _ _ _ _ _ ?k1Z ?k2Z ?k3Z ?k4Z ?k5Z ?kAZ ?kFZ ?kKZ ?kRZ ?_; (case kAZ => exact rfl); (case k1Z => k_asm); (case k2Z => k_asm); (case k3Z => k_asm); (case k4Z => k_asm); (case k5Z => k_asm); (case kFZ => exact rfl); (case kKZ => first | exact rfl | assumption); (case kRZ => ktr_room); intro e9k d9k t9k k9k k9k' h9k tk9k F9k N9k ne9k lt9k; (try dsimp only))))
  k_with "m leaving" => ((k_here; k_dflt (first | (refine' leave_madeD ?k1Z ?k2Z ?k3Z (List.Mem.tail _ (List.Mem.head _)) (List.Mem.head _) ?k4Z ?_; (case k1Z => k_asm); (case k2Z => k_asm); (case k3Z => k_asm); (case k4Z => exact fun p hp => ⟨List.Mem.tail _ (List.Mem.tail _ hp), by solve_by_elim⟩); intro h9k B9k U9k) | (refine' leave_onD ?k1Z ?k2Z ?k3Z ?k4Z ?_; (case k1Z => k_asm); (case k2Z => k_asm); (case k3Z => k_asm); (case k4Z => k_asm); intro h9k B9k U9k))))
  k_with "m mem" => (first | exact List.mem_cons_self | (refine' List.mem_cons_of_mem _ ?_; k_mem))
  k_with "m news" => (first | with_reducible assumption | assumption | exact ndrop (by assumption) | exact ndrop (ndrop (by assumption)) | exact ndrop (ndrop (ndrop (by assumption))))
  k_with "m eval Call Name" => ((k_here; (fail_if_success (with_reducible show wpAny _ _ (eval (Expr.Call (Expr.Name "range" _) _ _ _) _) _ _ _)); k_dflt (refine Call_ ?_)))
  k_with "m boom" => (first | with_reducible assumption | exact Boom.sub (by assumption) (fun p hp => List.Mem.tail _ hp) | exact Boom.sub (by assumption) (fun p hp => List.Mem.tail _ (List.Mem.tail _ hp)) | exact Boom.sub (by assumption) (fun p hp => List.Mem.tail _ (List.mem_append.mpr (Or.inl hp))) | exact Boom.sub (by assumption) (fun p hp => List.mem_append.mpr (Or.inl hp)))
  k_with "m led" => (first | exact fun _ h => h | exact fun _ h => List.Mem.tail _ h | exact fun _ h => List.Mem.tail _ (List.Mem.tail _ h) | exact fun _ h => List.Mem.tail _ (List.Mem.tail _ (List.Mem.tail _ h)) | exact fun _ h => List.mem_append.mpr (Or.inr h) | exact fun _ h => List.mem_append.mpr (Or.inl h) | exact fun _ h => List.Mem.tail _ (List.mem_append.mpr (Or.inr h)) | exact fun _ h => List.mem_append.mpr (Or.inr (List.mem_append.mpr (Or.inr h))) | exact fun _ h => List.mem_append.mpr (Or.inr (List.Mem.tail _ h)))
  k_with "m call ref" => ((k_here; k_dflt (refine' call_cls ?k1Z ?k2Z ?k3Z ?k4Z ?k5Z ?k6Z ?_; (case k1Z => k_asm); (case k2Z => k_asm); (case k3Z => k_asm); (case k4Z => k_is); (case k5Z => k_is); (case k6Z => k_is); k_whole; intro x' d' h' F' N' l1k l2k; (try k_lt l1k); (try k_lt2 l2k); (try k_sweep); (refine' code_def ?k1Z ?k2Z ?k3Z ?k4Z ?k5Z ?kAZ ?kFZ ?kKZ ?k6Z ?k7Z ?k8Z ?k9Z ?kBZ ?_ ?c2Z ?c3Z ?c4Z ?c5Z; (case kAZ => exact rfl); (case kFZ => exact rfl); (case kKZ => first | exact rfl | assumption); (case k1Z => k_asm); (case k2Z => k_asm); (case k3Z => k_asm); (case k4Z => k_asm); (case k5Z => k_asm); (case k6Z => k_is); (case k7Z => k_is); (case k8Z => ktr_room); (case k9Z => exact BindsTo.of_eq rfl); (case c5Z => decide); (case kBZ => exact locs rfl); (case c2Z => exact rfl); (case c3Z => exact rfl); (case c4Z => exact rfl); k_whole; intro g' L' h' FG' F' N' B' X' T'; (try dsimp only); (try k_fold)))))
  k_with "m ite" => ((k_here; k_openite; with_reducible first | refine ite_pos (by assumption) ?_ | refine ite_neg (by assumption) ?_ | refine ite_isFalse (by assumption) ?_ | (refine split_ine ?_ ?_ <;> intro _) | (refine split_ieq ?_ ?_ <;> intro _) | refine split_not ?_ | (refine split_dec ?_ ?_ <;> intro _) | (refine split_bool ?_ ?_ <;> intro _)))
  k_with "m ite" => ((with_reducible first | refine ite_tt ?_ | refine ite_ff ?_))
  k_with "m testChain" => (dsimp only)
  k_with "m evalPairs" => (dsimp only)
  k_with "m compareChain" => (dsimp only)
  k_with "m ite" => ((k_closed; first | ((with_reducible refine ite_cf ?chZ ?_); (case chZ => decide +kernel)) | ((with_reducible refine ite_ct ?chZ ?_); (case chZ => decide +kernel))))
  k_with "m InvEndN" => (k_dflt kst_close)
  exact True.intro
noncomputable abbrev qualJ : Str := (nm "_law_joined_right" ++ nm ".<locals>.") ++ nm "<lambda>"
noncomputable def CodeJ (h : Heap) : Prop := CodeHd h 344 340
noncomputable def CtrJ (w : World) (k : Nat) (args : List Value) (ps : Array Value) (st rest : Led) : Prop :=
  ∀ (dp un : Nat) (gd : Option (List Code)) (cn : Str) (cs : Scope) (a : Addr) (ccd : Value) (cl : List (Str × Addr)) (outer : List Env) (A₀ : Around) (base h₀ : Heap) (L : Addr) (m : Str → Option Value)
    (loose : List Str) (mean : ExcName → Option Value) (mg mb : Str → Option Value) (s : Shared) (Q E : Value → Shared → Prop),
    Below A₀ base outer h₀ → Fr h₀ L s.heap m → (mkK.heap_1 w.params).In h₀ → News h₀ L s.heap ((340, tabObj ps) :: rest) → Top topProg loose mean mg mb h₀ → cs.kind = .function → (mkK.heap_1 w.params).In base → Top topProg loose mean mg mb base → CodeJ base →
    dp + k < recursionLimit → un + 8 * k < cLine →
    (∀ ps' tl h' tk' h₀', KtsTurn (outer.filterMap (·.frame)) h₀ h₀' → Fr h₀' L h' m → News h₀' L h' ((340, tabObj ps') :: (tl ++ rest)) → Below A₀ base outer h₀' → (mkK.heap_1 w.params).In h₀' → Top topProg loose mean mg mb h₀' → TabOk (tl ++ st) qualJ ps' →
      (∀ q ∈ tl, 340 < q.1 ∧ ∀ p ∈ rest, p.1 < q.1) → ∀ t, t = true → Q (.bool t) { s with heap := h', toks := tk' }) →
    wpAny (model PySem.Challenge.rw_np0295_01.row.prog w) (ktrTop dp un gd cn cs L a ccd cl outer) (call (.ref 345) args) Q E s
theorem code_ok {h₀ h : Heap} {L c' : Addr} {news : Led} {qual : Str} (N : News h₀ L h news) (x : CodeOk news qual c') : h.CodeRec (.ref c') qual :=
  let ⟨_, _, _, a, b, c⟩ := x; codeRec_news N a b c
theorem sub5 {a b c d e : Addr × Obj} {tl st rest : Led} (hst : ∀ p ∈ st, p ∈ rest) : ∀ p ∈ tl ++ st, p ∈ a :: b :: c :: d :: e :: (tl ++ rest) := fun p hp => .tail _ (.tail _ (.tail _ (.tail _ (.tail _ ((List.mem_append.mp hp).elim (fun h => List.mem_append_left _ h) fun h => List.mem_append_right _ (hst p h))))))
theorem nfix3 {h₀ h : Heap} {L : Addr} {x y a b c : Addr × Obj} {tl rest : Led} (N : News h₀ L h (x :: y :: (tl ++ a :: b :: c :: rest))) : News h₀ L h (x :: y :: a :: b :: c :: (tl ++ rest)) := fun p hp => N p (by
  simp only [List.mem_cons, List.mem_append] at hp ⊢
  rcases hp with h | h | h | h | h | h | h <;> simp only [h, true_or, or_true])
theorem own3 {f P : Addr} {a b c : Addr × Obj} {tl rest : Led} (h : ∀ q ∈ tl, P < q.1 ∧ q.1 < f ∧ ∀ p ∈ a :: b :: c :: rest, p.1 < q.1) : ∀ q ∈ tl, P < q.1 ∧ ∀ p ∈ rest, p.1 < q.1 := fun q hq => ⟨(h q hq).1, fun p hp => (h q hq).2.2 p (.tail _ (.tail _ (.tail _ hp)))⟩
noncomputable def resOf : Except Int Pv → Res
  | .ok x => .val x
  | .error n => .err n
theorem CtrT.use {w : World} {k : Nat} {f : Addr} {args : List Value} {news : Led} {Ok : Value → Led → Prop} (C : CtrT w k f args news Ok)
    {dp un : Nat} {gd : Option (List Code)} {cn : Str} {cs : Scope} {a : Addr} {ccd : Value} {cl : List (Str × Addr)} {outer : List Env} {A₀ : Around} {base h₀ : Heap} {L : Addr} {m : Str → Option Value}
    {loose : List Str} {mean : ExcName → Option Value} {mg mb : Str → Option Value} {s : Shared} {Q E : Value → Shared → Prop}
    (B : Below A₀ base outer h₀) (F : Fr h₀ L s.heap m) (X : (mkK.heap_1 w.params).In h₀) (N : News h₀ L s.heap news) (T : Top topProg loose mean mg mb h₀) (hk : cs.kind = .function) (XB : (mkK.heap_1 w.params).In base) (TB : Top topProg loose mean mg mb base) (hd : dp + k < recursionLimit) (hu : un + 8 * k < cLine)
    (ret : ∀ r tl h' tk' h₀', KtsTurn (outer.filterMap (·.frame)) h₀ h₀' → Fr h₀' L h' m → News h₀' L h' (tl ++ news) → Below A₀ base outer h₀' → (mkK.heap_1 w.params).In h₀' → Top topProg loose mean mg mb h₀' → Ok r tl → Q r { s with heap := h', toks := tk' }) :
    wpAny (model PySem.Challenge.rw_np0295_01.row.prog w) (ktrTop dp un gd cn cs L a ccd cl outer) (call (.ref f) args) Q E s := C _ _ _ _ _ _ _ _ _ _ _ _ _ _ _ _ _ _ _ _ _ B F X N T hk XB TB hd hu ret
theorem heardR {w : World} {k : Nat} {fa : Addr} {fd : FuncData} {oc : Value} {od : Option Addr} {osl : Array (Option Value)} {news : Led} {R : Except Int Pv} (hfa : (fa, (⟨oc, od, .func fd, osl⟩ : Obj)) ∈ news) (C : Ctr w k fa [] news (fun r tl => ∃ x, R = .ok x ∧ IsPv w (tl ++ news) r x) (fun e => R = .error e)) :
   CtrT w (k + 3) 317 [.ref fa] news (fun r tl => IsRes w (tl ++ news) r (resOf R)) := by
  intro dp un gd cn cs a ccd cl outer A₀ base h₀ L m loose mean mg mb s Q E B F X N T hk XB TB hd hu ret
  refine CtrT.use (c_heard w k fa fd oc od osl news hfa _ _ C) B F X N T hk XB TB hd hu fun r tl h' tk' h₀' T' F' N' B' X' TT' o => ret r tl h' tk' h₀' T' F' N' B' X' TT' ?_
  rcases o with ⟨x, e, h⟩ | ⟨n, e, h⟩
  · rw [e]; exact h
  · rw [e]; exact h
theorem heardA {w : World} {k : Nat} {fa : Addr} {fd : FuncData} {oc : Value} {od : Option Addr} {osl : Array (Option Value)} {news : Led} {A : Ans} (hfa : (fa, (⟨oc, od, .func fd, osl⟩ : Obj)) ∈ news) (C : Ctr w k fa [] news (fun r tl => tl = [] ∧ ∃ n t, r = .int n t ∧ A = .ok n) (fun e => A = .error e)) :
   CtrT w (k + 3) 317 [.ref fa] news (fun r tl => IsAns (tl ++ news) r A) := by
  intro dp un gd cn cs a ccd cl outer A₀ base h₀ L m loose mean mg mb s Q E B F X N T hk XB TB hd hu ret
  refine CtrT.use (c_heard w k fa fd oc od osl news hfa _ _ C) B F X N T hk XB TB hd hu fun r tl h' tk' h₀' T' F' N' B' X' TT' o => ret r tl h' tk' h₀' T' F' N' B' X' TT' ?_
  rcases o with ⟨_, n, t, e, h⟩ | ⟨n, e, h⟩
  · rw [e, h]; exact .ok _ _
  · rw [e]; exact .err h
theorem nrot3 {h₀ h : Heap} {L : Addr} {a b c x : Addr × Obj} {news : Led} (N : News h₀ L h (a :: b :: c :: x :: news)) : News h₀ L h (x :: a :: b :: c :: news) := fun p hp => N p (by
  simp only [List.mem_cons] at hp ⊢
  rcases hp with h | h | h | h | h
  · exact .inr (.inr (.inr (.inl h)))
  · exact .inl h
  · exact .inr (.inl h)
  · exact .inr (.inr (.inl h))
  · exact .inr (.inr (.inr (.inr h))))
theorem dg_ne : ∀ (f n : Nat) (acc : List Nat), acc ≠ [] → dg f n acc ≠ []
  | 0, _, acc => fun h => h
  | f + 1, n, acc => fun h => by
    unfold dg
    split
    · exact h
    · exact dg_ne f _ _ (List.cons_ne_nil _ _)
theorem str_cps {x : Str} (h : (x == nm "") = true) : x.cps.toList = [] := by
  rw [eq_of_beq h]; decide +kernel
theorem tow_ne (i : Int) : (tow i == nm "") = false := by
  rw [Bool.eq_false_iff]
  intro h
  have h := str_cps h
  have k : dg 40 i.natAbs [] ≠ [] := by
    show (if i.natAbs = 0 ∧ ([] : List Nat) ≠ [] then _ else dg 39 _ _) ≠ []
    rw [if_neg (fun z => z.2 rfl)]
    exact dg_ne 39 _ _ (List.cons_ne_nil _ _)
  unfold tow at h
  split at h
  · have h : ((nm "-").cps ++ (dg 40 i.natAbs []).toArray).toList = [] := h
    rw [Array.toList_append] at h
    exact k (List.append_eq_nil_iff.mp h).2
  · exact k h
theorem nn_t {p : Pv} {x : Str} (tx : p.ltext = p.text) (h : p.ltext = some x) (e : (x == nm "") = true) : p.isNull = true := by
  rw [tx] at h
  cases p with
  | int i => cases h; rw [tow_ne] at e; cases e
  | str y => cases h; exact e
  | _ => cases h
theorem nn_f {p : Pv} {x : Str} (tx : p.ltext = p.text) (h : p.ltext = some x) (e : (x == nm "") = false) : p.isNull = false := by
  rw [tx] at h
  cases p with
  | str y => cases h; exact e
  | _ => rfl
theorem nn_n {p : Pv} (h : p.ltext = none) : p.isNull = false := by
  cases p with
  | str y => cases h
  | _ => rfl
theorem np_n {p : Pv} (h : p.ltext = none) : p.isPlain = false := by
  cases p with
  | str y => cases h
  | int y => cases h
  | _ => rfl
theorem np_t {p : Pv} {x : Str} (h : p.ltext = some x) : p.isPlain = true := by
  cases p with
  | str y => rfl
  | int y => rfl
  | _ => cases h
section
variable {w : World} {led : Led} {v : Value} {p q : Pv} {ml : Int} {x y : Str}
theorem res_of {r : Except Int Pv} {z : Res} (e : r = match z with | .val p => .ok p | .err k => .error k) (h : IsRes w led v z) : IsRes w led v (resOf r) := by
  cases z <;> (subst e; exact h)
theorem res_q (tx1 : p.ltext = p.text) (h1 : p.ltext = some x) (e : (x == nm "") = true) (h : IsPv w led v q) : IsRes w led v (resOf (joinR p q ml)) := by rw [jr_1 (nn_t tx1 h1 e)]; exact h
theorem res_p (k : p.isNull = false) (tx2 : q.ltext = q.text) (h2 : q.ltext = some y) (e : (y == nm "") = true) (h : IsPv w led v p) : IsRes w led v (resOf (joinR p q ml)) := by rw [jr_2 k (nn_t tx2 h2 e)]; exact h
theorem res_t {t : Tok} (tx1 : p.ltext = p.text) (tx2 : q.ltext = q.text) (h1 : p.ltext = some x) (h2 : q.ltext = some y) (e1 : (x == nm "") = false) (e2 : (y == nm "") = false) (l : ((x ++ y).length : Int) ≤ ml) : IsRes w led (.str (x ++ y) t) (resOf (joinR p q ml)) := by
  rw [jr_3 (nn_f tx1 h1 e1) (nn_f tx2 h2 e2) (np_t h1) (np_t h2) (tx1.symm.trans h1) (tx2.symm.trans h2) l]; exact IsPv.str _ _
theorem res_15 (tx1 : p.ltext = p.text) (tx2 : q.ltext = q.text) (h1 : p.ltext = some x) (h2 : q.ltext = some y) (e1 : (x == nm "") = false) (e2 : (y == nm "") = false) (l : ml < ((x ++ y).length : Int)) (D : DatIn led v (errD 15)) : IsRes w led v (resOf (joinR p q ml)) := by
  rw [jr_4 (nn_f tx1 h1 e1) (nn_f tx2 h2 e2) (np_t h1) (np_t h2) (tx1.symm.trans h1) (tx2.symm.trans h2) l]; exact D
theorem res_1 (k1 : p.isNull = false) (k2 : q.isNull = false) (h3 : p.isPlain = false ∨ q.isPlain = false) (h4 : p.isPart = false ∨ q.isPart = false) (h : IsRes w led v (resOf (joinR p q ml))) : DatIn led v (errD 1) := by
  rw [jr_5 k1 k2 h3 h4] at h; exact h
theorem res_d {a b : Leaf} (k1 : p.isNull = false) (k2 : q.isNull = false) (h3 : p.isPlain = false ∨ q.isPlain = false) (h4 : p.isPart = true) (h5 : q.isPart = true) (l1 : p.leaf = some a) (l2 : q.leaf = some b) (h : IsPv w led v (.pat (joinD a b))) : IsRes w led v (resOf (joinR p q ml)) := by
  rw [jr_6 k1 k2 h3 h4 h5 l1 l2]; exact h
end
theorem leaf_kqd7 {a : Leaf} (h : a.ok) : kqdOk 7 a.dat = true := by
  cases a with
  | chars x => simp only [Leaf.dat, kqdOk, List.all_cons, List.all_nil, Bool.and_true, Bool.and_eq_true]; exact ⟨by decide +kernel, h.2⟩
  | len n => simp only [Leaf.dat, kqdOk, List.all_cons, List.all_nil, Bool.and_true, Bool.and_eq_true]; decide +kernel
  | del => decide +kernel
theorem strOk_app {x y : Str} (h : PyData.strOk x = true) (k : PyData.strOk y = true) : PyData.strOk (x ++ y) = true := by
  unfold PyData.strOk at *
  show (x.cps ++ y.cps).all _ = true
  rw [Array.all_append, h, k]; rfl
theorem two_kqd {s : Str} {d e : Dat} (h : PyData.strOk s = true) (h1 : kqdOk 7 d = true) (h2 : kqdOk 7 e = true) : kqdOk 8 (.tuple [.str s, d, e]) = true := by
  simp only [kqdOk, List.all_cons, List.all_nil, Bool.and_true, Bool.and_eq_true]
  exact ⟨h, h1, h2⟩
theorem joinD_kqd {a b : Leaf} (h : a.ok) (k : b.ok) : kqdOk 8 (joinD a b) = true := by
  unfold joinD
  by_cases h1 : a.isNull = true
  · rw [if_pos h1]; exact Leaf.kqd k
  rw [if_neg h1]
  by_cases h2 : b.isNull = true
  · rw [if_pos h2]; exact Leaf.kqd h
  rw [if_neg h2]
  cases a with
  | chars x =>
    cases b with
    | chars y =>
      simp only [kqdOk, List.all_cons, List.all_nil, Bool.and_true, Bool.and_eq_true]
      exact ⟨by decide +kernel, strOk_app h.2 k.2⟩
    | _ => exact two_kqd (by decide +kernel) (leaf_kqd7 h) (leaf_kqd7 k)
  | _ => exact two_kqd (by decide +kernel) (leaf_kqd7 h) (leaf_kqd7 k)
theorem pv_res {p : Pv} (h : p.ok) : (Res.val p).ok := by
  cases p with
  | pat d => obtain ⟨n, rfl⟩ := h; exact Leaf.kqd (l := .len n) trivial
  | _ => trivial
theorem joinR_ok {p q : Pv} {ml : Int} (h : p.ok) (k : q.ok) : (resOf (joinR p q ml)).ok := by
  unfold joinR
  split
  · exact pv_res k
  split
  · exact pv_res h
  split
  · split
    · split <;> trivial
    · trivial
  split
  · trivial
  split
  · rename_i a b e1 e2
    exact joinD_kqd (leaf_ok e1 h) (leaf_ok e2 k)
  · trivial
theorem ltext_ok {p : Pv} {x : Str} (tx : p.ltext = p.text) (h : p.ltext = some x) (ok : p.ok) : okS x := text_okS (tx.symm.trans h) ok
section
variable {prog : Program} {w : World} {A : Around} {E : Value → Shared → Prop} {s : Shared} {h₀ : Heap} {L l : Addr} {news : Led} {Q : Value → Shared → Prop} {a b : Value} {nn : Nat}
theorem two_0 {value slice : Expr} {u : Tok} (N : News h₀ L s.heap news) (hm : (l, listOf #[a, b] nn) ∈ news) (h : Q a s)
    (hs : subscripted slice false (.ref l) (.int 0 u) = operate [.ref l, .int 0 u] (getItem (.ref l) (.int 0 u)) := by with_unfolding_all rfl) : wpAny (model prog w) A (subscriptTail value slice (.ref l) (.int 0 u)) Q E s :=
  have L1 := News.isList N hm
  tail_any L1.typeIs slot_list_getitem.lookup (wpAny_getItem_list L1 (by decide) (by decide) rfl h) hs
theorem two_1 {value slice : Expr} {u : Tok} (N : News h₀ L s.heap news) (hm : (l, listOf #[a, b] nn) ∈ news) (h : Q b s)
    (hs : subscripted slice false (.ref l) (.int 1 u) = operate [.ref l, .int 1 u] (getItem (.ref l) (.int 1 u)) := by with_unfolding_all rfl) : wpAny (model prog w) A (subscriptTail value slice (.ref l) (.int 1 u)) Q E s :=
  have L1 := News.isList N hm
  tail_any L1.typeIs slot_list_getitem.lookup (wpAny_getItem_list L1 (by decide) (by decide) rfl h) hs
theorem ltext_ok' {p : Pv} {x : Str} (h : p.ltext = some x) (tx : p.ltext = p.text) (ok : p.ok) : okS x := ltext_ok tx h ok
theorem cat_len {x y : Str} (h : okS x) (k : okS y) : ¬ ((x ++ y).length : Int) ≥ 2 ^ 63 := by
  have h1 := h.1
  have k1 := k.1
  have e : (x ++ y).length = x.cps.size + y.cps.size := by show (x.cps ++ y.cps).size = _; rw [Array.size_append]
  rw [e]
  omega
theorem n_drop2 {h₀ h : Heap} {L : Addr} {x : Addr × Obj} {big R : Led} (N : News h₀ L h big) (h1 : x ∈ big) (h2 : ∀ p ∈ R, p ∈ big) : News h₀ L h (x :: R) := fun p hp => N p ((List.mem_cons.mp hp).elim (fun e => e ▸ h1) (h2 p))
theorem none_notin {da db : Dat} (N : News h₀ L s.heap news) (hm : (l, listOf #[a, b] nn) ∈ news) (Da : DatIn news a da) (Db : DatIn news b db) (ka : kqdOk 8 da = true) (kb : kqdOk 8 db = true) (hu : A.units + 64 < cLine) {r : Bool} (hr : r = true ↔ ¬ (da = .none ∨ db = .none)) (h : Q (.bool r) s) : wpAny (model prog w) A (compareOp .NotIn .none (.ref l)) Q E s := by
  refine kqd_notIn N hm rfl rfl (xs := [a, b]) (ds := [da, db]) (n₁ := news) (.cons Da (.cons Db .nil)) (fun _ h => h) (n₂ := news) (d := .none) .none (fun _ h => h) ?_ rfl hu ?_
  · intro d hd
    rcases List.mem_cons.mp hd with rfl | hd
    · exact ka
    · rw [List.mem_singleton.mp hd]; exact kb
  · have e : ∀ i : Decidable (Dat.none ∈ [da, db]), (!@decide _ i) = r := by
      intro i
      rw [Bool.eq_iff_iff, Bool.not_eq_true', decide_eq_false_iff_not, hr]
      simp only [List.mem_cons, List.not_mem_nil, or_false]
      constructor
      · rintro h (h1 | h1)
        · exact h (.inl h1.symm)
        · exact h (.inr h1.symm)
      · rintro h (h1 | h1)
        · exact h (.inl h1.symm)
        · exact h (.inr h1.symm)
    rw [e]; exact h
end
theorem taboff3 {L P : Nat} {o1 o2 o3 : Obj} {rest : Led} (h : P < L) (hr : ∀ p ∈ rest, p.1 ≠ P) : ∀ p ∈ ((L + 1 + 1 + 1, o1) :: (L + 1 + 1, o2) :: (L + 1, o3) :: rest : Led), p.1 ≠ P :=
  List.forall_mem_cons.mpr ⟨show L + 1 + 1 + 1 ≠ P by omega, List.forall_mem_cons.mpr ⟨show L + 1 + 1 ≠ P by omega, List.forall_mem_cons.mpr ⟨show L + 1 ≠ P by omega, hr⟩⟩⟩
theorem IsRes.mono {w : World} {news news' : Led} {v : Value} {x : Res} (h : IsRes w news v x) (hs : ∀ q ∈ news, q ∈ news') : IsRes w news' v x := by
  cases x with
  | val p => exact IsPv.mono h hs
  | err k => exact datMono h hs
theorem nsub4 {x f a b c : Addr × Obj} {tl R : Led} : ∀ p ∈ tl ++ (x :: f :: a :: b :: c :: R), p ∈ x :: a :: b :: c :: (tl ++ (f :: R)) := fun p hp => by
  simp only [List.mem_cons, List.mem_append] at hp ⊢
  rcases hp with h | h | h | h | h | h | h <;> simp only [h, true_or, or_true]
theorem nfix4 {h₀ h : Heap} {L : Addr} {x f a b c : Addr × Obj} {tl R : Led} (N : News h₀ L h (tl ++ (x :: f :: a :: b :: c :: R))) : News h₀ L h (x :: a :: b :: c :: (tl ++ (f :: R))) := fun p hp => N p (by
  simp only [List.mem_cons, List.mem_append] at hp ⊢
  rcases hp with h | h | h | h | h | h | h <;> simp only [h, true_or, or_true])

end
end Mine
namespace Mine
section
theorem reg48 : True := by
  k_with_none
  k_with "m room" => (exact rm1 (by assumption) (by exact rfl))
  k_with "m units" => (exact rm2 (by assumption) (by exact rfl))
  k_with "m ctr" => (((case k1Z => k_asm); (case k2Z => k_asm); (case k3Z => k_asm); (case k4Z => k_asm); (case k5Z => k_asm); (case kKZ => first | exact rfl | assumption); (case kdZ => ktr_room); (case kuZ => ktr_units)))
  k_with "m exec Raise some none" => ((k_here; k_dflt (refine raise_exec (w := ‹World›) rfl ?_)))
  k_with "m RaisePost" => ((refine ⟨_, _, _, rfl, News.get (by k_asm) (List.Mem.tail _ (List.Mem.head _)), by k_in, ?_⟩))
  k_with "m call ref" => ((k_here; k_dflt ( (with_reducible show wpAny _ _ (call (Value.ref 34) _ _) _ _ _); refine' exc_made _ _ _ _ _ _ _ _ _ _ _ _ _ _ _ _ _ _ _ _ _ ?k1Z ?k2Z ?k3Z ?k4Z ?k5Z ?kAZ ?kFZ ?kKZ ?kRZ ?_; (case kAZ => exact rfl); (case k1Z => k_asm); (case k2Z => k_asm); (case k3Z => k_asm); (case k4Z => k_asm); (case k5Z => k_asm); (case kFZ => exact rfl); (case kKZ => first | exact rfl | assumption); (case kRZ => ktr_room); intro e9k d9k t9k k9k k9k' h9k tk9k F9k N9k ne9k lt9k; (try dsimp only))))
  k_with "m leaving" => ((k_here; k_dflt (first | (refine' leave_madeD ?k1Z ?k2Z ?k3Z (List.Mem.tail _ (List.Mem.head _)) (List.Mem.head _) ?k4Z ?_; (case k1Z => k_asm); (case k2Z => k_asm); (case k3Z => k_asm); (case k4Z => exact fun p hp => ⟨List.Mem.tail _ (List.Mem.tail _ hp), by solve_by_elim⟩); intro h9k B9k U9k) | (refine' leave_onD ?k1Z ?k2Z ?k3Z ?k4Z ?_; (case k1Z => k_asm); (case k2Z => k_asm); (case k3Z => k_asm); (case k4Z => k_asm); intro h9k B9k U9k))))
  k_with "m mem" => (first | exact List.mem_cons_self | (refine' List.mem_cons_of_mem _ ?_; k_mem))
  k_with "m news" => (first | with_reducible assumption | assumption | exact ndrop (by assumption) | exact ndrop (ndrop (by assumption)) | exact ndrop (ndrop (ndrop (by assumption))))
  k_with "m eval Call Name" => ((k_here; (fail_if_success (with_reducible show wpAny _ _ (eval (Expr.Call (Expr.Name "range" _) _ _ _) _) _ _ _)); k_dflt (refine Call_ ?_)))
  k_with "m boom" => (first | with_reducible assumption | exact Boom.sub (by assumption) (fun p hp => List.Mem.tail _ hp) | exact Boom.sub (by assumption) (fun p hp => List.Mem.tail _ (List.Mem.tail _ hp)) | exact Boom.sub (by assumption) (fun p hp => List.Mem.tail _ (List.mem_append.mpr (Or.inl hp))) | exact Boom.sub (by assumption) (fun p hp => List.mem_append.mpr (Or.inl hp)))
  k_with "m led" => (first | exact fun _ h => h | exact fun _ h => List.Mem.tail _ h | exact fun _ h => List.Mem.tail _ (List.Mem.tail _ h) | exact fun _ h => List.Mem.tail _ (List.Mem.tail _ (List.Mem.tail _ h)) | exact fun _ h => List.mem_append.mpr (Or.inr h) | exact fun _ h => List.mem_append.mpr (Or.inl h) | exact fun _ h => List.Mem.tail _ (List.mem_append.mpr (Or.inr h)) | exact fun _ h => List.mem_append.mpr (Or.inr (List.mem_append.mpr (Or.inr h))) | exact fun _ h => List.mem_append.mpr (Or.inr (List.Mem.tail _ h)))
  k_with "m call ref" => ((k_here; k_dflt (refine' call_cls ?k1Z ?k2Z ?k3Z ?k4Z ?k5Z ?k6Z ?_; (case k1Z => k_asm); (case k2Z => k_asm); (case k3Z => k_asm); (case k4Z => k_is); (case k5Z => k_is); (case k6Z => k_is); k_whole; intro x' d' h' F' N' l1k l2k; (try k_lt l1k); (try k_lt2 l2k); (try k_sweep); (refine' code_def ?k1Z ?k2Z ?k3Z ?k4Z ?k5Z ?kAZ ?kFZ ?kKZ ?k6Z ?k7Z ?k8Z ?k9Z ?kBZ ?_ ?c2Z ?c3Z ?c4Z ?c5Z; (case kAZ => exact rfl); (case kFZ => exact rfl); (case kKZ => first | exact rfl | assumption); (case k1Z => k_asm); (case k2Z => k_asm); (case k3Z => k_asm); (case k4Z => k_asm); (case k5Z => k_asm); (case k6Z => k_is); (case k7Z => k_is); (case k8Z => ktr_room); (case k9Z => exact BindsTo.of_eq rfl); (case c5Z => decide); (case kBZ => exact locs rfl); (case c2Z => exact rfl); (case c3Z => exact rfl); (case c4Z => exact rfl); k_whole; intro g' L' h' FG' F' N' B' X' T'; (try dsimp only); (try k_fold)))))
  k_with "m ite" => ((k_here; k_openite; with_reducible first | refine ite_pos (by assumption) ?_ | refine ite_neg (by assumption) ?_ | refine ite_isFalse (by assumption) ?_ | (refine split_ine ?_ ?_ <;> intro _) | (refine split_ieq ?_ ?_ <;> intro _) | refine split_not ?_ | (refine split_dec ?_ ?_ <;> intro _) | (refine split_bool ?_ ?_ <;> intro _)))
  k_with "m ite" => ((with_reducible first | refine ite_tt ?_ | refine ite_ff ?_))
  k_with "m testChain" => (dsimp only)
  k_with "m evalPairs" => (dsimp only)
  k_with "m compareChain" => (dsimp only)
  k_with "m ite" => ((k_closed; first | ((with_reducible refine ite_cf ?chZ ?_); (case chZ => decide +kernel)) | ((with_reducible refine ite_ct ?chZ ?_); (case chZ => decide +kernel))))
  k_with "m InvEndN" => (k_dflt kst_close)
  k_with "m eval Name" => ((k_here; (with_reducible first | show wpAny _ _ (eval (Expr.Name (Str.ofString "world") _) (envX qualJ _ _ _ _ _)) _ _ _ | show wpAny _ _ (eval (Expr.Name (Str.ofString "one") _) (envX qualJ _ _ _ _ _)) _ _ _ | show wpAny _ _ (eval (Expr.Name (Str.ofString "other") _) (envX qualJ _ _ _ _ _)) _ _ _); k_dflt (refine' nameX_F ?NZ ?cZ ?mZ ?dZ ?_ ?aZ ?bZ; (case cZ => exact rfl); (case bZ => exact rfl); (case aZ => exact rfl); (case NZ => k_asm); (case mZ => with_reducible k_mem); (case dZ => with_reducible assumption))))
  k_with "m eval Name" => ((k_here; (with_reducible first | show wpAny _ _ (eval (Expr.Name (Str.ofString "world") _) (envOfC (Str.ofString "_law_joined_right") _ _ _ _)) _ _ _ | show wpAny _ _ (eval (Expr.Name (Str.ofString "one") _) (envOfC (Str.ofString "_law_joined_right") _ _ _ _)) _ _ _ | show wpAny _ _ (eval (Expr.Name (Str.ofString "other") _) (envOfC (Str.ofString "_law_joined_right") _ _ _ _)) _ _ _); k_dflt (refine' nameX_C ?NZ ?cZ ?mZ ?dZ ?_ ?aZ ?bZ; (case cZ => exact rfl); (case bZ => exact rfl); (case aZ => exact rfl); (case NZ => k_asm); (case mZ => with_reducible k_mem); (case dZ => with_reducible assumption))))
  k_with "m sub" => (first | with_reducible assumption | (with_reducible refine List.mem_cons_of_mem _ ?_; walk_at "sub") | (with_reducible refine List.mem_append_right _ ?_; walk_at "sub") | (with_reducible refine List.mem_append_left _ ?_; walk_at "sub"))
  k_with "m led" => ((intro q9k h9k; walk_at "sub"))
  k_with "m eval Lambda" => ((k_here; k_dflt (refine' kla_eval ?d0Z ?_; (case d0Z => exact rfl)); k_dflt (refine' lam_any (qual := qualJ) ?FZ ?NZ ?TZ ?CZ ?cdZ ?tbZ ?hneZ ?clZ ?_; (case FZ => k_asm); (case NZ => walk_at "tabfirst"); (case TZ => k_asm); (case cdZ => exact rfl); (case CZ => exact CodeHd.keeps (by assumption : CodeJ _) (Below.stays (by assumption))); (case tbZ => assumption); (case hneZ => walk_at "taboff"); (case clZ => exact rfl); k_whole); intro f' c' ct' ps' tl' h' tk' F' N' tb' co' l1k l2k l3k; replace N' := nfix3 N'; replace l1k := own3 l1k; clear l2k l3k))
  k_with "m tabfirst" => (exact nrot3 (by k_asm))
  k_with "m subscriptTail Name Constant ref int" => ((k_here; (with_reducible show wpAny _ _ (subscriptTail (Expr.Name (Str.ofString "texts") _) _ _ (Value.int 0 _)) _ _ _); k_dflt (refine' two_0 ?k1Z ?k2Z ?_ ?k3Z; (case k1Z => k_asm); (case k2Z => with_reducible k_mem); (case k3Z => with_unfolding_all rfl))))
  k_with "m subscriptTail Name Constant ref int" => ((k_here; (with_reducible show wpAny _ _ (subscriptTail (Expr.Name (Str.ofString "texts") _) _ _ (Value.int 1 _)) _ _ _); k_dflt (refine' two_1 ?k1Z ?k2Z ?_ ?k3Z; (case k1Z => k_asm); (case k2Z => with_reducible k_mem); (case k3Z => with_unfolding_all rfl))))
  k_with "m compareOp NotIn" => ((k_here; (with_reducible show wpAny _ _ (compareOp CmpOp.NotIn Value.none (Value.ref _)) _ _ _); k_dflt (first | (refine' none_notin (da := .str _) (db := .str _) ?NZ ?mZ (.str _ _) (.str _ _) ?kaZ ?kbZ ?huZ (r := true) ?hrZ ?_; (case NZ => k_asm); (case mZ => with_reducible k_mem); (case kaZ => exact (ltext_ok' (by assumption) (by assumption) (by assumption)).2); (case kbZ => exact (ltext_ok' (by assumption) (by assumption) (by assumption)).2); (case huZ => ktr_units); (case hrZ => simp)) | (refine' none_notin (da := .none) (db := .str _) ?NZ ?mZ .none (.str _ _) rfl ?kbZ ?huZ (r := false) ?hrZ ?_; (case NZ => k_asm); (case mZ => with_reducible k_mem); (case kbZ => exact (ltext_ok' (by assumption) (by assumption) (by assumption)).2); (case huZ => ktr_units); (case hrZ => simp)) | (refine' none_notin (da := .str _) (db := .none) ?NZ ?mZ (.str _ _) .none ?kaZ rfl ?huZ (r := false) ?hrZ ?_; (case NZ => k_asm); (case mZ => with_reducible k_mem); (case kaZ => exact (ltext_ok' (by assumption) (by assumption) (by assumption)).2); (case huZ => ktr_units); (case hrZ => simp)) | (refine' none_notin (da := .none) (db := .none) ?NZ ?mZ .none .none rfl rfl ?huZ (r := false) ?hrZ ?_; (case NZ => k_asm); (case mZ => with_reducible k_mem); (case huZ => ktr_units); (case hrZ => simp)))))
  k_with "m taboff" => (exact taboff3 (by assumption) (by assumption))
  k_with "m getAttr ref" => ((k_here; k_dflt (refine' get_own ?k1Z ?k2Z ?k3Z ?k4Z ?k5Z ?k6Z ?k7Z ?k8Z ?k9Z ?_; (case k1Z => k_asm); (case k2Z => k_asm); (case k3Z => refine' InstAt.of_news (by k_asm) ?kh1Z ?kh2Z; (case kh1Z => walk_at "sub"); (case kh2Z => walk_at "sub")); (case k4Z => k_is); (case k5Z => k_is); (case k6Z => k_is); (case k7Z => k_is); (case k8Z => assumption); (case k9Z => k_handed); k_whole)))
  k_with "m call ref" => ((k_here; (with_reducible show wpAny _ _ (call (Value.ref 331) _ _) _ _ _); k_dflt (refine' Ctr.use (c_law_text _ _ _ ?a1Z _ ?a2Z) ?k1Z ?k2Z ?k3Z ?k4Z ?k5Z ?kKZ ?kdZ ?kuZ ?_ ?_; walk_at "ctr"; (case a2Z => first | assumption | exact IsPv.mono (by assumption) (by walk_at "led") | exact IsWorld.mono (by assumption) (by walk_at "led") | exact datMono (by assumption) (by walk_at "led")); (case a1Z => first | assumption | exact IsPv.mono (by assumption) (by walk_at "led") | exact IsWorld.mono (by assumption) (by walk_at "led") | exact datMono (by assumption) (by walk_at "led")); rotate_left; exact (fun _ _ _ _ _ _ _ _ h => h.elim); intro r9k tl9k h9k tk9k F9k N9k o9k; (obtain ⟨o9k,p9k⟩ := o9k); subst o9k; (generalize hw9k : Pv.ltext _ = ow9k at p9k); cases p9k; (try simp only [List.nil_append] at N9k); (try dsimp only [nl_int, nl_str, nl_pat, nl_del, nl_hold, pl_int, pl_str, pl_pat, pl_del, pl_hold, pa_int, pa_str, pa_pat, pa_del, pa_hold]); (try k_fold))))
  k_with "m call ref" => ((k_here; (with_reducible show wpAny _ _ (call (Value.ref 324) _ _) _ _ _); k_dflt (refine' Ctr.use (c_law_is_part _ _ _ _ ?a1Z) ?k1Z ?k2Z ?k3Z ?k4Z ?k5Z ?kKZ ?kdZ ?kuZ ?_ ?_; walk_at "ctr"; (case a1Z => first | assumption | exact IsPv.mono (by assumption) (by walk_at "led") | exact IsWorld.mono (by assumption) (by walk_at "led") | exact datMono (by assumption) (by walk_at "led")); rotate_left; exact (fun _ _ _ _ _ _ _ _ h => h.elim); intro r9k tl9k h9k tk9k F9k N9k o9k; (obtain ⟨o9k, p9k⟩ := o9k); subst o9k; subst p9k; (try simp only [List.nil_append] at N9k); (try dsimp only [nl_int, nl_str, nl_pat, nl_del, nl_hold, pl_int, pl_str, pl_pat, pl_del, pl_hold, pa_int, pa_str, pa_pat, pa_del, pa_hold]); (try k_fold))))
  k_with "m call ref" => ((k_here; (with_reducible show wpAny _ _ (call (Value.ref 192) _ _) _ _ _); k_dflt (refine' Ctr.use (c_pattern_of' _ _ _ ?a1Z ?a2Z _ ?a3Z) ?k1Z ?k2Z ?k3Z ?k4Z ?k5Z ?kKZ ?kdZ ?kuZ ?_ ?_; walk_at "ctr"; (case a3Z => first | assumption | exact IsPv.mono (by assumption) (by walk_at "led") | exact IsWorld.mono (by assumption) (by walk_at "led") | exact datMono (by assumption) (by walk_at "led")); (case a2Z => first | assumption | exact IsPv.mono (by assumption) (by walk_at "led") | exact IsWorld.mono (by assumption) (by walk_at "led") | exact datMono (by assumption) (by walk_at "led")); (case a1Z => first | assumption | exact IsPv.mono (by assumption) (by walk_at "led") | exact IsWorld.mono (by assumption) (by walk_at "led") | exact datMono (by assumption) (by walk_at "led")); rotate_left; exact (fun _ _ _ _ _ _ _ _ h => h.elim); intro r9k tl9k h9k tk9k F9k N9k o9k; (obtain ⟨l9k, q9k, q9k', p9k⟩ := o9k); (try simp only [List.nil_append] at N9k); (try dsimp only [nl_int, nl_str, nl_pat, nl_del, nl_hold, pl_int, pl_str, pl_pat, pl_del, pl_hold, pa_int, pa_str, pa_pat, pa_del, pa_hold]); (try k_fold))))
  k_with "m call ref" => ((k_here; (with_reducible show wpAny _ _ (call (Value.ref 178) _ _) _ _ _); k_dflt (refine' Ctr.use (c_joined _ _ _ _ _ ?a1Z ?a2Z _ ?a3Z ?a4Z) ?k1Z ?k2Z ?k3Z ?k4Z ?k5Z ?kKZ ?kdZ ?kuZ ?_ ?_; walk_at "ctr"; (case a4Z => first | assumption | exact IsPv.mono (by assumption) (by walk_at "led") | exact IsWorld.mono (by assumption) (by walk_at "led") | exact datMono (by assumption) (by walk_at "led")); (case a3Z => first | assumption | exact IsPv.mono (by assumption) (by walk_at "led") | exact IsWorld.mono (by assumption) (by walk_at "led") | exact datMono (by assumption) (by walk_at "led")); (case a2Z => first | assumption | exact IsPv.mono (by assumption) (by walk_at "led") | exact IsWorld.mono (by assumption) (by walk_at "led") | exact datMono (by assumption) (by walk_at "led")); (case a1Z => first | assumption | exact IsPv.mono (by assumption) (by walk_at "led") | exact IsWorld.mono (by assumption) (by walk_at "led") | exact datMono (by assumption) (by walk_at "led")); rotate_left; exact (fun _ _ _ _ _ _ _ _ h => h.elim); intro r9k tl9k h9k tk9k F9k N9k o9k; (have p9k := o9k); clear o9k; (try simp only [List.nil_append] at N9k); (try dsimp only [nl_int, nl_str, nl_pat, nl_del, nl_hold, pl_int, pl_str, pl_pat, pl_del, pl_hold, pa_int, pa_str, pa_pat, pa_del, pa_hold]); (try k_fold))))
  k_with "m call ref" => ((k_here; (with_reducible show wpAny _ _ (call (Value.ref 263) _ _) _ _ _); k_dflt (refine' Ctr.use (c_join _ _ _ _ _ _ _ _ ?a1Z ?a2Z _ ?a3Z ?a4Z ?a5Z) ?k1Z ?k2Z ?k3Z ?k4Z ?k5Z ?kKZ ?kdZ ?kuZ ?_ ?_; walk_at "ctr"; (case a5Z => first | assumption | exact IsPv.mono (by assumption) (by walk_at "led") | exact IsWorld.mono (by assumption) (by walk_at "led") | exact datMono (by assumption) (by walk_at "led")); (case a4Z => first | assumption | exact IsPv.mono (by assumption) (by walk_at "led") | exact IsWorld.mono (by assumption) (by walk_at "led") | exact datMono (by assumption) (by walk_at "led")); (case a3Z => first | assumption | exact IsPv.mono (by assumption) (by walk_at "led") | exact IsWorld.mono (by assumption) (by walk_at "led") | exact datMono (by assumption) (by walk_at "led")); (case a2Z => first | assumption | exact IsPv.mono (by assumption) (by walk_at "led") | exact IsWorld.mono (by assumption) (by walk_at "led") | exact datMono (by assumption) (by walk_at "led")); (case a1Z => first | assumption | exact IsPv.mono (by assumption) (by walk_at "led") | exact IsWorld.mono (by assumption) (by walk_at "led") | exact datMono (by assumption) (by walk_at "led")); rotate_left; intro g9k e9k n9k h9k tk9k F9k B9k U9k b9k; (try dsimp only at b9k); (try ((obtain ⟨b9k, b9k'⟩ := b9k); subst b9k)); (try dsimp only); rotate_left; intro r9k tl9k h9k tk9k F9k N9k o9k; (try simp only [List.nil_append] at N9k); (try dsimp only [nl_int, nl_str, nl_pat, nl_del, nl_hold, pl_int, pl_str, pl_pat, pl_del, pl_hold, pa_int, pa_str, pa_pat, pa_del, pa_hold]); (try k_fold))))
  k_with "m mem2" => (first | with_reducible assumption | with_reducible exact List.mem_cons_self | (with_reducible refine List.mem_cons_of_mem _ ?_; walk_at "mem2") | (with_reducible refine List.mem_append_right _ ?_; walk_at "mem2") | (with_reducible refine List.mem_append_left _ ?_; walk_at "mem2"))
  k_with "m nn" => (first | exact nn_n (by assumption) | exact nn_f (by assumption) (by assumption) (by assumption))
  k_with "m np" => (first | exact .inl (np_n (by assumption)) | exact .inr (np_n (by assumption)) | exact .inl (by assumption) | exact .inr (by assumption))
  k_with "m res2" => (first | (refine' res_q ?aZ ?bZ ?cZ ?dZ; (case dZ => exact IsPv.mono (by assumption) (by walk_at "led")); (case aZ => assumption); (case bZ => assumption); (case cZ => assumption)) | (refine' res_p ?aZ ?bZ ?cZ ?eZ ?dZ; (case dZ => exact IsPv.mono (by assumption) (by walk_at "led")); (case aZ => walk_at "nn"); (case bZ => assumption); (case cZ => assumption); (case eZ => assumption)) | (refine' res_t ?aZ ?bZ ?cZ ?dZ ?eZ ?fZ ?gZ; (case aZ => assumption); (case bZ => assumption); (case cZ => assumption); (case dZ => assumption); (case eZ => assumption); (case fZ => assumption); (case gZ => assumption)) | (refine' res_15 ?aZ ?bZ ?cZ ?dZ ?eZ ?fZ ?gZ ?hZ; (case aZ => assumption); (case bZ => assumption); (case cZ => assumption); (case dZ => assumption); (case eZ => assumption); (case fZ => assumption); (case gZ => omega); (case hZ => exact DatIn.tuple (by walk_at "mem2") (.cons (.str _ _) (.cons (.int _ _) .nil)))) | (refine' res_d ?aZ ?bZ ?cZ ?dZ ?eZ ?fZ ?gZ ?hZ; (case fZ => assumption); (case gZ => assumption); (case aZ => walk_at "nn"); (case bZ => walk_at "nn"); (case cZ => walk_at "np"); (case dZ => assumption); (case eZ => assumption); (case hZ => exact IsPv.pat (by walk_at "mem2") (by walk_at "mem2") (datMono (by assumption) (by walk_at "led")))))
  k_with "m call ref" => ((k_here; (with_reducible show wpAny _ _ (call (Value.ref 338) _ _) _ _ _); k_dflt (refine' Ctr.use (c_same _ _ _ (resOf (joinR _ _ _)) ?a0Z _ ?a1Z ?a2Z) ?k1Z ?k2Z ?k3Z ?k4Z ?k5Z ?kKZ ?kdZ ?kuZ ?_ ?_; walk_at "ctr"; (case a1Z => exact IsRes.mono (by assumption) (by walk_at "led")); (case a0Z => exact joinR_ok (by assumption) (by assumption)); (case a2Z => walk_at "res2"); rotate_left; exact (fun _ _ _ _ _ _ _ _ h => h.elim); intro r9k tl9k h9k tk9k F9k N9k o9k; (obtain ⟨o9k, p9k⟩ := o9k); subst o9k; subst p9k; (try simp only [List.nil_append] at N9k); (try k_fold))))
  k_with "m compareOp Eq" => ((k_here; (with_reducible show wpAny _ _ (compareOp CmpOp.Eq _ (Value.ref _)) _ _ _); k_dflt (refine' dat_self (d := errD 1) ?k1Z ?k2Z ?k3Z ?k4Z (fun _ h => h) (err_kqd _) ?k7Z ?_; (case k1Z => k_asm); (case k2Z => (refine' res_1 ?aZ ?bZ ?cZ ?dZ ?eZ; (case eZ => assumption); (case aZ => walk_at "nn"); (case bZ => walk_at "nn"); (case cZ => walk_at "np"); (case dZ => walk_at "np"))); (case k3Z => walk_at "led"); (case k4Z => exact DatIn.tuple (by walk_at "mem2") (.cons (.str _ _) (.cons (.int _ _) .nil))); (case k7Z => ktr_units))))
  k_with "m call builtin:len" => ((k_here; (refine len_str (cat_len (ltext_ok' (by assumption) (by assumption) (by assumption)) (ltext_ok' (by assumption) (by assumption) (by assumption))) ?_)))
  k_with "m binaryOp Add str str" => ((k_here; (refine add_str ?_ (add_fit (ltext_ok' (by assumption) (by assumption) (by assumption)) (ltext_ok' (by assumption) (by assumption) (by assumption)))); intro _ _))
  exact True.intro
set_option maxRecDepth 100000 in
set_option maxHeartbeats 8000000 in
theorem c_joinL (w : World) (wv v1 v2 : Value) (p q : Pv) (wd ml : Int) (ok1 : p.ok) (ok2 : q.ok) (tx1 : p.ltext = p.text) (tx2 : q.ltext = q.text) (st rest : Led) (ps : Array Value) (hw : IsWorld rest wv wd ml) (hp1 : IsPv w rest v1 p) (hp2 : IsPv w rest v2 q) (tb : TabOk st qualJ ps) (hne : ∀ p ∈ rest, p.1 ≠ 340) (hst : ∀ p ∈ st, p ∈ rest) :
  CtrJ w 60 [wv, v1, v2] ps st rest := by
  intro dp un gd cn cs a ccd cl outer A₀ base h₀ L m loose mean mg mb s Q E B F X N T hk XB TB HC hd hu ret
  have hw' := hw
  obtain ⟨wa, wdx, wes, wn, wt1, wt2, rfl, hw1, hw2, hw3, hw4⟩ := hw'
  refine wpAny_call ?_
  k_dflt (refine' code_defTC ?k1 ?k2 ?k3 ?k4 ?k5 ?kXB ?kTB ?kA ?kF ?kK ?k6 ?k7 ?k8 ?k9 ?kB ?kN ?_ ?c2 ?c3 ?c4)
  case kA => exact rfl
  case kF => exact rfl
  case kK => assumption
  case kXB => exact XB
  case kTB => exact TB
  case k1 => k_asm
  case k2 => k_asm
  case k3 => k_asm
  case k4 => k_asm
  case k5 => k_asm
  case k6 => k_is
  case k7 => k_is
  case k8 => ktr_room
  case k9 => exact BindsTo.of_eq rfl
  case kB => exact rfl
  case kN => decide
  case c2 => exact rfl
  case c3 => exact rfl
  case c4 => exact rfl
  intro g' L' h' tk' cells' FG' F' N' Y' B' X' T' l1'
  obtain ⟨o1, o2, o3, hcells, e1, e2, e3⟩ := PyProof.Rows.CellsAre.three Y'
  subst hcells
  replace e1 : o1.data = Data.cell (some v2) := e1
  replace e2 : o2.data = Data.cell (some v1) := e2
  replace e3 : o3.data = Data.cell (some (.ref wa)) := e3
  clear Y'
  replace F' : Fr g' L' h' (fun _ => none) := F'
  try dsimp only [List.cons_append, List.nil_append] at N'
  replace l1' := List.forall_mem_cons.mp l1'
  obtain ⟨l0', l1'⟩ := l1'
  replace l0' : (340 : Nat) < L' := l0'
  try k_fold
  k_steps
  k_dflt (refine' CtrT.use (heardR (k := 36) (R := joinR p q ml) ?hfa ?C) ?B ?F ?X ?N ?T ?hk ?XB ?TB ?hd ?hu ?ret)
  case F => k_asm
  case N => k_asm
  case hfa => exact .tail _ (.head _)
  case B => k_asm
  case X => k_asm
  case T => k_asm
  case hk => exact rfl
  case XB => exact XB
  case TB => exact TB
  case hd => ktr_room
  case hu => ktr_units
  case C =>
    clear ret
    intro dp un gd cn cs a ccd cl outer A₀ base h₀ L m loose mean mg mb s Q E B F X N T hk hd hu ret exc
    refine wpAny_call ?_
    k_dflt (refine' kla_code ?k1 ?k2 ?k3 ?k4 ?k5 ?kA ?kF ?kK ?k6 ?k7 ?k8 ?k9 ?kB ?_ ?c2 ?c3 ?c4 ?c5)
    case kA => exact rfl
    case kF => exact rfl
    case kK => assumption
    case k1 => k_asm
    case k2 => k_asm
    case k3 => k_asm
    case k4 => k_asm
    case k5 => k_asm
    case k6 => exact .tail _ (.head _)
    case k7 => exact code_ok N (CodeOk.mono (by assumption) (sub5 hst))
    case k8 => ktr_room
    case k9 => exact rfl
    case c5 => decide
    case kB => exact locs rfl
    case c2 => exact rfl
    case c3 => exact rfl
    case c4 => exact rfl
    intro g' L' h' FG' F' N' B' X' T'
    try dsimp only
    try k_fold
    k_steps
    · exact ret _ _ _ _ (by k_asm) (by k_asm) (by assumption)
    · exact exc _ _ _ _ _ (by k_asm) (by walk_at "boom") (by k_asm) (by assumption)
  intro r9 tl9 h9 tk9 hb9 T9 F9 N9 B9 X9 TT9 o9
  replace N9 := nfix4 N9
  replace o9 := IsRes.mono o9 nsub4
  k_steps
  all_goals (refine leaveT_ (by assumption) (by k_asm) (by k_asm) fun h₀' T₀ F₀ N₀ B₀ X₀ TT₀ => ?_)
  all_goals (try dsimp only)
  all_goals exact ret _ _ _ _ _ T₀ F₀ (n_drop2 N₀ (by walk_at "mem2") (fun p hp => by walk_at "sub")) B₀ X₀ TT₀ (by assumption) (by assumption) true rfl


end
end Mine
namespace Mine
section
theorem reg49 : True := by
  k_with_none
  k_with "m room" => (exact rm1 (by assumption) (by exact rfl))
  k_with "m units" => (exact rm2 (by assumption) (by exact rfl))
  k_with "m ctr" => (((case k1Z => k_asm); (case k2Z => k_asm); (case k3Z => k_asm); (case k4Z => k_asm); (case k5Z => k_asm); (case kKZ => first | exact rfl | assumption); (case kdZ => ktr_room); (case kuZ => ktr_units)))
  k_with "m exec Raise some none" => ((k_here; k_dflt (refine raise_exec (w := ‹World›) rfl ?_)))
  k_with "m RaisePost" => ((refine ⟨_, _, _, rfl, News.get (by k_asm) (List.Mem.tail _ (List.Mem.head _)), by k_in, ?_⟩))
  k_with "m call ref" => ((k_here; k_dflt ( (with_reducible show wpAny _ _ (call (Value.ref 34) _ _) _ _ _); refine' exc_made _ _ _ _ _ _ _ _ _ _ _ _ _ _ _ _ _ _ _ _ _ ?k1Z ?k2Z ?k3Z ?k4Z ?k5Z ?kAZ ?kFZ ?kKZ ?kRZ ?_; (case kAZ => exact rfl); (case k1Z => k_asm); (case k2Z => k_asm); (case k3Z => k_asm); (case k4Z => k_asm); (case k5Z => k_asm); (case kFZ => exact rfl); (case kKZ => first | exact rfl | assumption); (case kRZ => ktr_room); intro e9k d9k t9k k9k k9k' h9k tk9k F9k N9k ne9k lt9k; (try dsimp only))))
  k_with "m leaving" => ((k_here; k_dflt (first | (refine' leave_madeD ?k1Z ?k2Z ?k3Z (List.Mem.tail _ (List.Mem.head _)) (List.Mem.head _) ?k4Z ?_; (case k1Z => k_asm); (case k2Z => k_asm); (case k3Z => k_asm); (case k4Z => exact fun p hp => ⟨List.Mem.tail _ (List.Mem.tail _ hp), by solve_by_elim⟩); intro h9k B9k U9k) | (refine' leave_onD ?k1Z ?k2Z ?k3Z ?k4Z ?_; (case k1Z => k_asm); (case k2Z => k_asm); (case k3Z => k_asm); (case k4Z => k_asm); intro h9k B9k U9k))))
  k_with "m mem" => (first | exact List.mem_cons_self | (refine' List.mem_cons_of_mem _ ?_; k_mem))
  k_with "m news" => (first | with_reducible assumption | assumption | exact ndrop (by assumption) | exact ndrop (ndrop (by assumption)) | exact ndrop (ndrop (ndrop (by assumption))))
  k_with "m eval Call Name" => ((k_here; (fail_if_success (with_reducible show wpAny _ _ (eval (Expr.Call (Expr.Name "range" _) _ _ _) _) _ _ _)); k_dflt (refine Call_ ?_)))
  k_with "m boom" => (first | with_reducible assumption | exact Boom.sub (by assumption) (fun p hp => List.Mem.tail _ hp) | exact Boom.sub (by assumption) (fun p hp => List.Mem.tail _ (List.Mem.tail _ hp)) | exact Boom.sub (by assumption) (fun p hp => List.Mem.tail _ (List.mem_append.mpr (Or.inl hp))) | exact Boom.sub (by assumption) (fun p hp => List.mem_append.mpr (Or.inl hp)))
  k_with "m led" => (first | exact fun _ h => h | exact fun _ h => List.Mem.tail _ h | exact fun _ h => List.Mem.tail _ (List.Mem.tail _ h) | exact fun _ h => List.Mem.tail _ (List.Mem.tail _ (List.Mem.tail _ h)) | exact fun _ h => List.mem_append.mpr (Or.inr h) | exact fun _ h => List.mem_append.mpr (Or.inl h) | exact fun _ h => List.Mem.tail _ (List.mem_append.mpr (Or.inr h)) | exact fun _ h => List.mem_append.mpr (Or.inr (List.mem_append.mpr (Or.inr h))) | exact fun _ h => List.mem_append.mpr (Or.inr (List.Mem.tail _ h)))
  k_with "m call ref" => ((k_here; k_dflt (refine' call_cls ?k1Z ?k2Z ?k3Z ?k4Z ?k5Z ?k6Z ?_; (case k1Z => k_asm); (case k2Z => k_asm); (case k3Z => k_asm); (case k4Z => k_is); (case k5Z => k_is); (case k6Z => k_is); k_whole; intro x' d' h' F' N' l1k l2k; (try k_lt l1k); (try k_lt2 l2k); (try k_sweep); (refine' code_def ?k1Z ?k2Z ?k3Z ?k4Z ?k5Z ?kAZ ?kFZ ?kKZ ?k6Z ?k7Z ?k8Z ?k9Z ?kBZ ?_ ?c2Z ?c3Z ?c4Z ?c5Z; (case kAZ => exact rfl); (case kFZ => exact rfl); (case kKZ => first | exact rfl | assumption); (case k1Z => k_asm); (case k2Z => k_asm); (case k3Z => k_asm); (case k4Z => k_asm); (case k5Z => k_asm); (case k6Z => k_is); (case k7Z => k_is); (case k8Z => ktr_room); (case k9Z => exact BindsTo.of_eq rfl); (case c5Z => decide); (case kBZ => exact locs rfl); (case c2Z => exact rfl); (case c3Z => exact rfl); (case c4Z => exact rfl); k_whole; intro g' L' h' FG' F' N' B' X' T'; (try dsimp only); (try k_fold)))))
  k_with "m ite" => ((k_here; k_openite; with_reducible first | refine ite_pos (by assumption) ?_ | refine ite_neg (by assumption) ?_ | refine ite_isFalse (by assumption) ?_ | (refine split_ine ?_ ?_ <;> intro _) | (refine split_ieq ?_ ?_ <;> intro _) | refine split_not ?_ | (refine split_dec ?_ ?_ <;> intro _) | (refine split_bool ?_ ?_ <;> intro _)))
  k_with "m ite" => ((with_reducible first | refine ite_tt ?_ | refine ite_ff ?_))
  k_with "m testChain" => (dsimp only)
  k_with "m evalPairs" => (dsimp only)
  k_with "m compareChain" => (dsimp only)
  k_with "m ite" => ((k_closed; first | ((with_reducible refine ite_cf ?chZ ?_); (case chZ => decide +kernel)) | ((with_reducible refine ite_ct ?chZ ?_); (case chZ => decide +kernel))))
  k_with "m InvEndN" => (k_dflt kst_close)
  exact True.intro
theorem n_two {h₀ h : Heap} {L : Addr} {x y : Addr × Obj} {big R : Led} (N : News h₀ L h big) (h1 : x ∈ big) (h2 : y ∈ big) (h3 : ∀ p ∈ R, p ∈ big) : News h₀ L h ([x, y] ++ R) := fun p hp => N p (by
  rcases List.mem_append.mp hp with hp | hp
  · rcases List.mem_cons.mp hp with rfl | hp
    · exact h1
    · rw [List.mem_singleton.mp hp]; exact h2
  · exact h3 p hp)
theorem ord2 {x d : Addr} {o1 o2 : Obj} {news : Led} (h : ∀ p ∈ news, p.1 < d) (h2 : d < x) : ∀ p ∈ [(x, o1), (d, o2)], ∀ q ∈ news, q.1 < p.1 := by
  intro p hp q hq
  rcases List.mem_cons.mp hp with rfl | hp
  · exact Nat.lt_trans (h q hq) h2
  · rw [List.mem_singleton.mp hp]; exact h q hq
theorem exec_toks {M : Model} {A : Around} {x : List Stmt} {env : Env} {Q : Flow → Shared → Prop} {E : Value → Shared → Prop} {h : Heap} {g : Array GenState} {d : Drawn} {t : Nat} {os : OsState} (k : ∀ tk, wpAny M A (execs x env) Q E ⟨h, g, d, tk, os⟩) : wpAny M A (execs x env) Q E ⟨h, g, d, t, os⟩ := k t
theorem reg50 : True := by
  k_with "m execs cons" => (((with_reducible show wpAny _ _ (execs _ _) _ _ (Shared.mk _ _ _ (_ + _) _)); refine exec_toks ?_; intro tk9k))
  k_with "m sub" => (first | with_reducible assumption | (with_reducible refine List.mem_cons_of_mem _ ?_; walk_at "sub") | (with_reducible refine List.mem_append_right _ ?_; walk_at "sub") | (with_reducible refine List.mem_append_left _ ?_; walk_at "sub"))
  k_with "m mem2" => (first | with_reducible assumption | with_reducible exact List.mem_cons_self | (with_reducible refine List.mem_cons_of_mem _ ?_; walk_at "mem2") | (with_reducible refine List.mem_append_right _ ?_; walk_at "mem2") | (with_reducible refine List.mem_append_left _ ?_; walk_at "mem2"))
  k_with "m call ref" => ((k_here; k_dflt (refine' call_cls ?k1Z ?k2Z ?k3Z ?k4Z ?k5Z ?k6Z ?_; (case k1Z => k_asm); (case k2Z => k_asm); (case k3Z => k_asm); (case k4Z => k_is); (case k5Z => k_is); (case k6Z => k_is); k_whole; intro x' d' h' F' N' l1k l2k; (try k_lt l1k); (try k_lt2 l2k); (try k_sweep); (refine' code_def ?k1Z ?k2Z ?k3Z ?k4Z ?k5Z ?kAZ ?kFZ ?kKZ ?k6Z ?k7Z ?k8Z ?k9Z ?kBZ ?_ ?c2Z ?c3Z ?c4Z ?c5Z; (case kAZ => exact rfl); (case kFZ => exact rfl); (case kKZ => first | exact rfl | assumption); (case k1Z => k_asm); (case k2Z => k_asm); (case k3Z => k_asm); (case k4Z => k_asm); (case k5Z => k_asm); (case k6Z => k_is); (case k7Z => k_is); (case k8Z => ktr_room); (case k9Z => first | exact BindsTo.of_eq rfl | exact binds_K (by k_in) rfl (by k_is) rfl rfl rfl); (case c5Z => decide); (case kBZ => exact locs rfl); (case c2Z => exact rfl); (case c3Z => exact rfl); (case c4Z => exact rfl); k_whole; intro g' L' h' FG' F' N' B' X' T'; (try dsimp only); (try k_fold)))))
  exact True.intro
set_option maxRecDepth 100000 in
set_option maxHeartbeats 8000000 in
theorem c_world (w : World) (wd ml : Int) (t1 t2 : Tok) (news : Led) : ∀ (dp un : Nat) (gd : Option (List Code)) (cn : Str) (cs : Scope) (a : Addr) (ccd : Value) (cl : List (Str × Addr)) (outer : List Env) (A₀ : Around) (base h₀ : Heap) (L : Addr) (m : Str → Option Value)
    (loose : List Str) (mean : ExcName → Option Value) (mg mb : Str → Option Value) (s : Shared) (Q E : Value → Shared → Prop),
    Below A₀ base outer h₀ → Fr h₀ L s.heap m → (mkK.heap_1 w.params).In h₀ → News h₀ L s.heap news → Top topProg loose mean mg mb h₀ → cs.kind = .function → dp + 6 < recursionLimit → un + 8 * 6 < cLine →
    (∀ wa tl h' tk', Fr h₀ L h' m → News h₀ L h' (tl ++ news) → (∀ p ∈ tl, ∀ q ∈ news, q.1 < p.1) → IsWorld tl (.ref wa) wd ml → Q (.ref wa) { s with heap := h', toks := tk' }) →
    wpAny (model PySem.Challenge.rw_np0295_01.row.prog w) (ktrTop dp un gd cn cs L a ccd cl outer) (call (.ref 210) [] [(nm "width", .int wd t1), (nm "most_length", .int ml t2)]) Q E s := by
  intro dp un gd cn cs a ccd cl outer A₀ base h₀ L m loose mean mg mb s Q E B F X N T hk hd hu ret
  k_steps
  refine' ret _ _ _ _ ?rF (n_two (by k_asm) ?m1 ?m2 ?m3) ?o ⟨_, _, _, _, _, _, rfl, .head _, .tail _ (.head _), ?g1, ?g2⟩
  case rF => k_asm
  case m1 => walk_at "mem2"
  case m2 => walk_at "mem2"
  case m3 => exact fun p hp => by walk_at "sub"
  case g1 => with_unfolding_all rfl
  case g2 => with_unfolding_all rfl
  case o => exact ord2 (by first | assumption | exact allLt_mem (by assumption)) (by assumption)

end
end Mine
namespace Mine
section
open PySem PySem.W PySem.Spec PySem.Calls PyProof.Rows PySem.W.X
section
variable {prog : Program} {w : World} {A : Around} {E : Value → Shared → Prop} {s : Shared} {env : Env} {h₀ : Heap} {x : Str} {body : List Stmt} {Q : Flow → Shared → Prop}
theorem rest_J {I : Addr} {a : Int} {n : Nat} (J : Nat → (Str → Option Value) → Led → Prop)
    (turn : ∀ (i : Nat) m news t h tk it, i < n → J i m news → (∀ p ∈ news, p.1 ≠ I) → Fr h₀ env.locals h (fun y => if y = x then some (.int (a + (i : Int)) t) else m y) → News h₀ env.locals h ((I, it) :: news) →
      wpAny (model prog w) A (execs body env) (UnrPost h₀ env.locals { s with heap := h, toks := tk } I it (J (i + 1)) Q) E { s with heap := h, toks := tk })
    (done : ∀ m news h tk, J n m news → Fr h₀ env.locals h m → News h₀ env.locals h news → Q .next { s with heap := h, toks := tk }) :
    ∀ (k i : Nat) m news, i + k = n → J i m news → (∀ p ∈ news, p.1 ≠ I) → RangeRest prog w A E h₀ env x body Q s I a n k i m news
  | 0, i, _, _, e, j, _ => fun _ _ F N => done _ _ _ _ (by have : i = n := e; exact this ▸ j) F N
  | k + 1, i, m, news, e, j, off => fun t h tk F N => by
    refine wpAny_mono (turn i m news t h tk _ (by omega) j off F N) (fun f s₂ p => ?_) fun _ _ e => e
    cases f with
    | ret v => exact p
    | brk => exact p
    | next =>
      obtain ⟨h', tk', m', news', e', F', N', ho, j'⟩ := p
      exact ⟨h', tk', m', news', e', F', N', ho, rest_J J turn done k (i + 1) m' news' (by omega) j' ho⟩
    | cont =>
      obtain ⟨h', tk', m', news', e', F', N', ho, j'⟩ := p
      exact ⟨h', tk', m', news', e', F', N', ho, rest_J J turn done k (i + 1) m' news' (by omega) j' ho⟩
theorem iter_rangeJ {r : Addr} {a₀ b₀ : Int} {t₀ u₀ v₀ : Tok} {m₀ : Str → Option Value} {news : Led} (n : Nat)
    (hh : A.handled = none) (hr : IsRange s.heap r a₀ b₀ 1 t₀ u₀ v₀) (hsmall : Builtin.Range.small a₀ b₀ 1 = true) (hn : Builtin.Range.rangeSize a₀ b₀ 1 = (n : Int)) (F : Fr h₀ env.locals s.heap m₀) (N : News h₀ env.locals s.heap news)
    (J : Nat → (Str → Option Value) → Led → Prop) (h0 : J 0 m₀ news)
    (turn : ∀ (I : Addr) (i : Nat) m news t h tk it, i < n → J i m news → (∀ p ∈ news, p.1 ≠ I) → Fr h₀ env.locals h (fun y => if y = x then some (.int (a₀ + (i : Int)) t) else m y) → News h₀ env.locals h ((I, it) :: news) →
      wpAny (model prog w) A (execs body env) (UnrPost h₀ env.locals { s with heap := h, toks := tk } I it (J (i + 1)) Q) E { s with heap := h, toks := tk })
    (done : ∀ m news h tk, J n m news → Fr h₀ env.locals h m → News h₀ env.locals h news → Q .next { s with heap := h, toks := tk }) :
    wpAny (model prog w) A (pyIter (.ref r)) (fun it s₂ => LoopAtV prog w A h₀ env x body Q E it s₂) E s :=
  iter_rangeUnr hh hr hsmall hn F N fun I hI => rest_J J (turn I) done n 0 _ _ (Nat.zero_add n) h0 fun p hp => Nat.ne_of_lt (hI p hp)
end

end
end Mine
namespace Mine
section
open PySem PySem.W PySem.Spec PySem.Calls PyProof.Rows PySem.W.X
theorem nz {L c : Nat} (h : c < L) : (L + 1 ≠ c ∧ L + 1 + 1 ≠ c ∧ L + 1 + 1 + 1 ≠ c ∧ L + 1 + 1 + 1 + 1 ≠ c) ∧ (c ≠ L + 1 ∧ c ≠ L + 1 + 1 ∧ c ≠ L + 1 + 1 + 1 ∧ c ≠ L + 1 + 1 + 1 + 1) := by
  have a := Nat.lt_succ_of_lt h
  have b := Nat.lt_succ_of_lt a
  have c := Nat.lt_succ_of_lt b
  have d := Nat.lt_succ_of_lt c
  exact ⟨⟨Nat.ne_of_gt a, Nat.ne_of_gt b, Nat.ne_of_gt c, Nat.ne_of_gt d⟩, Nat.ne_of_lt a, Nat.ne_of_lt b, Nat.ne_of_lt c, Nat.ne_of_lt d⟩
theorem nzo {L a bx : Nat} (h0 : 340 < L) (h7 : 347 < L) (h1 : L + 1 + 1 + 1 + 1 < a) (h2 : bx ≠ a) : a ≠ 347 ∧ a ≠ 340 ∧ a ≠ bx ∧ a ≠ L + 1 + 1 + 1 + 1 ∧ a ≠ L + 1 + 1 + 1 ∧ a ≠ L + 1 + 1 ∧ a ≠ L + 1 := by
  have b := Nat.lt_of_succ_lt h1
  have c := Nat.lt_of_succ_lt b
  have d := Nat.lt_of_succ_lt c
  have e := Nat.lt_of_succ_lt d
  exact ⟨Nat.ne_of_gt (Nat.lt_trans h7 e), Nat.ne_of_gt (Nat.lt_trans h0 e), h2.symm, Nat.ne_of_gt h1, Nat.ne_of_gt b, Nat.ne_of_gt c, Nat.ne_of_gt d⟩
theorem nd (L : Nat) : L + 1 + 1 + 1 ≠ L + 1 + 1 + 1 + 1 ∧ L + 1 + 1 ≠ L + 1 + 1 + 1 + 1 ∧ L + 1 ≠ L + 1 + 1 + 1 + 1 ∧ L + 1 + 1 ≠ L + 1 + 1 + 1 ∧ L + 1 ≠ L + 1 + 1 + 1 ∧ L + 1 ≠ L + 1 + 1 :=
  have s (k : Nat) : k < k + 1 := Nat.lt_succ_self k
  have s2 (k : Nat) : k < k + 1 + 1 := Nat.lt_succ_of_lt (s k)
  have s3 (k : Nat) : k < k + 1 + 1 + 1 := Nat.lt_succ_of_lt (s2 k)
  ⟨Nat.ne_of_lt (s _), Nat.ne_of_lt (s2 _), Nat.ne_of_lt (s3 _), Nat.ne_of_lt (s _), Nat.ne_of_lt (s2 _), Nat.ne_of_lt (s _)⟩
noncomputable abbrev qualL : Str := (nm "law" ++ nm ".<locals>.") ++ nm "<lambda>"
noncomputable def Off7 (L0 bx a : Addr) : Prop := a ≠ 347 ∧ a ≠ 340 ∧ a ≠ bx ∧ a ≠ L0 + 1 + 1 + 1 + 1 ∧ a ≠ L0 + 1 + 1 + 1 ∧ a ≠ L0 + 1 + 1 ∧ a ≠ L0 + 1
structure Can (L0 bx xs wa : Addr) (vs : List Value) (nn : Nat) (wd ml : Int) (qs ps : Array Value) (oW : Obj) (ex : Led) : Prop where
  b0 : (340 : Nat) < L0
  b7 : (347 : Nat) < L0
  bO : bx ≠ 347 ∧ bx ≠ 340 ∧ bx ≠ L0 + 1 + 1 + 1 + 1 ∧ bx ≠ L0 + 1 + 1 + 1 ∧ bx ≠ L0 + 1 + 1 ∧ bx ≠ L0 + 1
  off : ∀ p ∈ ex, Off7 L0 bx p.1
  tq : TabOk ex qualL qs
  tp : TabOk ex qualJ ps
  mxs : (xs, listOf vs.toArray nn) ∈ ex
  wld : IsWorld ex (.ref wa) wd ml
  dW : oW.data = .cell (some (.ref wa))
section
variable {L0 bx xs wa : Addr} {vs : List Value} {nn : Nat} {wd ml : Int} {qs ps qs' ps' : Array Value} {oW oO oB oA bo bo' T P : Obj} {ex tl : Led} {h₀ h : Heap}
theorem Can.hT (C : Can L0 bx xs wa vs nn wd ml qs ps oW ex) : ∀ p ∈ (340, P) :: (bx, bo) :: (L0 + 1 + 1 + 1 + 1, oW) :: (L0 + 1 + 1 + 1, oO) :: (L0 + 1 + 1, oB) :: (L0 + 1, oA) :: ex, p.1 ≠ 347 := by
  intro p hp
  have h1 := C.b7
  simp only [List.mem_cons] at hp
  rcases hp with rfl | rfl | rfl | rfl | rfl | rfl | hp
  · show (340 : Nat) ≠ 347; decide
  · exact C.bO.1
  · exact (nz h1).1.2.2.2
  · exact (nz h1).1.2.2.1
  · exact (nz h1).1.2.1
  · exact (nz h1).1.1
  · exact (C.off p hp).1
theorem Can.hP (C : Can L0 bx xs wa vs nn wd ml qs ps oW ex) : ∀ p ∈ (347, T) :: (bx, bo) :: (L0 + 1 + 1 + 1 + 1, oW) :: (L0 + 1 + 1 + 1, oO) :: (L0 + 1 + 1, oB) :: (L0 + 1, oA) :: ex, p.1 ≠ 340 := by
  intro p hp
  have h1 := C.b0
  simp only [List.mem_cons] at hp
  rcases hp with rfl | rfl | rfl | rfl | rfl | rfl | hp
  · show (347 : Nat) ≠ 340; decide
  · exact C.bO.2.1
  · exact (nz h1).1.2.2.2
  · exact (nz h1).1.2.2.1
  · exact (nz h1).1.2.1
  · exact (nz h1).1.1
  · exact (C.off p hp).2.1
theorem Can.hB (C : Can L0 bx xs wa vs nn wd ml qs ps oW ex) : ∀ p ∈ (347, T) :: (340, P) :: (L0 + 1 + 1 + 1 + 1, oW) :: (L0 + 1 + 1 + 1, oO) :: (L0 + 1 + 1, oB) :: (L0 + 1, oA) :: ex, p.1 ≠ bx := by
  intro p hp
  obtain ⟨a1, a2, a3, a4, a5, a6⟩ := C.bO
  simp only [List.mem_cons] at hp
  rcases hp with rfl | rfl | rfl | rfl | rfl | rfl | hp
  · exact Ne.symm a1
  · exact Ne.symm a2
  · exact Ne.symm a3
  · exact Ne.symm a4
  · exact Ne.symm a5
  · exact Ne.symm a6
  · exact (C.off p hp).2.2.1
theorem rotP (N : News h₀ L0 h ((347, T) :: (340, P) :: ex)) : News h₀ L0 h ((340, P) :: (347, T) :: ex) := fun p hp => N p (by
  simp only [List.mem_cons] at hp ⊢
  rcases hp with h | h | h
  · exact .inr (.inl h)
  · exact .inl h
  · exact .inr (.inr h))
theorem rotB (N : News h₀ L0 h ((347, T) :: (340, P) :: (bx, bo) :: ex)) : News h₀ L0 h ((bx, bo) :: (347, T) :: (340, P) :: ex) := fun p hp => N p (by
  simp only [List.mem_cons] at hp ⊢
  rcases hp with h | h | h | h
  · exact .inr (.inr (.inl h))
  · exact .inl h
  · exact .inr (.inl h)
  · exact .inr (.inr (.inr h)))
theorem mem_mid {α : Type} {x p : α} (l r : List α) (h : p ∈ l ++ x :: r) : p ∈ x :: (l ++ r) := by
  rcases List.mem_append.mp h with h | h
  · exact .tail _ (List.mem_append_left _ h)
  · cases h with
    | head => exact .head _
    | tail _ h => exact .tail _ (List.mem_append_right _ h)
theorem mem_sw {α : Type} {p : α} (l m r : List α) (h : p ∈ l ++ (m ++ r)) : p ∈ m ++ (l ++ r) := by
  rcases List.mem_append.mp h with h | h
  · exact List.mem_append_right _ (List.mem_append_left _ h)
  rcases List.mem_append.mp h with h | h
  · exact List.mem_append_left _ h
  · exact List.mem_append_right _ (List.mem_append_right _ h)
theorem mem_up {α : Type} {x p : α} {l m : List α} (f : p ∈ l → p ∈ m) (h : p ∈ x :: l) : p ∈ x :: m := by
  cases h with
  | head => exact .head _
  | tail _ h => exact .tail _ (f h)
theorem unB {c4 c3 c2 c1 : Addr × Obj} (N : News h₀ L0 h ((bx, bo) :: (tl ++ ((347, T) :: (340, P) :: c4 :: c3 :: c2 :: c1 :: ex)))) : News h₀ L0 h ((347, T) :: (340, P) :: (bx, bo) :: c4 :: c3 :: c2 :: c1 :: (tl ++ ex)) :=
  fun p hp => N p (mem_up (mem_sw [_, _, _, _, _, _] tl ex) (mem_mid [_, _] _ hp))
theorem unP {c5 c4 c3 c2 c1 : Addr × Obj} (N : News h₀ L0 h ((340, P) :: (tl ++ ((347, T) :: c5 :: c4 :: c3 :: c2 :: c1 :: ex)))) : News h₀ L0 h ((347, T) :: (340, P) :: c5 :: c4 :: c3 :: c2 :: c1 :: (tl ++ ex)) :=
  fun p hp => N p (mem_up (mem_sw [_, _, _, _, _, _] tl ex) (mem_mid [_] _ hp))
theorem unT {f c6 c5 c4 c3 c2 c1 : Addr × Obj} (N : News h₀ L0 h ((347, T) :: f :: (tl ++ (c6 :: c5 :: c4 :: c3 :: c2 :: c1 :: ex)))) : News h₀ L0 h ((347, T) :: c6 :: c5 :: c4 :: c3 :: c2 :: c1 :: (f :: (tl ++ ex))) :=
  fun p hp => N p (mem_up (mem_sw [_, _, _, _, _, _] (f :: tl) ex) hp)
theorem off_gt {a : Addr} (C : Can L0 bx xs wa vs nn wd ml qs ps oW ex) (h1 : L0 + 1 + 1 + 1 + 1 < a) (h2 : bx ≠ a) : Off7 L0 bx a := by
  exact nzo C.b0 C.b7 h1 h2
theorem Can.mono (C : Can L0 bx xs wa vs nn wd ml qs ps oW ex) {ex' : Led} (hs : ∀ p ∈ ex, p ∈ ex') (ho : ∀ p ∈ ex', Off7 L0 bx p.1) (tq : TabOk ex' qualL qs') (tp : TabOk ex' qualJ ps') : Can L0 bx xs wa vs nn wd ml qs' ps' oW ex' :=
  ⟨C.b0, C.b7, C.bO, ho, tq, tp, hs _ C.mxs, IsWorld.mono C.wld hs, C.dW⟩
theorem Can.updW (C : Can L0 bx xs wa vs nn wd ml qs ps oW ex) {o4 : Obj} : UpdF (L0 + 1 + 1 + 1 + 1) o4 ((347, T) :: (340, P) :: (bx, bo) :: (L0 + 1 + 1 + 1 + 1, o4) :: (L0 + 1 + 1 + 1, oO) :: (L0 + 1 + 1, oB) :: (L0 + 1, oA) :: ex) (fun o' => (347, T) :: (340, P) :: (bx, bo) :: (L0 + 1 + 1 + 1 + 1, o') :: (L0 + 1 + 1 + 1, oO) :: (L0 + 1 + 1, oB) :: (L0 + 1, oA) :: ex) := by
  have h0 := C.b0; have h7 := C.b7
  obtain ⟨a1, a2, a3, a4, a5, a6⟩ := C.bO
  refine .tail (nz h7).2.2.2.2 (.tail (nz h0).2.2.2.2 (.tail a3 (.head ?_)))
  intro p hp
  simp only [List.mem_cons] at hp
  rcases hp with rfl | rfl | rfl | hp
  · exact (nd _).1
  · exact (nd _).2.1
  · exact (nd _).2.2.1
  · exact (C.off p hp).2.2.2.1
theorem Can.updO (C : Can L0 bx xs wa vs nn wd ml qs ps oW ex) : UpdF (L0 + 1 + 1 + 1) oO ((347, T) :: (340, P) :: (bx, bo) :: (L0 + 1 + 1 + 1 + 1, oW) :: (L0 + 1 + 1 + 1, oO) :: (L0 + 1 + 1, oB) :: (L0 + 1, oA) :: ex) (fun o' => (347, T) :: (340, P) :: (bx, bo) :: (L0 + 1 + 1 + 1 + 1, oW) :: (L0 + 1 + 1 + 1, o') :: (L0 + 1 + 1, oB) :: (L0 + 1, oA) :: ex) := by
  have h0 := C.b0; have h7 := C.b7
  obtain ⟨a1, a2, a3, a4, a5, a6⟩ := C.bO
  refine .tail (nz h7).2.2.2.1 (.tail (nz h0).2.2.2.1 (.tail a4 (.tail (Ne.symm (nd _).1) (.head ?_))))
  intro p hp
  simp only [List.mem_cons] at hp
  rcases hp with rfl | rfl | hp
  · exact (nd _).2.2.2.1
  · exact (nd _).2.2.2.2.1
  · exact (C.off p hp).2.2.2.2.1
theorem Can.updB (C : Can L0 bx xs wa vs nn wd ml qs ps oW ex) : UpdF (L0 + 1 + 1) oB ((347, T) :: (340, P) :: (bx, bo) :: (L0 + 1 + 1 + 1 + 1, oW) :: (L0 + 1 + 1 + 1, oO) :: (L0 + 1 + 1, oB) :: (L0 + 1, oA) :: ex) (fun o' => (347, T) :: (340, P) :: (bx, bo) :: (L0 + 1 + 1 + 1 + 1, oW) :: (L0 + 1 + 1 + 1, oO) :: (L0 + 1 + 1, o') :: (L0 + 1, oA) :: ex) := by
  have h0 := C.b0; have h7 := C.b7
  obtain ⟨a1, a2, a3, a4, a5, a6⟩ := C.bO
  refine .tail (nz h7).2.2.1 (.tail (nz h0).2.2.1 (.tail a5 (.tail (Ne.symm (nd _).2.1) (.tail (Ne.symm (nd _).2.2.2.1) (.head ?_)))))
  intro p hp
  simp only [List.mem_cons] at hp
  rcases hp with rfl | hp
  · exact (nd _).2.2.2.2.2
  · exact (C.off p hp).2.2.2.2.2.1
theorem Can.updA (C : Can L0 bx xs wa vs nn wd ml qs ps oW ex) : UpdF (L0 + 1) oA ((347, T) :: (340, P) :: (bx, bo) :: (L0 + 1 + 1 + 1 + 1, oW) :: (L0 + 1 + 1 + 1, oO) :: (L0 + 1 + 1, oB) :: (L0 + 1, oA) :: ex) (fun o' => (347, T) :: (340, P) :: (bx, bo) :: (L0 + 1 + 1 + 1 + 1, oW) :: (L0 + 1 + 1 + 1, oO) :: (L0 + 1 + 1, oB) :: (L0 + 1, o') :: ex) := by
  have h0 := C.b0; have h7 := C.b7
  obtain ⟨a1, a2, a3, a4, a5, a6⟩ := C.bO
  refine .tail (nz h7).2.1 (.tail (nz h0).2.1 (.tail a6 (.tail (Ne.symm (nd _).2.2.1) (.tail (Ne.symm (nd _).2.2.2.2.1) (.tail (Ne.symm (nd _).2.2.2.2.2) (.head ?_))))))
  intro p hp
  exact (C.off p hp).2.2.2.2.2.2
end
theorem Can.mB {L0 bx xs wa : Addr} {vs : List Value} {nn : Nat} {wd ml : Int} {qs ps : Array Value} {oW oO oB oA T P : Obj} {ex : Led} (C : Can L0 bx xs wa vs nn wd ml qs ps oW ex) : (xs, listOf vs.toArray nn) ∈ (347, T) :: (340, P) :: (L0 + 1 + 1 + 1 + 1, oW) :: (L0 + 1 + 1 + 1, oO) :: (L0 + 1 + 1, oB) :: (L0 + 1, oA) :: ex :=
  .tail _ (.tail _ (.tail _ (.tail _ (.tail _ (.tail _ C.mxs)))))
theorem ne_of_data {h₀ h : Heap} {L x y : Addr} {o o' : Obj} {led : Led} (N : News h₀ L h led) (h1 : (x, o) ∈ led) (h2 : (y, o') ∈ led) (hd : o.data ≠ o'.data) : x ≠ y := fun e => by
  have a := (N _ h1).1
  have b := (N _ h2).1
  subst e
  exact hd (congrArg Obj.data (Option.some.inj (a.symm.trans b)))
theorem Can.setW {L0 bx xs wa : Addr} {vs : List Value} {nn : Nat} {wd ml : Int} {qs ps : Array Value} {oW oW' : Obj} {ex : Led} (C : Can L0 bx xs wa vs nn wd ml qs ps oW ex) (d : oW'.data = .cell (some (.ref wa))) : Can L0 bx xs wa vs nn wd ml qs ps oW' ex :=
  ⟨C.b0, C.b7, C.bO, C.off, C.tq, C.tp, C.mxs, C.wld, d⟩
noncomputable def dumW (wa : Addr) : Obj := { cls := .none, data := .cell (some (.ref wa)) }
section
variable {g0 h : Heap} {L0 bx xs wa : Addr} {vs : List Value} {nn : Nat} {wd ml : Int} {bo oW oO oB oA : Obj} {tl : Led}
theorem Can.init (N : News g0 L0 h (tl ++ [(bx, bo), (xs, listOf vs.toArray nn), (L0 + 1 + 1 + 1 + 1, oW), (L0 + 1 + 1 + 1, oO), (L0 + 1 + 1, oB), (L0 + 1, oA), (340, tabObj #[]), (347, tabObj #[])]))
    (l : ∀ p ∈ tl, ∀ q ∈ [(bx, bo), (xs, listOf vs.toArray nn), (L0 + 1 + 1 + 1 + 1, oW), (L0 + 1 + 1 + 1, oO), (L0 + 1 + 1, oB), (L0 + 1, oA), (340, tabObj #[]), (347, tabObj #[])], q.1 < p.1) (wl : IsWorld tl (.ref wa) wd ml) (b0 : (340 : Nat) < L0) (b7 : (347 : Nat) < L0)
    (d : ∀ p ∈ [(xs, listOf vs.toArray nn), (L0 + 1 + 1 + 1 + 1, oW), (L0 + 1 + 1 + 1, oO), (L0 + 1 + 1, oB), (L0 + 1, oA), (340, tabObj #[]), (347, tabObj #[])], p.1 ≠ bx)
    (e1 : oW.data = .cell none) (e2 : oO.data = .cell none) (e3 : oB.data = .cell none) (e4 : oA.data = .cell none) : Can L0 bx xs wa vs nn wd ml #[] #[] (dumW wa) ((xs, listOf vs.toArray nn) :: tl) ∧
    News g0 L0 h ((347, tabObj #[]) :: (340, tabObj #[]) :: (bx, bo) :: (L0 + 1 + 1 + 1 + 1, oW) :: (L0 + 1 + 1 + 1, oO) :: (L0 + 1 + 1, oB) :: (L0 + 1, oA) :: (xs, listOf vs.toArray nn) :: tl) := by
  have a1 := Ne.symm (d _ (.tail _ (.tail _ (.tail _ (.tail _ (.tail _ (.tail _ (.head _))))))))
  have a2 := Ne.symm (d _ (.tail _ (.tail _ (.tail _ (.tail _ (.tail _ (.head _)))))))
  have a3 := Ne.symm (d _ (.tail _ (.head _)))
  have a4 := Ne.symm (d _ (.tail _ (.tail _ (.head _))))
  have a5 := Ne.symm (d _ (.tail _ (.tail _ (.tail _ (.head _)))))
  have a6 := Ne.symm (d _ (.tail _ (.tail _ (.tail _ (.tail _ (.head _))))))
  have m2 : (xs, listOf vs.toArray nn) ∈ tl ++ [(bx, bo), (xs, listOf vs.toArray nn), (L0 + 1 + 1 + 1 + 1, oW), (L0 + 1 + 1 + 1, oO), (L0 + 1 + 1, oB), (L0 + 1, oA), (340, tabObj #[]), (347, tabObj #[])] := List.mem_append_right _ (.tail _ (.head _))
  have ho : Off7 L0 bx xs := by
    refine ⟨ne_of_data N m2 (List.mem_append_right _ (.tail _ (.tail _ (.tail _ (.tail _ (.tail _ (.tail _ (.tail _ (.head _)))))))))  (by intro e; cases e), ne_of_data N m2 (List.mem_append_right _ (.tail _ (.tail _ (.tail _ (.tail _ (.tail _ (.tail _ (.head _)))))))) (by intro e; cases e), d _ (.head _), ?_, ?_, ?_, ?_⟩
    · exact ne_of_data N m2 (List.mem_append_right _ (.tail _ (.tail _ (.head _)))) (by rw [e1]; intro e; cases e)
    · exact ne_of_data N m2 (List.mem_append_right _ (.tail _ (.tail _ (.tail _ (.head _))))) (by rw [e2]; intro e; cases e)
    · exact ne_of_data N m2 (List.mem_append_right _ (.tail _ (.tail _ (.tail _ (.tail _ (.head _)))))) (by rw [e3]; intro e; cases e)
    · exact ne_of_data N m2 (List.mem_append_right _ (.tail _ (.tail _ (.tail _ (.tail _ (.tail _ (.head _))))))) (by rw [e4]; intro e; cases e)
  refine ⟨⟨b0, b7, ⟨a1, a2, a3, a4, a5, a6⟩, ?_, TabOk.empty, TabOk.empty, .head _, IsWorld.mono wl fun _ hp => .tail _ hp, rfl⟩, fun p hp => N p ?_⟩
  · intro p hp
    rcases List.mem_cons.mp hp with rfl | hp
    · exact ho
    · exact nzo b0 b7 (l p hp _ (.tail _ (.tail _ (.head _)))) (Nat.ne_of_lt (l p hp _ (.head _)))
  · simp only [List.mem_cons, List.mem_append] at hp ⊢
    rcases hp with h | h | h | h | h | h | h | h | h <;> simp only [h, true_or, or_true]
end
noncomputable def Held (P : Prop) : Prop := P
theorem Held.out {P : Prop} (h : Held P) : P := h
noncomputable def LJ (L0 bx xs wa : Addr) (vs : List Value) (nn : Nat) (wd ml : Int) (m₀ : Str → Option Value) (i : Nat) (m : Str → Option Value) (news : Led) : Prop :=
  ∃ qs ps bo oW oO oB oA vO vB vA u1 u2 u3 u4 u5 ex hi, news = (347, tabObj qs) :: (340, tabObj ps) :: (bx, bo) :: (L0 + 1 + 1 + 1 + 1, oW) :: (L0 + 1 + 1 + 1, oO) :: (L0 + 1 + 1, oB) :: (L0 + 1, oA) :: ex ∧
    oO.data = .cell vO ∧ oB.data = .cell vB ∧ oA.data = .cell vA ∧ IsBox xs hi bo ∧ hi ≤ 3 + 5 * (i : Int) ∧ Can L0 bx xs wa vs nn wd ml qs ps oW ex ∧
    m = fun y => if y = nm "found" then u1 else if y = nm "both" then u2 else if y = nm "other" then u3 else if y = nm "one" then u4 else if y = nm "turn" then u5 else m₀ y
theorem m5_0 (m₀ : Str → Option Value) : m₀ = fun y => if y = nm "found" then m₀ (nm "found") else if y = nm "both" then m₀ (nm "both") else if y = nm "other" then m₀ (nm "other") else if y = nm "one" then m₀ (nm "one") else if y = nm "turn" then m₀ (nm "turn") else m₀ y := by
  funext y
  repeat (split; (rename_i h; rw [h]))
  rfl
theorem if_st {α : Type} {c : Prop} [Decidable c] {a x y : α} (h : ¬ c → x = y) : (if c then a else x) = if c then a else y := by
  by_cases e : c
  · rw [if_pos e, if_pos e]
  · rw [if_neg e, if_neg e]; exact h e
theorem if_sk {α : Type} {c : Prop} [Decidable c] {u x y : α} (e : ¬ c) (h : x = y) : (if c then u else x) = y := (if_neg e).trans h
theorem if_sw {α : Type} {c d : Prop} [Decidable c] [Decidable d] {a b x : α} (n : d → ¬ c) : (if c then a else if d then b else x) = if d then b else if c then a else x := by
  by_cases e : d
  · rw [if_neg (n e), if_pos e, if_pos e]
  · rw [if_neg e, if_neg e]
theorem m5_n {m₀ : Str → Option Value} {a1 a2 a3 a4 a5 u1 u2 u3 u4 u5 : Option Value} : (fun y => if y = nm "found" then a1 else if y = nm "both" then a2 else if y = nm "other" then a3 else if y = nm "one" then a4 else if y = nm "turn" then a5 else if y = nm "found" then u1 else if y = nm "both" then u2 else if y = nm "other" then u3 else if y = nm "one" then u4 else if y = nm "turn" then u5 else m₀ y) =
    fun y => if y = nm "found" then a1 else if y = nm "both" then a2 else if y = nm "other" then a3 else if y = nm "one" then a4 else if y = nm "turn" then a5 else m₀ y :=
  funext fun _ => if_st fun h1 => if_st fun h2 => if_st fun h3 => if_st fun h4 => if_st fun h5 => if_sk h1 (if_sk h2 (if_sk h3 (if_sk h4 (if_neg h5))))
theorem LJ.init {L0 bx xs wa : Addr} {vs : List Value} {nn : Nat} {wd ml hi : Int} {m₀ : Str → Option Value} {qs ps : Array Value} {oW oO oB oA bo : Obj} {vO vB vA : Option Value} {ex : Led} (e2 : oO.data = .cell vO) (e3 : oB.data = .cell vB) (e4 : oA.data = .cell vA) (b : IsBox xs hi bo) (hh : hi ≤ 3)
    (C : Can L0 bx xs wa vs nn wd ml qs ps oW ex) : LJ L0 bx xs wa vs nn wd ml m₀ 0 m₀ ((347, tabObj qs) :: (340, tabObj ps) :: (bx, bo) :: (L0 + 1 + 1 + 1 + 1, oW) :: (L0 + 1 + 1 + 1, oO) :: (L0 + 1 + 1, oB) :: (L0 + 1, oA) :: ex) :=
  ⟨_, _, _, _, _, _, _, _, _, _, _, _, _, _, _, _, hi, rfl, e2, e3, e4, b, by omega, C, m5_0 _⟩
structure Cant (L0 bx xs wa : Addr) (vs : List Value) (nn : Nat) (wd ml : Int) (qs ps : Array Value) (oW : Obj) (st ex : Led) (I : Addr) (it : Obj) : Prop where
  base : Can L0 bx xs wa vs nn wd ml qs ps oW st
  off : ∀ p ∈ ex, Off7 L0 bx p.1
  sst : ∀ p ∈ st, p ∈ ex
  sI : ∀ p ∈ st, p.1 ≠ I
  mI : (I, it) ∈ ex
section
variable {L0 bx xs wa I : Addr} {vs : List Value} {nn : Nat} {wd ml : Int} {qs ps qs' ps' : Array Value} {oW oO oB oA bo bo' T P it : Obj} {st ex tl : Led} {h₀ h : Heap}
theorem Cant.toCan (C : Cant L0 bx xs wa vs nn wd ml qs ps oW st ex I it) : Can L0 bx xs wa vs nn wd ml qs ps oW ex :=
  C.base.mono C.sst C.off (C.base.tq.mono C.sst) (C.base.tp.mono C.sst)
theorem Cant.val (C : Cant L0 bx xs wa vs nn wd ml qs ps oW st ex I it) (l : ∀ p ∈ tl, p.1 ≠ bx ∧ ∀ q ∈ (347, T) :: (340, P) :: (L0 + 1 + 1 + 1 + 1, oW) :: (L0 + 1 + 1 + 1, oO) :: (L0 + 1 + 1, oB) :: (L0 + 1, oA) :: ex, q.1 < p.1) : Cant L0 bx xs wa vs nn wd ml qs ps oW st (tl ++ ex) I it :=
  ⟨C.base, fun p hp => (List.mem_append.mp hp).elim (fun hp => off_gt C.base ((l p hp).2 (L0 + 1 + 1 + 1 + 1, oW) (.tail _ (.tail _ (.head _)))) (Ne.symm (l p hp).1)) (C.off p), fun p hp => List.mem_append_right _ (C.sst p hp), C.sI, List.mem_append_right _ C.mI⟩
theorem Cant.joinL (C : Cant L0 bx xs wa vs nn wd ml qs ps oW st ex I it) (l : ∀ q ∈ tl, 340 < q.1 ∧ ∀ p ∈ (347, T) :: (bx, bo) :: (L0 + 1 + 1 + 1 + 1, oW) :: (L0 + 1 + 1 + 1, oO) :: (L0 + 1 + 1, oB) :: (L0 + 1, oA) :: ex, p.1 < q.1) (tb : TabOk (tl ++ st) qualJ ps') : Cant L0 bx xs wa vs nn wd ml qs ps' oW (tl ++ st) (tl ++ ex) I it := by
  have ho : ∀ p ∈ tl, Off7 L0 bx p.1 := fun p hp => off_gt C.base ((l p hp).2 (L0 + 1 + 1 + 1 + 1, oW) (.tail _ (.tail _ (.head _)))) (Nat.ne_of_lt ((l p hp).2 (bx, bo) (.tail _ (.head _))))
  refine ⟨C.base.mono (fun _ hp => List.mem_append_right _ hp) (fun p hp => (List.mem_append.mp hp).elim (ho p) (C.base.off p)) (C.base.tq.mono fun _ hp => List.mem_append_right _ hp) tb, fun p hp => (List.mem_append.mp hp).elim (ho p) (C.off p),
    fun p hp => (List.mem_append.mp hp).elim (List.mem_append_left _) (fun hp => List.mem_append_right _ (C.sst p hp)), fun p hp => (List.mem_append.mp hp).elim (fun hp => Ne.symm (Nat.ne_of_lt ((l p hp).2 (I, it) (.tail _ (.tail _ (.tail _ (.tail _ (.tail _ (.tail _ C.mI))))))))) (C.sI p), List.mem_append_right _ C.mI⟩
theorem Cant.lam (C : Cant L0 bx xs wa vs nn wd ml qs ps oW st ex I it) {f : Addr} {fo : Obj} (l1 : ∀ q ∈ tl, 347 < q.1 ∧ q.1 < f ∧ ∀ p ∈ (340, P) :: (bx, bo) :: (L0 + 1 + 1 + 1 + 1, oW) :: (L0 + 1 + 1 + 1, oO) :: (L0 + 1 + 1, oB) :: (L0 + 1, oA) :: ex, p.1 < q.1)
    (l3 : ∀ p ∈ (340, P) :: (bx, bo) :: (L0 + 1 + 1 + 1 + 1, oW) :: (L0 + 1 + 1 + 1, oO) :: (L0 + 1 + 1, oB) :: (L0 + 1, oA) :: ex, p.1 < f) (tb : TabOk (tl ++ st) qualL qs') : Cant L0 bx xs wa vs nn wd ml qs' ps oW (tl ++ st) ((f, fo) :: (tl ++ ex)) I it := by
  have ho : ∀ p ∈ tl, Off7 L0 bx p.1 := fun p hp => off_gt C.base ((l1 p hp).2.2 (L0 + 1 + 1 + 1 + 1, oW) (.tail _ (.tail _ (.head _)))) (Nat.ne_of_lt ((l1 p hp).2.2 (bx, bo) (.tail _ (.head _))))
  refine ⟨C.base.mono (fun _ hp => List.mem_append_right _ hp) (fun p hp => (List.mem_append.mp hp).elim (ho p) (C.base.off p)) tb (C.base.tp.mono fun _ hp => List.mem_append_right _ hp), fun p hp => ?_,
    fun p hp => .tail _ ((List.mem_append.mp hp).elim (List.mem_append_left _) (fun hp => List.mem_append_right _ (C.sst p hp))), fun p hp => (List.mem_append.mp hp).elim (fun hp => Ne.symm (Nat.ne_of_lt ((l1 p hp).2.2 (I, it) (.tail _ (.tail _ (.tail _ (.tail _ (.tail _ (.tail _ C.mI))))))))) (C.sI p), .tail _ (List.mem_append_right _ C.mI)⟩
  rcases List.mem_cons.mp hp with rfl | hp
  · exact off_gt C.base (l3 (L0 + 1 + 1 + 1 + 1, oW) (.tail _ (.tail _ (.head _)))) (Nat.ne_of_lt (l3 (bx, bo) (.tail _ (.head _))))
  · exact (List.mem_append.mp hp).elim (ho p) (C.off p)
theorem Cant.start (C : Can L0 bx xs wa vs nn wd ml qs ps oW st) (off : ∀ p ∈ (347, T) :: (340, P) :: (bx, bo) :: (L0 + 1 + 1 + 1 + 1, oW) :: (L0 + 1 + 1 + 1, oO) :: (L0 + 1 + 1, oB) :: (L0 + 1, oA) :: st, p.1 ≠ I) : Cant L0 bx xs wa vs nn wd ml qs ps oW st ((I, it) :: st) I it := by
  refine ⟨C, fun p hp => ?_, fun p hp => .tail _ hp, fun p hp => off p (.tail _ (.tail _ (.tail _ (.tail _ (.tail _ (.tail _ (.tail _ hp))))))), .head _⟩
  rcases List.mem_cons.mp hp with rfl | hp
  · exact ⟨Ne.symm (off _ (.head _)), Ne.symm (off _ (.tail _ (.head _))), Ne.symm (off _ (.tail _ (.tail _ (.head _)))), Ne.symm (off _ (.tail _ (.tail _ (.tail _ (.head _))))), Ne.symm (off _ (.tail _ (.tail _ (.tail _ (.tail _ (.head _)))))), Ne.symm (off _ (.tail _ (.tail _ (.tail _ (.tail _ (.tail _ (.head _))))))), Ne.symm (off _ (.tail _ (.tail _ (.tail _ (.tail _ (.tail _ (.tail _ (.head _))))))))⟩
  · exact C.off p hp
theorem n_start (N : News h₀ L0 h ((I, it) :: (347, T) :: (340, P) :: (bx, bo) :: (L0 + 1 + 1 + 1 + 1, oW) :: (L0 + 1 + 1 + 1, oO) :: (L0 + 1 + 1, oB) :: (L0 + 1, oA) :: st)) : News h₀ L0 h ((347, T) :: (340, P) :: (bx, bo) :: (L0 + 1 + 1 + 1 + 1, oW) :: (L0 + 1 + 1 + 1, oO) :: (L0 + 1 + 1, oB) :: (L0 + 1, oA) :: (I, it) :: st) :=
  fun p hp => N p (mem_mid [_, _, _, _, _, _, _] st hp)
theorem Cant.fin (C : Cant L0 bx xs wa vs nn wd ml qs ps oW st ex I it) {hi : Int} {i : Nat} {m₀ : Str → Option Value} {vO vB vA u1 u2 u3 u4 u5 : Option Value} {s : Shared} {tk : Nat}
    (F : Fr h₀ L0 h (fun y => if y = nm "found" then u1 else if y = nm "both" then u2 else if y = nm "other" then u3 else if y = nm "one" then u4 else if y = nm "turn" then u5 else m₀ y))
    (N : News h₀ L0 h ((347, tabObj qs) :: (340, tabObj ps) :: (bx, bo) :: (L0 + 1 + 1 + 1 + 1, oW) :: (L0 + 1 + 1 + 1, oO) :: (L0 + 1 + 1, oB) :: (L0 + 1, oA) :: ex)) (eO : oO.data = .cell vO) (eB : oB.data = .cell vB) (eA : oA.data = .cell vA) (b : IsBox xs hi bo) (hh : hi ≤ 3 + 5 * ((i + 1 : Nat) : Int)) :
    UnrEnd h₀ L0 s I it (LJ L0 bx xs wa vs nn wd ml m₀ (i + 1)) { s with heap := h, toks := tk } := by
  obtain ⟨a1, a2, a3, a4, a5, a6, a7⟩ := C.off _ C.mI
  refine ⟨h, tk, _, (347, tabObj qs) :: (340, tabObj ps) :: (bx, bo) :: (L0 + 1 + 1 + 1 + 1, oW) :: (L0 + 1 + 1 + 1, oO) :: (L0 + 1 + 1, oB) :: (L0 + 1, oA) :: st, rfl, F, fun p hp => N p ?_, fun p hp => ?_, ?_⟩
  · simp only [List.mem_cons] at hp ⊢
    rcases hp with h | h | h | h | h | h | h | h | h
    · exact .inr (.inr (.inr (.inr (.inr (.inr (.inr (h ▸ C.mI)))))))
    · exact .inl h
    · exact .inr (.inl h)
    · exact .inr (.inr (.inl h))
    · exact .inr (.inr (.inr (.inl h)))
    · exact .inr (.inr (.inr (.inr (.inl h))))
    · exact .inr (.inr (.inr (.inr (.inr (.inl h)))))
    · exact .inr (.inr (.inr (.inr (.inr (.inr (.inl h))))))
    · exact .inr (.inr (.inr (.inr (.inr (.inr (.inr (C.sst p h)))))))
  · simp only [List.mem_cons] at hp
    rcases hp with rfl | rfl | rfl | rfl | rfl | rfl | rfl | hp
    · exact Ne.symm a1
    · exact Ne.symm a2
    · exact Ne.symm a3
    · exact Ne.symm a4
    · exact Ne.symm a5
    · exact Ne.symm a6
    · exact Ne.symm a7
    · exact C.sI p hp
  · exact ⟨_, _, _, _, _, _, _, _, _, _, _, _, _, _, _, _, _, rfl, eO, eB, eA, b, hh, C.base, rfl⟩
end
noncomputable def PostCan (g0 : Heap) (L0 bx xs wa : Addr) (vs : List Value) (nn : Nat) (wd ml : Int) (bo oW oO oB oA : Obj) (ex : Led) (I : Addr) (it : Obj) (m : Str → Option Value) (s : Shared) (fl : Flow) (s' : Shared) : Prop :=
  fl = .next ∧ ∃ qs' ps' st' ex' h' tk', s' = { s with heap := h', toks := tk' } ∧ Fr g0 L0 h' m ∧ News g0 L0 h' ((347, tabObj qs') :: (340, tabObj ps') :: (bx, bo) :: (L0 + 1 + 1 + 1 + 1, oW) :: (L0 + 1 + 1 + 1, oO) :: (L0 + 1 + 1, oB) :: (L0 + 1, oA) :: ex') ∧
    Cant L0 bx xs wa vs nn wd ml qs' ps' oW st' ex' I it ∧ ∀ p ∈ ex, p ∈ ex'
theorem cut {M : Model} {A : Around} {st : Stmt} {rest : List Stmt} {env : Env} {E : Value → Shared → Prop} {Q : Flow → Shared → Prop} {s : Shared} {g0 : Heap} {L0 bx xs wa I : Addr} {vs : List Value} {nn : Nat} {wd ml : Int} {bo oW oO oB oA it : Obj} {ex : Led} {m : Str → Option Value}
    (h1 : wpAny M A (exec st env) (PostCan g0 L0 bx xs wa vs nn wd ml bo oW oO oB oA ex I it m s) E s)
    (h2 : ∀ qs' ps' st' ex' h' tk', Fr g0 L0 h' m → News g0 L0 h' ((347, tabObj qs') :: (340, tabObj ps') :: (bx, bo) :: (L0 + 1 + 1 + 1 + 1, oW) :: (L0 + 1 + 1 + 1, oO) :: (L0 + 1 + 1, oB) :: (L0 + 1, oA) :: ex') →
      Cant L0 bx xs wa vs nn wd ml qs' ps' oW st' ex' I it → (∀ p ∈ ex, p ∈ ex') → wpAny M A (execs rest env) Q E { s with heap := h', toks := tk' }) : wpAny M A (execs (st :: rest) env) Q E s := by
  refine wpAny_execs_cons (wpAny_mono h1 ?_ fun _ _ e => e)
  rintro fl s' ⟨rfl, qs', ps', st', ex', h', tk', rfl, F, N, C, sb⟩
  exact h2 qs' ps' st' ex' h' tk' F N C sb
theorem PostCan.intro {g0 : Heap} {L0 bx xs wa I : Addr} {vs : List Value} {nn : Nat} {wd ml : Int} {bo oW oO oB oA it : Obj} {ex st' ex' : Led} {qs' ps' : Array Value} {m : Str → Option Value} {s : Shared} {h' : Heap} {tk' : Nat} {big : Led}
    (F : Fr g0 L0 h' m) (N : News g0 L0 h' big) (C : Cant L0 bx xs wa vs nn wd ml qs' ps' oW st' ex' I it) (hb : ∀ p ∈ (347, tabObj qs') :: (340, tabObj ps') :: (bx, bo) :: (L0 + 1 + 1 + 1 + 1, oW) :: (L0 + 1 + 1 + 1, oO) :: (L0 + 1 + 1, oB) :: (L0 + 1, oA) :: ex', p ∈ big) (sb : ∀ p ∈ ex, p ∈ ex') :
    PostCan g0 L0 bx xs wa vs nn wd ml bo oW oO oB oA ex I it m s .next { s with heap := h', toks := tk' } := ⟨rfl, _, _, _, _, _, _, rfl, F, fun p hp => N p (hb p hp), C, sb⟩

end
end Mine
namespace Mine
section
open PySem PySem.W PySem.Spec PySem.Calls PyProof.Rows PySem.W.X
section
variable {L0 bx xs wa I : Addr} {vs : List Value} {nn : Nat} {wd ml : Int} {qs ps : Array Value} {oW oO oB oA bo it : Obj} {st ex : Led} {h₀ h : Heap} {l : Addr} {lo : Obj} {c7 c6 c5 c4 c3 c2 c1 : Addr × Obj}
theorem n_head (N : News h₀ L0 h ((l, lo) :: c7 :: c6 :: c5 :: c4 :: c3 :: c2 :: c1 :: ex)) : News h₀ L0 h (c7 :: c6 :: c5 :: c4 :: c3 :: c2 :: c1 :: (l, lo) :: ex) :=
  fun p hp => N p (mem_mid [_, _, _, _, _, _, _] ex hp)
theorem Cant.cons {R : Prop} (C : Cant L0 bx xs wa vs nn wd ml qs ps oW st ex I it) (hl : 347 < l ∧ 340 < l ∧ bx < l ∧ L0 + 1 + 1 + 1 + 1 < l ∧ L0 + 1 + 1 + 1 < l ∧ L0 + 1 + 1 < l ∧ L0 + 1 < l ∧ R) : Cant L0 bx xs wa vs nn wd ml qs ps oW st ((l, lo) :: ex) I it := by
  refine ⟨C.base, fun p hp => ?_, fun p hp => .tail _ (C.sst p hp), C.sI, .tail _ C.mI⟩
  rcases List.mem_cons.mp hp with rfl | hp
  · exact off_gt C.base hl.2.2.2.1 (Nat.ne_of_lt hl.2.2.1)
  · exact C.off p hp
theorem Cant.head {R : Prop} {T P : Obj} (C : Cant L0 bx xs wa vs nn wd ml qs ps oW st ex I it) (N : News h₀ L0 h ((l, lo) :: (347, T) :: (340, P) :: (bx, bo) :: (L0 + 1 + 1 + 1 + 1, oW) :: (L0 + 1 + 1 + 1, oO) :: (L0 + 1 + 1, oB) :: (L0 + 1, oA) :: ex)) (hl : 347 < l ∧ 340 < l ∧ bx < l ∧ L0 + 1 + 1 + 1 + 1 < l ∧ L0 + 1 + 1 + 1 < l ∧ L0 + 1 + 1 < l ∧ L0 + 1 < l ∧ R) :
    Cant L0 bx xs wa vs nn wd ml qs ps oW st ((l, lo) :: ex) I it ∧ News h₀ L0 h ((347, T) :: (340, P) :: (bx, bo) :: (L0 + 1 + 1 + 1 + 1, oW) :: (L0 + 1 + 1 + 1, oO) :: (L0 + 1 + 1, oB) :: (L0 + 1, oA) :: (l, lo) :: ex) := ⟨C.cons hl, n_head N⟩
end
section
variable {prog : Program} {w : World} {A : Around} {E : Value → Shared → Prop} {s : Shared} {h₀ : Heap} {L l : Addr} {news n1 n2 : Led} {Q : Value → Shared → Prop} {nn : Nat} {d : Int} {t1 t2 t3 t4 t5 t6 u : Tok}
theorem op_item {value slice : Expr} (N : News h₀ L s.heap news) (hm : (l, listOf #[.str (nm "+") t1, .str (nm "-") t2, .str (nm "*") t3, .str (nm "/") t4, .str (nm "**") t5, .str (nm "!") t6] nn) ∈ news) (h0 : 0 ≤ d) (h6 : d < 6) (h : ∀ (o : Op) t, Q (.str o.s t) s)
    (hs : subscripted slice false (.ref l) (.int d u) = operate [.ref l, .int d u] (getItem (.ref l) (.int d u)) := by with_unfolding_all rfl) : wpAny (model prog w) A (subscriptTail value slice (.ref l) (.int d u)) Q E s := by
  have L1 := News.isList N hm
  refine tail_any L1.typeIs slot_list_getitem.lookup ?_ hs
  rcases six6 h6 h0 with rfl | rfl | rfl | rfl | rfl | rfl
  · exact wpAny_getItem_list L1 (by decide) (by decide) rfl (h .add _)
  · exact wpAny_getItem_list L1 (by decide) (by decide) rfl (h .sub _)
  · exact wpAny_getItem_list L1 (by decide) (by decide) rfl (h .mul _)
  · exact wpAny_getItem_list L1 (by decide) (by decide) rfl (h .div _)
  · exact wpAny_getItem_list L1 (by decide) (by decide) rfl (h .pow _)
  · exact wpAny_getItem_list L1 (by decide) (by decide) rfl (h .bang _)
theorem ans_ne {v1 v2 : Value} {a b : Ans} (N : News h₀ L s.heap news) (D1 : IsAns n1 v1 a) (s1 : ∀ q ∈ n1, q ∈ news) (D2 : IsAns n2 v2 b) (s2 : ∀ q ∈ n2, q ∈ news) (e : a = b) (hu : A.units + 64 < cLine) (h : Q (.bool false) s) : wpAny (model prog w) A (compareOp .NotEq v1 v2) Q E s := by
  subst e
  cases D1 with
  | ok n t =>
    cases D2 with
    | ok n t => exact PyProof.Rows.ne_int (by rw [show (n != n) = false by simp]; exact h)
  | err D1 =>
    cases D2 with
    | err D2 => exact dat_ne N (D1.mono s1) (D2.mono s2) (err_kqd _) (err_kqd _) hu (by rw [eqv_self (err_kqd _)]; exact h)
theorem int_ne {a b : Int} {t u : Tok} (e : a = b) (h : Q (.bool false) s) : wpAny (model prog w) A (compareOp .NotEq (.int a t) (.int b u)) Q E s := by
  subst e
  exact PyProof.Rows.ne_int (by rw [show (a != a) = false by simp]; exact h)
end
noncomputable def AnsIs (_ : Ans) : Prop := True
noncomputable def ResIs (_ : Except Int Pv) : Prop := True
theorem heardM {w : World} {k : Nat} {fa : Addr} {fd : FuncData} {oc : Value} {od : Option Addr} {osl : Array (Option Value)} {news : Led} {A : Ans} (_ : AnsIs A) (hfa : (fa, (⟨oc, od, .func fd, osl⟩ : Obj)) ∈ news) (C : Ctr w k fa [] news (fun r tl => tl = [] ∧ ∃ n t, r = .int n t ∧ A = .ok n) (fun e => A = .error e)) :
   CtrT w (k + 3) 317 [.ref fa] news (fun r tl => IsAns (tl ++ news) r A) := heardA hfa C
theorem heardN {w : World} {k : Nat} {fa : Addr} {fd : FuncData} {oc : Value} {od : Option Addr} {osl : Array (Option Value)} {news : Led} {R : Except Int Pv} (_ : ResIs R) (hfa : (fa, (⟨oc, od, .func fd, osl⟩ : Obj)) ∈ news) (C : Ctr w k fa [] news (fun r tl => ∃ x, R = .ok x ∧ IsPv w (tl ++ news) r x) (fun e => R = .error e)) :
   CtrT w (k + 3) 317 [.ref fa] news (fun r tl => IsRes w (tl ++ news) r (resOf R)) := heardR hfa C
theorem heard5 {w : World} {k : Nat} {fa : Addr} {fd : FuncData} {oc : Value} {od : Option Addr} {osl : Array (Option Value)} {news : Led} (hfa : (fa, (⟨oc, od, .func fd, osl⟩ : Obj)) ∈ news) (C : Ctr w k fa [] news (fun _ _ => False) (fun e => e = 5)) :
   CtrT w (k + 3) 317 [.ref fa] news (fun r tl => DatIn (tl ++ news) r (errD 5)) := by
  intro dp un gd cn cs a ccd cl outer A₀ base h₀ L m loose mean mg mb s Q E B F X N T hk XB TB hd hu ret
  refine CtrT.use (c_heard w k fa fd oc od osl news hfa _ _ C) B F X N T hk XB TB hd hu fun r tl h' tk' h₀' T' F' N' B' X' TT' o => ret r tl h' tk' h₀' T' F' N' B' X' TT' ?_
  rcases o with h | ⟨n, e, h⟩
  · exact h.elim
  · rw [← e]; exact h
theorem CtrJ.use {w : World} {k : Nat} {args : List Value} {ps : Array Value} {st rest : Led} (C : CtrJ w k args ps st rest)
    {dp un : Nat} {gd : Option (List Code)} {cn : Str} {cs : Scope} {a : Addr} {ccd : Value} {cl : List (Str × Addr)} {outer : List Env} {A₀ : Around} {base h₀ : Heap} {L : Addr} {m : Str → Option Value}
    {loose : List Str} {mean : ExcName → Option Value} {mg mb : Str → Option Value} {s : Shared} {Q E : Value → Shared → Prop}
    (B : Below A₀ base outer h₀) (F : Fr h₀ L s.heap m) (X : (mkK.heap_1 w.params).In h₀) (N : News h₀ L s.heap ((340, tabObj ps) :: rest)) (T : Top topProg loose mean mg mb h₀) (hk : cs.kind = .function) (XB : (mkK.heap_1 w.params).In base) (TB : Top topProg loose mean mg mb base) (CB : CodeJ base) (hd : dp + k < recursionLimit) (hu : un + 8 * k < cLine)
    (ret : ∀ ps' tl h' tk' h₀', KtsTurn (outer.filterMap (·.frame)) h₀ h₀' → Fr h₀' L h' m → News h₀' L h' ((340, tabObj ps') :: (tl ++ rest)) → TabOk (tl ++ st) qualJ ps' →
      (∀ q ∈ tl, 340 < q.1 ∧ ∀ p ∈ rest, p.1 < q.1) → Q (.bool true) { s with heap := h', toks := tk' }) :
    wpAny (model PySem.Challenge.rw_np0295_01.row.prog w) (ktrTop dp un gd cn cs L a ccd cl outer) (call (.ref 345) args) Q E s :=
  C _ _ _ _ _ _ _ _ _ _ _ _ _ _ _ _ _ _ _ _ _ B F X N T hk XB TB CB hd hu fun ps' tl h' tk' h₀' T' F' N' _ _ _ tb l t ht => by subst ht; exact ret ps' tl h' tk' h₀' T' F' N' tb l
structure GV (w : World) (led : Led) (wd : Int) (v ov : Value) (p : Pv) : Prop where
  pv : IsPv w led v p
  ok : p.ok
  opt : IsOpt ov (p.whole wd)
  txt : p.ltext = p.text
theorem GoodV.gv {w : World} {led led' : Led} {wd : Int} {v ov : Value} {p : Pv} (h : GoodV w led wd v ov p) (hs : ∀ q ∈ led, q ∈ led') : GV w led' wd v ov p := ⟨IsPv.mono h.1 hs, h.2.1, h.2.2.1, h.2.2.2⟩
theorem GV.mono {w : World} {led led' : Led} {wd : Int} {v ov : Value} {p : Pv} (h : GV w led wd v ov p) (hs : ∀ q ∈ led, q ∈ led') : GV w led' wd v ov p := ⟨h.pv.mono hs, h.ok, h.opt, h.txt⟩
theorem GV.three {w : World} {led : Led} {wd : Int} {t1 t2 : Tok} : GV w led wd (.int 3 t1) (.int 3 t2) (.int 3) := ⟨.int _ _, by show okI 3; unfold okI; omega, .some _ _, small (i := 3) (by decide) (by decide)⟩
noncomputable def PostB (w : World) (g0 : Heap) (L0 bx : Addr) (wd : Int) (T P bo oW oO oA : Obj) (ex : Led) (m : Str → Option Value) (s : Shared) (fl : Flow) (s' : Shared) : Prop :=
  fl = .next ∧ ∃ oB' vb ov p h' tk', s' = { s with heap := h', toks := tk' } ∧ Fr g0 L0 h' (fun y => if y = nm "other" then some ov else m y) ∧ News g0 L0 h' ((347, T) :: (340, P) :: (bx, bo) :: (L0 + 1 + 1 + 1 + 1, oW) :: (L0 + 1 + 1 + 1, oO) :: (L0 + 1 + 1, oB') :: (L0 + 1, oA) :: ex) ∧
    oB'.data = .cell (some vb) ∧ GV w ex wd vb ov p
theorem cutB {M : Model} {A : Around} {st : Stmt} {rest : List Stmt} {env : Env} {E : Value → Shared → Prop} {Q : Flow → Shared → Prop} {s : Shared} {w : World} {g0 : Heap} {L0 bx : Addr} {wd : Int} {T P bo oW oO oA : Obj} {ex : Led} {m : Str → Option Value}
    (h1 : wpAny M A (exec st env) (PostB w g0 L0 bx wd T P bo oW oO oA ex m s) E s)
    (h2 : ∀ oB' vb ov p h' tk', Fr g0 L0 h' (fun y => if y = nm "other" then some ov else m y) → News g0 L0 h' ((347, T) :: (340, P) :: (bx, bo) :: (L0 + 1 + 1 + 1 + 1, oW) :: (L0 + 1 + 1 + 1, oO) :: (L0 + 1 + 1, oB') :: (L0 + 1, oA) :: ex) →
      oB'.data = .cell (some vb) → GV w ex wd vb ov p → wpAny M A (execs rest env) Q E { s with heap := h', toks := tk' }) : wpAny M A (execs (st :: rest) env) Q E s := by
  refine wpAny_execs_cons (wpAny_mono h1 ?_ fun _ _ e => e)
  rintro fl s' ⟨rfl, oB', vb, ov, p, h', tk', rfl, F, N, e, g⟩
  exact h2 oB' vb ov p h' tk' F N e g
theorem cutB' {M : Model} {A : Around} {sm : Stmt} {rest : List Stmt} {env : Env} {E : Value → Shared → Prop} {Q : Flow → Shared → Prop} {s : Shared} {w : World} {g0 : Heap} {L0 bx xs wa I : Addr} {vs : List Value} {nn : Nat} {wd ml : Int} {qs ps : Array Value} {bo oW oO oB oA it : Obj} {st ex : Led} {m : Str → Option Value} {v1 v2 ov1 ov2 : Value} {p q : Pv}
    (F : Fr g0 L0 s.heap m) (_ : News g0 L0 s.heap ((347, tabObj qs) :: (340, tabObj ps) :: (bx, bo) :: (L0 + 1 + 1 + 1 + 1, oW) :: (L0 + 1 + 1 + 1, oO) :: (L0 + 1 + 1, oB) :: (L0 + 1, oA) :: ex)) (_ : Cant L0 bx xs wa vs nn wd ml qs ps oW st ex I it) (_ : GV w ex wd v1 ov1 p) (_ : GV w ex wd v2 ov2 q)
    (h1 : wpAny M A (exec sm env) (PostB w g0 L0 bx wd (tabObj qs) (tabObj ps) bo oW oO oA ex m s) E s)
    (h2 : ∀ oB' vb ov p h' tk', Fr g0 L0 h' (fun y => if y = nm "other" then some ov else m y) → News g0 L0 h' ((347, tabObj qs) :: (340, tabObj ps) :: (bx, bo) :: (L0 + 1 + 1 + 1 + 1, oW) :: (L0 + 1 + 1 + 1, oO) :: (L0 + 1 + 1, oB') :: (L0 + 1, oA) :: ex) →
      oB'.data = .cell (some vb) → GV w ex wd vb ov p → wpAny M A (execs rest env) Q E { s with heap := h', toks := tk' }) : wpAny M A (execs (sm :: rest) env) Q E s := cutB h1 h2
theorem cut' {M : Model} {A : Around} {sm : Stmt} {rest : List Stmt} {env : Env} {E : Value → Shared → Prop} {Q : Flow → Shared → Prop} {s : Shared} {g0 : Heap} {L0 bx xs wa I : Addr} {vs : List Value} {nn : Nat} {wd ml : Int} {qs ps : Array Value} {bo oW oO oB oA it : Obj} {st ex : Led} {m : Str → Option Value}
    (F : Fr g0 L0 s.heap m) (_ : News g0 L0 s.heap ((347, tabObj qs) :: (340, tabObj ps) :: (bx, bo) :: (L0 + 1 + 1 + 1 + 1, oW) :: (L0 + 1 + 1 + 1, oO) :: (L0 + 1 + 1, oB) :: (L0 + 1, oA) :: ex)) (_ : Cant L0 bx xs wa vs nn wd ml qs ps oW st ex I it)
    (h1 : wpAny M A (exec sm env) (PostCan g0 L0 bx xs wa vs nn wd ml bo oW oO oB oA ex I it m s) E s)
    (h2 : ∀ qs' ps' st' ex' h' tk', Fr g0 L0 h' m → News g0 L0 h' ((347, tabObj qs') :: (340, tabObj ps') :: (bx, bo) :: (L0 + 1 + 1 + 1 + 1, oW) :: (L0 + 1 + 1 + 1, oO) :: (L0 + 1 + 1, oB) :: (L0 + 1, oA) :: ex') →
      Cant L0 bx xs wa vs nn wd ml qs' ps' oW st' ex' I it → (∀ p ∈ ex, p ∈ ex') → wpAny M A (execs rest env) Q E { s with heap := h', toks := tk' }) : wpAny M A (execs (sm :: rest) env) Q E s := cut h1 h2
theorem PostB.same {w : World} {g0 : Heap} {L0 bx : Addr} {wd : Int} {T P bo oW oO oB oA : Obj} {ex : Led} {m : Str → Option Value} {s : Shared} {h' : Heap} {tk' : Nat} {vb ov : Value} {p : Pv} {big : Led} (F : Fr g0 L0 h' m) (N : News g0 L0 h' big) (hm : m (nm "other") = some ov) (e : oB.data = .cell (some vb)) (g : GV w ex wd vb ov p)
    (hb : ∀ p ∈ (347, T) :: (340, P) :: (bx, bo) :: (L0 + 1 + 1 + 1 + 1, oW) :: (L0 + 1 + 1 + 1, oO) :: (L0 + 1 + 1, oB) :: (L0 + 1, oA) :: ex, p ∈ big) : PostB w g0 L0 bx wd T P bo oW oO oA ex m s .next { s with heap := h', toks := tk' } :=
  ⟨rfl, _, _, _, _, _, _, rfl, Fr.known0 F hm, fun p hp => N p (hb p hp), e, g⟩
theorem PostB.new {w : World} {g0 : Heap} {L0 bx : Addr} {wd : Int} {T P bo oW oO oB oA : Obj} {ex : Led} {m : Str → Option Value} {s : Shared} {h' : Heap} {tk' : Nat} {vb ov : Value} {p : Pv} {big : Led} (F : Fr g0 L0 h' (fun y => if y = nm "other" then some ov else m y)) (N : News g0 L0 h' big) (e : oB.data = .cell (some vb)) (g : GV w ex wd vb ov p)
    (hb : ∀ p ∈ (347, T) :: (340, P) :: (bx, bo) :: (L0 + 1 + 1 + 1 + 1, oW) :: (L0 + 1 + 1 + 1, oO) :: (L0 + 1 + 1, oB) :: (L0 + 1, oA) :: ex, p ∈ big) : PostB w g0 L0 bx wd T P bo oW oO oA ex m s .next { s with heap := h', toks := tk' } :=
  ⟨rfl, _, _, _, _, _, _, rfl, F, fun p hp => N p (hb p hp), e, g⟩

end
end Mine
namespace Mine
section
open PySem PySem.W PySem.Spec PySem.Calls PyProof.Rows PySem.W.X
section
variable {L0 bx xs wa I : Addr} {vs : List Value} {nn : Nat} {wd ml wd' : Int} {qs ps qs' : Array Value} {oW oO oB oA bo it : Obj} {st ex led tl : Led} {w : World} {v ov v1 v2 ov1 ov2 : Value} {p q : Pv} {h₀ h : Heap}
theorem Cant.gv (_ : Cant L0 bx xs wa vs nn wd ml qs ps oW st ex I it) (g : GoodV w led wd' v ov p) (hs : ∀ q ∈ led, q ∈ ex) : GV w ex wd' v ov p := g.gv hs
theorem GV.whole (g : GV w led wd v ov p) (h40 : wd ≤ 40) : ∀ x, p.whole wd = some x → okI x := fun _ e => whole_ok e h40 g.ok
theorem mkBin (_ : GV w led wd v1 ov1 p) (_ : GV w led wd v2 ov2 q) (o : Op) : AnsIs (binA o p q wd) := trivial
theorem mkUn (_ : GV w led wd v1 ov1 p) (b : Bool) : AnsIs (unA b p wd) := trivial
theorem mkAlt (_ : GV w led wd v1 ov1 p) (_ : GV w led wd v2 ov2 q) : ResIs (altR p q) := trivial
theorem Cant.lamN (C : Cant L0 bx xs wa vs nn wd ml qs ps oW st ex I it) {f : Addr} {fo : Obj}
    (N : News h₀ L0 h ((347, tabObj qs') :: (f, fo) :: (tl ++ ((340, tabObj ps) :: (bx, bo) :: (L0 + 1 + 1 + 1 + 1, oW) :: (L0 + 1 + 1 + 1, oO) :: (L0 + 1 + 1, oB) :: (L0 + 1, oA) :: ex))))
    (l1 : ∀ q ∈ tl, 347 < q.1 ∧ q.1 < f ∧ ∀ p ∈ (340, tabObj ps) :: (bx, bo) :: (L0 + 1 + 1 + 1 + 1, oW) :: (L0 + 1 + 1 + 1, oO) :: (L0 + 1 + 1, oB) :: (L0 + 1, oA) :: ex, p.1 < q.1)
    (l3 : ∀ p ∈ (340, tabObj ps) :: (bx, bo) :: (L0 + 1 + 1 + 1 + 1, oW) :: (L0 + 1 + 1 + 1, oO) :: (L0 + 1 + 1, oB) :: (L0 + 1, oA) :: ex, p.1 < f) (tb : TabOk (tl ++ st) qualL qs') :
    Cant L0 bx xs wa vs nn wd ml qs' ps oW (tl ++ st) ((f, fo) :: (tl ++ ex)) I it ∧ News h₀ L0 h ((347, tabObj qs') :: (340, tabObj ps) :: (bx, bo) :: (L0 + 1 + 1 + 1 + 1, oW) :: (L0 + 1 + 1 + 1, oO) :: (L0 + 1 + 1, oB) :: (L0 + 1, oA) :: (f, fo) :: (tl ++ ex)) :=
  ⟨C.lam l1 l3 tb, unT N⟩
theorem altR_ok (h : p.ok) (k : q.ok) : (resOf (altR p q)).ok := by
  unfold altR
  split
  · trivial
  split
  · rename_i a b e1 e2
    exact two_kqd (by decide +kernel) (leaf_kqd7 (leaf_ok e1 h)) (leaf_kqd7 (leaf_ok e2 k))
  · trivial
theorem alt_e {v : Value} (h4 : p.isPart = false ∨ q.isPart = false) (D : DatIn led v (errD 1)) : IsRes w led v (resOf (altR p q)) := by rw [ar_5 h4]; exact D
theorem alt_d {v : Value} {a b : Leaf} (h4 : p.isPart = true) (h5 : q.isPart = true) (l1 : p.leaf = some a) (l2 : q.leaf = some b) (h : IsPv w led v (.pat (altD a.dat b.dat))) : IsRes w led v (resOf (altR p q)) := by
  rw [ar_6 h4 h5 l1 l2]; exact h
theorem un_none (h : p.whole wd = none) : unA true p wd = .error 1 := unA_e h
theorem un_none2 {o2 : Option Int} (h : p.whole wd = none) : unA true p wd = dueA .sub none o2 wd := un_none h
theorem un_some {x : Int} (h : p.whole wd = some x) : unA true p wd = dueA .sub (some 0) (some x) wd := by rw [un_law, h]
theorem up_none (h : p.whole wd = none) : unA false p wd = .error 1 := unA_e h
theorem up_some {x : Int} (h : p.whole wd = some x) : unA false p wd = .ok x := unA_p h
theorem ok_0 : ∀ x, some (0 : Int) = some x → okI x := fun x e => by cases e; unfold okI; omega
theorem Cant.lo (_ : Cant L0 bx xs wa vs nn wd ml qs ps oW st ex I it) (h : 5 ≤ wd) : 5 ≤ wd := h
theorem Cant.hi (_ : Cant L0 bx xs wa vs nn wd ml qs ps oW st ex I it) (h : wd ≤ 40) : wd ≤ 40 := h
theorem Can.lamN (C : Can L0 bx xs wa vs nn wd ml qs ps oW ex) {f : Addr} {fo : Obj}
    (N : News h₀ L0 h ((347, tabObj qs') :: (f, fo) :: (tl ++ ((340, tabObj ps) :: (bx, bo) :: (L0 + 1 + 1 + 1 + 1, oW) :: (L0 + 1 + 1 + 1, oO) :: (L0 + 1 + 1, oB) :: (L0 + 1, oA) :: ex))))
    (l1 : ∀ q ∈ tl, 347 < q.1 ∧ q.1 < f ∧ ∀ p ∈ (340, tabObj ps) :: (bx, bo) :: (L0 + 1 + 1 + 1 + 1, oW) :: (L0 + 1 + 1 + 1, oO) :: (L0 + 1 + 1, oB) :: (L0 + 1, oA) :: ex, p.1 < q.1)
    (l3 : ∀ p ∈ (340, tabObj ps) :: (bx, bo) :: (L0 + 1 + 1 + 1 + 1, oW) :: (L0 + 1 + 1 + 1, oO) :: (L0 + 1 + 1, oB) :: (L0 + 1, oA) :: ex, p.1 < f) (tb : TabOk (tl ++ ex) qualL qs') :
    Can L0 bx xs wa vs nn wd ml qs' ps oW ((f, fo) :: (tl ++ ex)) ∧ News h₀ L0 h ((347, tabObj qs') :: (340, tabObj ps) :: (bx, bo) :: (L0 + 1 + 1 + 1 + 1, oW) :: (L0 + 1 + 1 + 1, oO) :: (L0 + 1 + 1, oB) :: (L0 + 1, oA) :: (f, fo) :: (tl ++ ex)) := by
  have ho : ∀ p ∈ tl, Off7 L0 bx p.1 := fun p hp => off_gt C ((l1 p hp).2.2 (L0 + 1 + 1 + 1 + 1, oW) (.tail _ (.tail _ (.head _)))) (Nat.ne_of_lt ((l1 p hp).2.2 (bx, bo) (.tail _ (.head _))))
  refine ⟨C.mono (fun _ hp => .tail _ (List.mem_append_right _ hp)) (fun p hp => ?_) (tb.mono fun _ hp => .tail _ hp) (C.tp.mono fun _ hp => .tail _ (List.mem_append_right _ hp)), unT N⟩
  rcases List.mem_cons.mp hp with rfl | hp
  · exact off_gt C (l3 (L0 + 1 + 1 + 1 + 1, oW) (.tail _ (.tail _ (.head _)))) (Nat.ne_of_lt (l3 (bx, bo) (.tail _ (.head _))))
  · exact (List.mem_append.mp hp).elim (ho p) (C.off p)
end
section
variable {prog : Program} {w : World} {A : Around} {E : Value → Shared → Prop} {s : Shared} {h₀ : Heap} {L : Addr} {news : Led} {Q : Value → Shared → Prop}
theorem nn_notin {u : Tok} {D : Addr} {n : Nat} (N : News h₀ L s.heap news) (hm : (D, ({ cls := .type "tuple", data := .seq #[.none, .int 0 u] n } : Obj)) ∈ news) (hu : A.units + 64 < cLine) (h0 : Q (.bool false) s) :
    wpAny (model prog w) A (compareOp .NotIn .none (.ref D)) Q E s :=
  SeqAt.notIn_tuple_reads (xs := [.none, .int 0]) (d := .none) (reads_tuple_at (N.get hm) rfl rfl (.cons .none (.cons (.int 0 u) .nil))) Reads.none rfl rfl (by simp only [PyData.depth, PyData.depthAll]; omega) h0
theorem n0_notin {x : Int} {t u : Tok} {D : Addr} {n : Nat} (N : News h₀ L s.heap news) (hm : (D, ({ cls := .type "tuple", data := .seq #[.none, .int 0 u] n } : Obj)) ∈ news) (hu : A.units + 64 < cLine) (h0 : x = 0 → Q (.bool false) s) (h1 : x ≠ 0 → Q (.bool true) s) :
    wpAny (model prog w) A (compareOp .NotIn (.int x t) (.ref D)) Q E s := by
  refine SeqAt.notIn_tuple_reads (xs := [.none, .int 0]) (d := .int x) (reads_tuple_at (N.get hm) rfl rfl (.cons .none (.cons (.int 0 u) .nil))) (Reads.int x t) rfl rfl (by simp only [PyData.depth, PyData.depthAll]; omega) ?_
  by_cases c : x = 0
  · subst c
    exact h0 rfl
  · have e : ([PyData.none, PyData.int 0].any fun y => PyData.eqv y (.int x)) = false := by
      simp only [List.any_cons, List.any_nil, Bool.or_false, Bool.or_eq_false_iff]
      refine ⟨rfl, ?_⟩
      show ((0 : Int) == x) = false
      simp only [beq_eq_false_iff_ne]
      exact fun z => c z.symm
    rw [e]
    exact h1 c
end
theorem c_rem0 (w : World) (x y : Int) (t1 t2 : Tok) (hy : okI y) (h0 : y ≠ 0) (news : Led) : Ctr w 12 235 [.int x t1, .int y t2] news (fun r tl => tl = [] ∧ ∃ t, r = .int (x - y * Int.tdiv x y) t) (fun _ => False) := by
  intro dp un gd cn cs a ccd cl outer A₀ base h₀ L m loose mean mg mb s Q E B F X N T hk hd hu ret exc
  exact Ctr.use (c_remainder w x y t1 t2 hy news) B F X N T hk hd hu (fun r tl h' tk' F' N' o => ret r tl h' tk' F' N' ⟨o.1, o.2.1⟩) (fun g e n h' tk' F' B' U' b => absurd b.2 h0)
theorem abs_ne {i : Int} (h : i ≠ 0) : (if i < 0 then -i else i) ≠ 0 := by split <;> omega
theorem rem_p {x y : Int} (hy : y ≠ 0) (h : 0 ≤ x) : x - y * Int.tdiv x y = (if x < 0 then -x else x).fmod (if y < 0 then -y else y) * 1 := by rw [rem_law hy, if_pos h]
theorem rem_n {x y : Int} (hy : y ≠ 0) (h : ¬ 0 ≤ x) : x - y * Int.tdiv x y = (if x < 0 then -x else x).fmod (if y < 0 then -y else y) * -1 := by rw [rem_law hy, if_neg h]
theorem m12 {m₀ : Str → Option Value} {a1 a2 a3 a3' a4 a5 u1 u2 u3 u4 u5 : Option Value} : (fun y => if y = nm "both" then a2 else if y = nm "found" then a1 else if y = nm "other" then a3 else if y = nm "other" then a3' else if y = nm "one" then a4 else if y = nm "turn" then a5 else if y = nm "found" then u1 else if y = nm "both" then u2 else if y = nm "other" then u3 else if y = nm "one" then u4 else if y = nm "turn" then u5 else m₀ y) =
    fun y => if y = nm "found" then a1 else if y = nm "both" then a2 else if y = nm "other" then a3 else if y = nm "one" then a4 else if y = nm "turn" then a5 else m₀ y :=
  funext fun _ => (if_sw fun (e : _ = nm "found") (f : _ = nm "both") => absurd (e.symm.trans f) (by decide +kernel)).trans (if_st fun h1 => if_st fun h2 => if_st fun h3 => if_sk h3 (if_st fun h4 => if_st fun h5 => if_sk h1 (if_sk h2 (if_sk h3 (if_sk h4 (if_neg h5))))))
theorem Cant.fin' {L0 bx xs wa I : Addr} {vs : List Value} {nn : Nat} {wd ml : Int} {qs ps : Array Value} {oW oO oB oA bo it : Obj} {st ex big : Led} {h₀ h : Heap} (C : Cant L0 bx xs wa vs nn wd ml qs ps oW st ex I it) {hi : Int} {i : Nat} {m₀ : Str → Option Value} {vO vB vA a1 a2 a3 a3' a4 a5 u1 u2 u3 u4 u5 : Option Value} {s : Shared} {tk : Nat}
    (F : Fr h₀ L0 h (fun y => if y = nm "both" then a2 else if y = nm "found" then a1 else if y = nm "other" then a3 else if y = nm "other" then a3' else if y = nm "one" then a4 else if y = nm "turn" then a5 else if y = nm "found" then u1 else if y = nm "both" then u2 else if y = nm "other" then u3 else if y = nm "one" then u4 else if y = nm "turn" then u5 else m₀ y))
    (N : News h₀ L0 h big) (eO : oO.data = .cell vO) (eB : oB.data = .cell vB) (eA : oA.data = .cell vA) (hb : ∀ p ∈ (347, tabObj qs) :: (340, tabObj ps) :: (bx, bo) :: (L0 + 1 + 1 + 1 + 1, oW) :: (L0 + 1 + 1 + 1, oO) :: (L0 + 1 + 1, oB) :: (L0 + 1, oA) :: ex, p ∈ big) (b : IsBox xs hi bo) (hh : hi ≤ 3 + 5 * ((i + 1 : Nat) : Int)) :
    UnrEnd h₀ L0 s I it (LJ L0 bx xs wa vs nn wd ml m₀ (i + 1)) { s with heap := h, toks := tk } := Cant.fin C (m12 ▸ F) (fun p hp => N p (hb p hp)) eO eB eA b hh
theorem Held.mk {P : Prop} (h : P) : Held P := h
section
variable {prog : Program} {w : World} {A : Around} {E : Value → Shared → Prop} {s : Shared} {h₀ : Heap} {L : Addr} {news n1 : Led} {Q : Value → Shared → Prop}
theorem ans_neI {v1 : Value} {a : Ans} {x : Int} {t : Tok} (N : News h₀ L s.heap news) (D1 : IsAns n1 v1 a) (s1 : ∀ q ∈ n1, q ∈ news) (e : a = .ok x) (hu : A.units + 64 < cLine) (h : Q (.bool false) s) : wpAny (model prog w) A (compareOp .NotEq v1 (.int x t)) Q E s := ans_ne N D1 s1 (.ok x t : IsAns news (.int x t) (.ok x)) (fun _ h => h) e hu h
theorem ans_neE {v1 : Value} {a : Ans} {x : Addr} {k : Int} (N : News h₀ L s.heap news) (D1 : IsAns n1 v1 a) (s1 : ∀ q ∈ n1, q ∈ news) (D2 : DatIn news (.ref x) (errD k)) (e : a = .error k) (hu : A.units + 64 < cLine) (h : Q (.bool false) s) : wpAny (model prog w) A (compareOp .NotEq v1 (.ref x)) Q E s := ans_ne N D1 s1 (.err D2) (fun _ h => h) e hu h
end
theorem n_like {h₀ h h' : Heap} {L : Addr} {led big : Led} (_ : Held (News h₀ L h led)) (N : News h₀ L h' big) (hs : ∀ p ∈ led, p ∈ big) : News h₀ L h' led := fun p hp => N p (hs p hp)
theorem n_dropR {h₀ h : Heap} {L : Addr} {x : Addr × Obj} {tl R : Led} (N : News h₀ L h (x :: (tl ++ R))) : News h₀ L h R := fun p hp => N p (.tail _ (List.mem_append_right _ hp))

end
end Mine
namespace Mine
section
theorem reg51 : True := by
  k_with_none
  k_with "m room" => (exact rm1 (by assumption) (by exact rfl))
  k_with "m units" => (exact rm2 (by assumption) (by exact rfl))
  k_with "m ctr" => (((case k1Z => k_asm); (case k2Z => k_asm); (case k3Z => k_asm); (case k4Z => k_asm); (case k5Z => k_asm); (case kKZ => first | exact rfl | assumption); (case kdZ => ktr_room); (case kuZ => ktr_units)))
  k_with "m exec Raise some none" => ((k_here; k_dflt (refine raise_exec (w := ‹World›) rfl ?_)))
  k_with "m RaisePost" => ((refine ⟨_, _, _, rfl, News.get (by k_asm) (List.Mem.tail _ (List.Mem.head _)), by k_in, ?_⟩))
  k_with "m call ref" => ((k_here; k_dflt ( (with_reducible show wpAny _ _ (call (Value.ref 34) _ _) _ _ _); refine' exc_made _ _ _ _ _ _ _ _ _ _ _ _ _ _ _ _ _ _ _ _ _ ?k1Z ?k2Z ?k3Z ?k4Z ?k5Z ?kAZ ?kFZ ?kKZ ?kRZ ?_; (case kAZ => exact rfl); (case k1Z => k_asm); (case k2Z => k_asm); (case k3Z => k_asm); (case k4Z => k_asm); (case k5Z => k_asm); (case kFZ => exact rfl); (case kKZ => first | exact rfl | assumption); (case kRZ => ktr_room); intro e9k d9k t9k k9k k9k' h9k tk9k F9k N9k ne9k lt9k; (try dsimp only))))
  k_with "m leaving" => ((k_here; k_dflt (first | (refine' leave_madeD ?k1Z ?k2Z ?k3Z (List.Mem.tail _ (List.Mem.head _)) (List.Mem.head _) ?k4Z ?_; (case k1Z => k_asm); (case k2Z => k_asm); (case k3Z => k_asm); (case k4Z => exact fun p hp => ⟨List.Mem.tail _ (List.Mem.tail _ hp), by solve_by_elim⟩); intro h9k B9k U9k) | (refine' leave_onD ?k1Z ?k2Z ?k3Z ?k4Z ?_; (case k1Z => k_asm); (case k2Z => k_asm); (case k3Z => k_asm); (case k4Z => k_asm); intro h9k B9k U9k))))
  k_with "m mem" => (first | exact List.mem_cons_self | (refine' List.mem_cons_of_mem _ ?_; k_mem))
  k_with "m news" => (first | with_reducible assumption | assumption | exact ndrop (by assumption) | exact ndrop (ndrop (by assumption)) | exact ndrop (ndrop (ndrop (by assumption))))
  k_with "m eval Call Name" => ((k_here; (fail_if_success (with_reducible show wpAny _ _ (eval (Expr.Call (Expr.Name "range" _) _ _ _) _) _ _ _)); k_dflt (refine Call_ ?_)))
  k_with "m boom" => (first | with_reducible assumption | exact Boom.sub (by assumption) (fun p hp => List.Mem.tail _ hp) | exact Boom.sub (by assumption) (fun p hp => List.Mem.tail _ (List.Mem.tail _ hp)) | exact Boom.sub (by assumption) (fun p hp => List.Mem.tail _ (List.mem_append.mpr (Or.inl hp))) | exact Boom.sub (by assumption) (fun p hp => List.mem_append.mpr (Or.inl hp)))
  k_with "m led" => (first | exact fun _ h => h | exact fun _ h => List.Mem.tail _ h | exact fun _ h => List.Mem.tail _ (List.Mem.tail _ h) | exact fun _ h => List.Mem.tail _ (List.Mem.tail _ (List.Mem.tail _ h)) | exact fun _ h => List.mem_append.mpr (Or.inr h) | exact fun _ h => List.mem_append.mpr (Or.inl h) | exact fun _ h => List.Mem.tail _ (List.mem_append.mpr (Or.inr h)) | exact fun _ h => List.mem_append.mpr (Or.inr (List.mem_append.mpr (Or.inr h))) | exact fun _ h => List.mem_append.mpr (Or.inr (List.Mem.tail _ h)))
  k_with "m call ref" => ((k_here; k_dflt (refine' call_cls ?k1Z ?k2Z ?k3Z ?k4Z ?k5Z ?k6Z ?_; (case k1Z => k_asm); (case k2Z => k_asm); (case k3Z => k_asm); (case k4Z => k_is); (case k5Z => k_is); (case k6Z => k_is); k_whole; intro x' d' h' F' N' l1k l2k; (try k_lt l1k); (try k_lt2 l2k); (try k_sweep); (refine' code_def ?k1Z ?k2Z ?k3Z ?k4Z ?k5Z ?kAZ ?kFZ ?kKZ ?k6Z ?k7Z ?k8Z ?k9Z ?kBZ ?_ ?c2Z ?c3Z ?c4Z ?c5Z; (case kAZ => exact rfl); (case kFZ => exact rfl); (case kKZ => first | exact rfl | assumption); (case k1Z => k_asm); (case k2Z => k_asm); (case k3Z => k_asm); (case k4Z => k_asm); (case k5Z => k_asm); (case k6Z => k_is); (case k7Z => k_is); (case k8Z => ktr_room); (case k9Z => exact BindsTo.of_eq rfl); (case c5Z => decide); (case kBZ => exact locs rfl); (case c2Z => exact rfl); (case c3Z => exact rfl); (case c4Z => exact rfl); k_whole; intro g' L' h' FG' F' N' B' X' T'; (try dsimp only); (try k_fold)))))
  k_with "m ite" => ((k_here; k_openite; with_reducible first | refine ite_pos (by assumption) ?_ | refine ite_neg (by assumption) ?_ | refine ite_isFalse (by assumption) ?_ | (refine split_ine ?_ ?_ <;> intro _) | (refine split_ieq ?_ ?_ <;> intro _) | refine split_not ?_ | (refine split_dec ?_ ?_ <;> intro _) | (refine split_bool ?_ ?_ <;> intro _)))
  k_with "m ite" => ((with_reducible first | refine ite_tt ?_ | refine ite_ff ?_))
  k_with "m testChain" => (dsimp only)
  k_with "m evalPairs" => (dsimp only)
  k_with "m compareChain" => (dsimp only)
  k_with "m ite" => ((k_closed; first | ((with_reducible refine ite_cf ?chZ ?_); (case chZ => decide +kernel)) | ((with_reducible refine ite_ct ?chZ ?_); (case chZ => decide +kernel))))
  k_with "m InvEndN" => (k_dflt kst_close)
  exact True.intro
theorem c_box_use {w : World} {sc : Addr} {vs : List Value} {zs : List Int} {news : Led}
    {dp un : Nat} {gd : Option (List Code)} {cn : Str} {cs : Scope} {a : Addr} {ccd : Value} {cl : List (Str × Addr)} {outer : List Env} {A₀ : Around} {base h₀ : Heap} {L : Addr} {m : Str → Option Value}
    {loose : List Str} {mean : ExcName → Option Value} {mg mb : Str → Option Value} {s : Shared} {Q E : Value → Shared → Prop} (HI : IntsAre vs zs) (hzl : zs.length ≤ 63) (hLay : (PyData.list (List.map PyData.int zs)).layable0 = true) (hL : h₀.IsList sc vs.toArray)
    (B : Below A₀ base outer h₀) (F : Fr h₀ L s.heap m) (X : (mkK.heap_1 w.params).In h₀) (N : News h₀ L s.heap news) (T : Top topProg loose mean mg mb h₀) (hk : cs.kind = .function) (hd : dp + 6 < recursionLimit) (hu : un + 8 * 6 < cLine)
    (ret : ∀ bx xs vs' ns nn bo h' tk', Fr h₀ L h' m → News h₀ L h' ((bx, bo) :: (xs, listOf (List.toArray vs') nn) :: news) → IntsAre vs' ns → ns.length ≤ 40 → IsBox xs 0 bo → (∀ p ∈ (xs, listOf (List.toArray vs') nn) :: news, p.1 ≠ bx) → Q (.ref bx) { s with heap := h', toks := tk' }) :
    wpAny (model PySem.Challenge.rw_np0295_01.row.prog w) (ktrTop dp un gd cn cs L a ccd cl outer) (call (.ref 296) [.ref sc]) Q E s := c_box w sc vs zs HI hzl hLay news _ _ _ _ _ _ _ _ _ _ _ _ _ _ _ _ _ _ _ _ _ B F X N T hk hd hu hL ret
theorem c_world_use {w : World} {wd ml : Int} {t1 t2 : Tok} {news : Led}
    {dp un : Nat} {gd : Option (List Code)} {cn : Str} {cs : Scope} {a : Addr} {ccd : Value} {cl : List (Str × Addr)} {outer : List Env} {A₀ : Around} {base h₀ : Heap} {L : Addr} {m : Str → Option Value}
    {loose : List Str} {mean : ExcName → Option Value} {mg mb : Str → Option Value} {s : Shared} {Q E : Value → Shared → Prop}
    (B : Below A₀ base outer h₀) (F : Fr h₀ L s.heap m) (X : (mkK.heap_1 w.params).In h₀) (N : News h₀ L s.heap news) (T : Top topProg loose mean mg mb h₀) (hk : cs.kind = .function) (hd : dp + 6 < recursionLimit) (hu : un + 8 * 6 < cLine)
    (ret : ∀ wa tl h' tk', Fr h₀ L h' m → News h₀ L h' (tl ++ news) → (∀ p ∈ tl, ∀ q ∈ news, q.1 < p.1) → IsWorld tl (.ref wa) wd ml → Q (.ref wa) { s with heap := h', toks := tk' }) :
    wpAny (model PySem.Challenge.rw_np0295_01.row.prog w) (ktrTop dp un gd cn cs L a ccd cl outer) (call (.ref 210) [] [(nm "width", .int wd t1), (nm "most_length", .int ml t2)]) Q E s := c_world w wd ml t1 t2 news _ _ _ _ _ _ _ _ _ _ _ _ _ _ _ _ _ _ _ _ _ B F X N T hk hd hu ret
theorem reg52 : True := by
  k_with "m call ref" => ((k_here; (with_reducible show wpAny _ _ (call (Value.ref 210) _ _) _ _ _); k_dflt (refine' c_world_use ?k1Z ?k2Z ?k3Z ?k4Z ?k5Z ?kKZ ?kdZ ?kuZ ?_; walk_at "ctr"; intro wa9k tl9k h9k tk9k F9k N9k l9k w9k; (try k_fold))))
  k_with "m call ref" => ((k_here; k_dflt (refine' CtrB.use (c_draw _ _ _ _ _ _ _ _ _ _ _ ?a1Z ?a2Z ?a3Z ?a4Z ?a5Z ?a6Z ?a7Z ?a8Z) ?k1Z ?k2Z ?k3Z ?k4Z ?k5Z ?kKZ ?kdZ ?kuZ ?_; walk_at "ctr"; (case a1Z => assumption); (case a3Z => first | assumption | k_mem); (case a4Z => assumption); (case a5Z => omega); (case a2Z => omega); (case a6Z => decide); (case a7Z => decide); (case a8Z => assumption); intro r9k tl9k bo9k h9k tk9k F9k N9k l9k o9k; (obtain ⟨o9k, b9k, d9k, t9k, p9k, lo9k, hi9k⟩ := o9k); subst o9k; subst p9k; clear l9k; (try simp only [List.nil_append] at N9k); (try dsimp only); (try k_fold))))
  k_with "m call ref" => ((k_here; (with_reducible show wpAny _ _ (call (Value.ref 296) _ _) _ _ _); k_dflt (refine' c_box_use ?a1Z ?a2Z ?a3Z ?a4Z ?k1Z ?k2Z ?k3Z ?k4Z ?k5Z ?kKZ ?kdZ ?kuZ ?_; walk_at "ctr"; (case a4Z => assumption); (case a1Z => assumption); (case a2Z => assumption); (case a3Z => assumption); intro bx9k xs9k vs9k ns9k nn9k bo9k h9k tk9k F9k N9k i9k l9k b9k d9k; (try k_fold))))
  k_with "m call ref" => ((k_here; (with_reducible show wpAny _ _ (call (Value.ref 291) _ _) _ _ _); (rename News _ _ _ _ => N9k); (rename Cant _ _ _ _ _ _ _ _ _ _ _ _ _ _ _ => C9k); (obtain ⟨C8k, N8k⟩ := Cant.head C9k N9k (by assumption)); clear N9k C9k; k_dflt (refine' CtrB.use (c_draw _ _ _ _ _ _ _ _ _ _ _ ?a1Z ?a2Z ?a3Z ?a4Z ?a5Z ?a6Z ?a7Z ?a8Z) ?k1Z ?k2Z ?k3Z ?k4Z ?k5Z ?kKZ ?kdZ ?kuZ ?_; (case k4Z => exact rotB N8k); (case k1Z => k_asm); (case k2Z => k_asm); (case k3Z => k_asm); (case k5Z => k_asm); (case kKZ => first | exact rfl | assumption); (case kdZ => ktr_room); (case kuZ => ktr_units); (case a1Z => assumption); (case a3Z => exact Can.mB (Cant.toCan (by assumption))); (case a4Z => assumption); (case a5Z => omega); (case a2Z => omega); (case a6Z => first | assumption | decide | omega); (case a7Z => first | assumption | decide | omega); (case a8Z => exact Can.hB (Cant.toCan (by assumption)));  intro r9k tl9k bo9k h9k tk9k F9k N7k l9k o9k; (obtain ⟨o9k, b9k, d9k, t9k, p9k, lo9k, hi9k⟩ := o9k); subst o9k; subst p9k; clear l9k; replace N7k := unB N7k; (try simp only [List.nil_append] at N7k); (try dsimp only); (try k_fold))))
  k_with "m call ref" => ((k_here; (with_reducible show wpAny _ _ (call (Value.ref 291) _ _) _ _ _); k_dflt (refine' CtrB.use (c_draw _ _ _ _ _ _ _ _ _ _ _ ?a1Z ?a2Z ?a3Z ?a4Z ?a5Z ?a6Z ?a7Z ?a8Z) ?k1Z ?k2Z ?k3Z ?k4Z ?k5Z ?kKZ ?kdZ ?kuZ ?_; (case k4Z => exact rotB (by k_asm)); (case k1Z => k_asm); (case k2Z => k_asm); (case k3Z => k_asm); (case k5Z => k_asm); (case kKZ => first | exact rfl | assumption); (case kdZ => ktr_room); (case kuZ => ktr_units); (case a1Z => assumption); (case a3Z => first | exact Can.mB (by assumption) | exact Can.mB (Cant.toCan (by assumption))); (case a4Z => assumption); (case a5Z => omega); (case a2Z => omega); (case a6Z => first | assumption | decide | omega); (case a7Z => first | assumption | decide | omega); (case a8Z => first | exact Can.hB (by assumption) | exact Can.hB (Cant.toCan (by assumption)));  intro r9k tl9k bo9k h9k tk9k F9k N9k l9k o9k; (obtain ⟨o9k, b9k, d9k, t9k, p9k, lo9k, hi9k⟩ := o9k); subst o9k; subst p9k; clear l9k; replace N9k := unB N9k; (try simp only [List.nil_append] at N9k); (try dsimp only); (try k_fold))))
  k_with "m call ref" => ((k_here; (with_reducible show wpAny _ _ (call (Value.ref 303) _ _) _ _ _); k_dflt (refine' CtrB.use (c_value _ _ _ _ _ _ _ _ _ _ _ ?a1Z ?a2Z ?a3Z ?a4Z ?a5Z ?a6Z ?a7Z ?a8Z) ?k1Z ?k2Z ?k3Z ?k4Z ?k5Z ?kKZ ?kdZ ?kuZ ?_; (case k4Z => exact rotB (by k_asm)); (case k1Z => k_asm); (case k2Z => k_asm); (case k3Z => k_asm); (case k5Z => k_asm); (case kKZ => first | exact rfl | assumption); (case kdZ => ktr_room); (case kuZ => ktr_units); (case a1Z => assumption); (case a3Z => first | exact Can.mB (by assumption) | exact Can.mB (Cant.toCan (by assumption))); (case a4Z => assumption); (case a5Z => omega); (case a2Z => omega); (case a6Z => first | assumption | decide | omega); (case a7Z => first | assumption | decide | omega); (case a8Z => first | exact Can.hB (by assumption) | exact Can.hB (Cant.toCan (by assumption)));  intro r9k tl9k bo9k h9k tk9k F9k N9k l9k o9k; (obtain ⟨o9k, a9k, v9k, ov9k, p9k, n9k, e9k, m9k, g9k⟩ := o9k); subst e9k; (rename Cant _ _ _ _ _ _ _ _ _ _ _ _ _ _ _ => C9k; replace C9k := C9k.val l9k); replace N9k := unB N9k; (try dsimp only); (try k_fold))))
  k_with "m callWith ref" => ((k_here; k_dflt (refine' callWith_K ?k1Z ?k2Z ?_; (case k1Z => k_asm); (case k2Z => k_is); k_whole)))
  k_with "m sub" => (first | with_reducible assumption | (with_reducible refine List.mem_cons_of_mem _ ?_; walk_at "sub") | (with_reducible refine List.mem_append_right _ ?_; walk_at "sub") | (with_reducible refine List.mem_append_left _ ?_; walk_at "sub"))
  k_with "m led" => ((intro q9k h9k; walk_at "sub"))
  k_with "m mem2" => (first | with_reducible assumption | with_reducible exact List.mem_cons_self | (with_reducible refine List.mem_cons_of_mem _ ?_; walk_at "mem2") | (with_reducible refine List.mem_append_right _ ?_; walk_at "mem2") | (with_reducible refine List.mem_append_left _ ?_; walk_at "mem2"))
  k_with "m eval Name" => ((k_here; (with_reducible first | show wpAny _ _ (eval (Expr.Name (Str.ofString "world") _) (envX qualL _ _ _ _ _)) _ _ _ | show wpAny _ _ (eval (Expr.Name (Str.ofString "op") _) (envX qualL _ _ _ _ _)) _ _ _ | show wpAny _ _ (eval (Expr.Name (Str.ofString "a") _) (envX qualL _ _ _ _ _)) _ _ _ | show wpAny _ _ (eval (Expr.Name (Str.ofString "b") _) (envX qualL _ _ _ _ _)) _ _ _); k_dflt (refine' nameX_F ?NZ ?cZ ?mZ ?dZ ?_ ?aZ ?bZ; (case cZ => exact rfl); (case bZ => exact rfl); (case aZ => exact rfl); (case NZ => k_asm); (case mZ => with_reducible k_mem); (case dZ => with_reducible assumption))))
  k_with "m eval Name" => ((k_here; (with_reducible first | show wpAny _ _ (eval (Expr.Name (Str.ofString "world") _) (envOfC (Str.ofString "law") _ _ _ _)) _ _ _ | show wpAny _ _ (eval (Expr.Name (Str.ofString "op") _) (envOfC (Str.ofString "law") _ _ _ _)) _ _ _ | show wpAny _ _ (eval (Expr.Name (Str.ofString "a") _) (envOfC (Str.ofString "law") _ _ _ _)) _ _ _ | show wpAny _ _ (eval (Expr.Name (Str.ofString "b") _) (envOfC (Str.ofString "law") _ _ _ _)) _ _ _); k_dflt (refine' nameX_C ?NZ ?cZ ?mZ ?dZ ?_ ?aZ ?bZ; (case cZ => exact rfl); (case bZ => exact rfl); (case aZ => exact rfl); (case NZ => k_asm); (case mZ => with_reducible k_mem); (case dZ => with_reducible assumption))))
  k_with "m eval Lambda" => ((k_here; (rename Cant _ _ _ _ _ _ _ _ _ _ _ _ _ _ _ => C9k); k_dflt (refine' kla_eval ?d0Z ?_; (case d0Z => exact rfl)); k_dflt (refine' lam_any (qual := qualL) ?lFZ ?lNZ ?lTZ ?lCZ ?lcdZ ?ltbZ ?lhneZ ?lclZ ?_; (case lFZ => k_asm); (case lNZ => k_asm); (case lTZ => k_asm); (case lcdZ => exact rfl); (case lCZ => assumption); (case ltbZ => exact C9k.base.tq); (case lhneZ => exact Can.hT (Cant.toCan C9k)); (case lclZ => exact rfl); k_whole); intro f9k c9k ct9k qs9k tl9k h9k tk9k F9k N9k tb9k co9k l1k l2k l3k; (obtain ⟨C8k, N8k⟩ := Cant.lamN C9k N9k l1k l3k tb9k); replace co9k := CodeOk.mono co9k C8k.sst; clear l1k l2k l3k C9k N9k tb9k))
  k_with "m call ref" => ((k_here; (with_reducible show wpAny _ _ (call (Value.ref 317) _ _) _ _ _); (with_reducible rename AnsIs _ => zM9k); k_dflt (refine' CtrT.use (heardM (k := 36) zM9k ?zfaZ (Held.out ?zCZ)) ?zBZ ?zFZ ?zXZ ?zNZ ?zTZ ?zhkZ ?zXBZ ?zTBZ ?zhdZ ?zhuZ ?_; (case zFZ => k_asm); (case zNZ => k_asm); (case zfaZ => exact (.tail _ (.tail _ (.tail _ (.tail _ (.tail _ (.tail _ (.tail _ (.head _))))))))); (case zBZ => k_asm); (case zXZ => k_asm); (case zTZ => k_asm); (case zhkZ => exact rfl); (case zXBZ => assumption); (case zTBZ => assumption); (case zhdZ => ktr_room); (case zhuZ => ktr_units); (case zCZ => walk_at "held"); intro r9k tl9k h9k tk9k hb9k T9k F9k N9k B9k X9k TT9k o9k; replace F9k := turn0_fr T9k F9k; replace N9k := turn0_news T9k N9k; clear T9k B9k X9k TT9k; (try dsimp only); (try k_fold))))
  k_with "m call ref" => ((k_here; (with_reducible show wpAny _ _ (call (Value.ref 317) _ _) _ _ _); (with_reducible rename ResIs _ => zM9k); k_dflt (refine' CtrT.use (heardN (k := 36) zM9k ?zfaZ (Held.out ?zCZ)) ?zBZ ?zFZ ?zXZ ?zNZ ?zTZ ?zhkZ ?zXBZ ?zTBZ ?zhdZ ?zhuZ ?_; (case zFZ => k_asm); (case zNZ => k_asm); (case zfaZ => exact (.tail _ (.tail _ (.tail _ (.tail _ (.tail _ (.tail _ (.tail _ (.head _))))))))); (case zBZ => k_asm); (case zXZ => k_asm); (case zTZ => k_asm); (case zhkZ => exact rfl); (case zXBZ => assumption); (case zTBZ => assumption); (case zhdZ => ktr_room); (case zhuZ => ktr_units); (case zCZ => walk_at "held"); intro r9k tl9k h9k tk9k hb9k T9k F9k N9k B9k X9k TT9k o9k; replace F9k := turn0_fr T9k F9k; replace N9k := turn0_news T9k N9k; clear T9k B9k X9k TT9k; (try dsimp only); (try k_fold))))
  k_with "m held" => ((unfold Held; intro dp un gd cn cs a ccd cl outer A₀ base h₀ L m loose mean mg mb s Q E B F X N T hk hd hu ret exc; refine wpAny_call ?_; k_dflt (refine' kla_code ?k1Z ?k2Z ?k3Z ?k4Z ?k5Z ?kAZ ?kFZ ?kKZ ?k6Z ?k7Z ?k8Z ?k9Z ?kBZ ?_ ?c2Z ?c3Z ?c4Z ?c5Z; (case kAZ => exact rfl); (case kFZ => exact rfl); (case kKZ => assumption); (case k1Z => k_asm); (case k2Z => k_asm); (case k3Z => k_asm); (case k4Z => k_asm); (case k5Z => k_asm); (case k6Z => exact (.tail _ (.tail _ (.tail _ (.tail _ (.tail _ (.tail _ (.tail _ (.head _))))))))); (case k7Z => exact code_ok N (CodeOk.mono (by assumption) (by walk_at "led"))); (case k8Z => ktr_room); (case k9Z => exact rfl); (case c5Z => decide); (case kBZ => exact locs rfl); (case c2Z => exact rfl); (case c3Z => exact rfl); (case c4Z => exact rfl)); intro g' L' h' FG' F' N' B' X' T'; (try dsimp only); (try k_fold); k_steps; (all_goals first | exact ret _ _ _ _ (by k_asm) (by k_asm) (by assumption) | exact exc _ _ _ _ _ (by k_asm) (by walk_at "boom") (by k_asm) (by assumption))))
  k_with "m call ref" => ((k_here; (with_reducible show wpAny _ _ (call (Value.ref 277) [_, Value.str (Op.s _) _, _, _] _) _ _ _); k_dflt (refine' Ctr.use (c_binary _ _ _ _ _ _ _ _ _ _ _ ?a1Z ?a2Z ?a3Z ?a4Z ?a5Z _ ?a6Z ?a7Z ?a8Z) ?k1Z ?k2Z ?k3Z ?k4Z ?k5Z ?kKZ ?kdZ ?kuZ ?_ ?_; walk_at "ctr"; (case a8Z => first | assumption | exact rfl | exact IsPv.mono (by assumption) (by walk_at "led") | exact IsWorld.mono (by assumption) (by walk_at "led") | exact datMono (by assumption) (by walk_at "led")); (case a7Z => first | assumption | exact rfl | exact IsPv.mono (by assumption) (by walk_at "led") | exact IsWorld.mono (by assumption) (by walk_at "led") | exact datMono (by assumption) (by walk_at "led")); (case a6Z => first | assumption | exact rfl | exact IsPv.mono (by assumption) (by walk_at "led") | exact IsWorld.mono (by assumption) (by walk_at "led") | exact datMono (by assumption) (by walk_at "led")); (case a5Z => first | assumption | exact rfl | exact IsPv.mono (by assumption) (by walk_at "led") | exact IsWorld.mono (by assumption) (by walk_at "led") | exact datMono (by assumption) (by walk_at "led")); (case a4Z => first | assumption | exact rfl | exact IsPv.mono (by assumption) (by walk_at "led") | exact IsWorld.mono (by assumption) (by walk_at "led") | exact datMono (by assumption) (by walk_at "led")); (case a3Z => first | assumption | exact rfl | exact IsPv.mono (by assumption) (by walk_at "led") | exact IsWorld.mono (by assumption) (by walk_at "led") | exact datMono (by assumption) (by walk_at "led")); (case a2Z => first | assumption | exact rfl | exact IsPv.mono (by assumption) (by walk_at "led") | exact IsWorld.mono (by assumption) (by walk_at "led") | exact datMono (by assumption) (by walk_at "led")); (case a1Z => first | assumption | exact rfl | exact IsPv.mono (by assumption) (by walk_at "led") | exact IsWorld.mono (by assumption) (by walk_at "led") | exact datMono (by assumption) (by walk_at "led")); rotate_left; intro g9k e9k n9k h9k tk9k F9k B9k U9k b9k; (try dsimp only at b9k); (try ((obtain ⟨b9k, b9k'⟩ := b9k); subst b9k)); (try dsimp only); rotate_left; intro r9k tl9k h9k tk9k F9k N9k o9k; (try simp only [List.nil_append] at N9k); (try dsimp only [nl_int, nl_str, nl_pat, nl_del, nl_hold, pl_int, pl_str, pl_pat, pl_del, pl_hold, pa_int, pa_str, pa_pat, pa_del, pa_hold]); (try k_fold))))
  k_with "m call ref" => ((k_here; (with_reducible show wpAny _ _ (call (Value.ref 284) [_, Value.str (Str.ofString "-") _, _] _) _ _ _); k_dflt (refine' Ctr.use (c_unary_n _ _ _ _ _ _ _ ?a1Z ?a2Z ?a3Z _ ?a4Z ?a5Z) ?k1Z ?k2Z ?k3Z ?k4Z ?k5Z ?kKZ ?kdZ ?kuZ ?_ ?_; walk_at "ctr"; (case a5Z => first | assumption | exact IsPv.mono (by assumption) (by walk_at "led") | exact IsWorld.mono (by assumption) (by walk_at "led") | exact datMono (by assumption) (by walk_at "led")); (case a4Z => first | assumption | exact IsPv.mono (by assumption) (by walk_at "led") | exact IsWorld.mono (by assumption) (by walk_at "led") | exact datMono (by assumption) (by walk_at "led")); (case a3Z => first | assumption | exact IsPv.mono (by assumption) (by walk_at "led") | exact IsWorld.mono (by assumption) (by walk_at "led") | exact datMono (by assumption) (by walk_at "led")); (case a2Z => first | assumption | exact IsPv.mono (by assumption) (by walk_at "led") | exact IsWorld.mono (by assumption) (by walk_at "led") | exact datMono (by assumption) (by walk_at "led")); (case a1Z => first | assumption | exact IsPv.mono (by assumption) (by walk_at "led") | exact IsWorld.mono (by assumption) (by walk_at "led") | exact datMono (by assumption) (by walk_at "led")); rotate_left; intro g9k e9k n9k h9k tk9k F9k B9k U9k b9k; (try dsimp only at b9k); (try ((obtain ⟨b9k, b9k'⟩ := b9k); subst b9k)); (try dsimp only); rotate_left; intro r9k tl9k h9k tk9k F9k N9k o9k; (try simp only [List.nil_append] at N9k); (try dsimp only [nl_int, nl_str, nl_pat, nl_del, nl_hold, pl_int, pl_str, pl_pat, pl_del, pl_hold, pa_int, pa_str, pa_pat, pa_del, pa_hold]); (try k_fold))))
  k_with "m call ref" => ((k_here; (with_reducible show wpAny _ _ (call (Value.ref 284) [_, Value.str (Str.ofString "+") _, _] _) _ _ _); k_dflt (refine' Ctr.use (c_unary_p _ _ _ _ _ _ _ ?a1Z ?a2Z ?a3Z _ ?a4Z ?a5Z) ?k1Z ?k2Z ?k3Z ?k4Z ?k5Z ?kKZ ?kdZ ?kuZ ?_ ?_; walk_at "ctr"; (case a5Z => first | assumption | exact IsPv.mono (by assumption) (by walk_at "led") | exact IsWorld.mono (by assumption) (by walk_at "led") | exact datMono (by assumption) (by walk_at "led")); (case a4Z => first | assumption | exact IsPv.mono (by assumption) (by walk_at "led") | exact IsWorld.mono (by assumption) (by walk_at "led") | exact datMono (by assumption) (by walk_at "led")); (case a3Z => first | assumption | exact IsPv.mono (by assumption) (by walk_at "led") | exact IsWorld.mono (by assumption) (by walk_at "led") | exact datMono (by assumption) (by walk_at "led")); (case a2Z => first | assumption | exact IsPv.mono (by assumption) (by walk_at "led") | exact IsWorld.mono (by assumption) (by walk_at "led") | exact datMono (by assumption) (by walk_at "led")); (case a1Z => first | assumption | exact IsPv.mono (by assumption) (by walk_at "led") | exact IsWorld.mono (by assumption) (by walk_at "led") | exact datMono (by assumption) (by walk_at "led")); rotate_left; intro g9k e9k n9k h9k tk9k F9k B9k U9k b9k; (try dsimp only at b9k); (try ((obtain ⟨b9k, b9k'⟩ := b9k); subst b9k)); (try dsimp only); rotate_left; intro r9k tl9k h9k tk9k F9k N9k o9k; (try simp only [List.nil_append] at N9k); (try dsimp only [nl_int, nl_str, nl_pat, nl_del, nl_hold, pl_int, pl_str, pl_pat, pl_del, pl_hold, pa_int, pa_str, pa_pat, pa_del, pa_hold]); (try k_fold))))
  k_with "m call ref" => ((k_here; (with_reducible show wpAny _ _ (call (Value.ref 277) [_, Value.str (Str.ofString "|") _, _, _] _) _ _ _); k_dflt (refine' Ctr.use (c_binary_alt _ _ _ _ _ _ _ ?a1Z ?a2Z _ ?a3Z ?a4Z) ?k1Z ?k2Z ?k3Z ?k4Z ?k5Z ?kKZ ?kdZ ?kuZ ?_ ?_; walk_at "ctr"; (case a4Z => first | assumption | exact IsPv.mono (by assumption) (by walk_at "led") | exact IsWorld.mono (by assumption) (by walk_at "led") | exact datMono (by assumption) (by walk_at "led")); (case a3Z => first | assumption | exact IsPv.mono (by assumption) (by walk_at "led") | exact IsWorld.mono (by assumption) (by walk_at "led") | exact datMono (by assumption) (by walk_at "led")); (case a2Z => first | assumption | exact IsPv.mono (by assumption) (by walk_at "led") | exact IsWorld.mono (by assumption) (by walk_at "led") | exact datMono (by assumption) (by walk_at "led")); (case a1Z => first | assumption | exact IsPv.mono (by assumption) (by walk_at "led") | exact IsWorld.mono (by assumption) (by walk_at "led") | exact datMono (by assumption) (by walk_at "led")); rotate_left; intro g9k e9k n9k h9k tk9k F9k B9k U9k b9k; (try dsimp only at b9k); (try ((obtain ⟨b9k, b9k'⟩ := b9k); subst b9k)); (try dsimp only); rotate_left; intro r9k tl9k h9k tk9k F9k N9k o9k; (try simp only [List.nil_append] at N9k); (try dsimp only [nl_int, nl_str, nl_pat, nl_del, nl_hold, pl_int, pl_str, pl_pat, pl_del, pl_hold, pa_int, pa_str, pa_pat, pa_del, pa_hold]); (try k_fold))))
  k_with "m call ref" => ((k_here; (with_reducible show wpAny _ _ (call (Value.ref 277) [_, Value.str (Str.ofString "%") _, _, _] _) _ _ _); k_dflt (refine' Ctr.use (c_binary_pct _ _ _ _ _ _) ?k1Z ?k2Z ?k3Z ?k4Z ?k5Z ?kKZ ?kdZ ?kuZ ?_ ?_; walk_at "ctr"; rotate_left; intro g9k e9k n9k h9k tk9k F9k B9k U9k b9k; (try dsimp only at b9k); (try ((obtain ⟨b9k, b9k'⟩ := b9k); subst b9k)); (try dsimp only); rotate_left; intro r9k tl9k h9k tk9k F9k N9k o9k; exact o9k.elim; (try simp only [List.nil_append] at N9k); (try dsimp only [nl_int, nl_str, nl_pat, nl_del, nl_hold, pl_int, pl_str, pl_pat, pl_del, pl_hold, pa_int, pa_str, pa_pat, pa_del, pa_hold]); (try k_fold))))
  k_with "m call ref" => ((k_here; (with_reducible show wpAny _ _ (call (Value.ref 284) [_, Value.str (Str.ofString "#") _, _] _) _ _ _); k_dflt (refine' Ctr.use (c_unary_hash _ _ _ _ _) ?k1Z ?k2Z ?k3Z ?k4Z ?k5Z ?kKZ ?kdZ ?kuZ ?_ ?_; walk_at "ctr"; rotate_left; intro g9k e9k n9k h9k tk9k F9k B9k U9k b9k; (try dsimp only at b9k); (try ((obtain ⟨b9k, b9k'⟩ := b9k); subst b9k)); (try dsimp only); rotate_left; intro r9k tl9k h9k tk9k F9k N9k o9k; exact o9k.elim; (try simp only [List.nil_append] at N9k); (try dsimp only [nl_int, nl_str, nl_pat, nl_del, nl_hold, pl_int, pl_str, pl_pat, pl_del, pl_hold, pa_int, pa_str, pa_pat, pa_del, pa_hold]); (try k_fold))))
  k_with "m call ref" => ((k_here; (with_reducible show wpAny _ _ (call (Value.ref 310) [Value.str (Op.s _) _, _, _, _] _) _ _ _); k_dflt (refine' Ctr.use (c_due _ _ _ _ _ _ _ _ _ _ ?a3Z ?a7Z ?a6Z ?a5Z ?a4Z ?a2Z ?a1Z _) ?k1Z ?k2Z ?k3Z ?k4Z ?k5Z ?kKZ ?kdZ ?kuZ ?_ ?_; walk_at "ctr"; (case a7Z => first | with_reducible assumption | exact rfl | exact IsOpt.none | exact IsOpt.some _ _ | exact ok_0 | exact IsPv.mono (by assumption) (by walk_at "led") | exact IsWorld.mono (by assumption) (by walk_at "led") | exact datMono (by assumption) (by walk_at "led")); (case a6Z => first | with_reducible assumption | exact rfl | exact IsOpt.none | exact IsOpt.some _ _ | exact ok_0 | exact IsPv.mono (by assumption) (by walk_at "led") | exact IsWorld.mono (by assumption) (by walk_at "led") | exact datMono (by assumption) (by walk_at "led")); (case a5Z => first | with_reducible assumption | exact rfl | exact IsOpt.none | exact IsOpt.some _ _ | exact ok_0 | exact IsPv.mono (by assumption) (by walk_at "led") | exact IsWorld.mono (by assumption) (by walk_at "led") | exact datMono (by assumption) (by walk_at "led")); (case a4Z => first | with_reducible assumption | exact rfl | exact IsOpt.none | exact IsOpt.some _ _ | exact ok_0 | exact IsPv.mono (by assumption) (by walk_at "led") | exact IsWorld.mono (by assumption) (by walk_at "led") | exact datMono (by assumption) (by walk_at "led")); (case a3Z => first | with_reducible assumption | exact rfl | exact IsOpt.none | exact IsOpt.some _ _ | exact ok_0 | exact IsPv.mono (by assumption) (by walk_at "led") | exact IsWorld.mono (by assumption) (by walk_at "led") | exact datMono (by assumption) (by walk_at "led")); (case a2Z => first | with_reducible assumption | exact rfl | exact IsOpt.none | exact IsOpt.some _ _ | exact ok_0 | exact IsPv.mono (by assumption) (by walk_at "led") | exact IsWorld.mono (by assumption) (by walk_at "led") | exact datMono (by assumption) (by walk_at "led")); (case a1Z => first | with_reducible assumption | exact rfl | exact IsOpt.none | exact IsOpt.some _ _ | exact ok_0 | exact IsPv.mono (by assumption) (by walk_at "led") | exact IsWorld.mono (by assumption) (by walk_at "led") | exact datMono (by assumption) (by walk_at "led")); rotate_left; exact (fun _ _ _ _ _ _ _ _ h => h.elim); intro r9k tl9k h9k tk9k F9k N9k o9k; (try simp only [List.nil_append] at N9k); (try dsimp only [nl_int, nl_str, nl_pat, nl_del, nl_hold, pl_int, pl_str, pl_pat, pl_del, pl_hold, pa_int, pa_str, pa_pat, pa_del, pa_hold]); (try k_fold))))
  k_with "m call ref" => ((k_here; (with_reducible show wpAny _ _ (call (Value.ref 310) [Value.str (Str.ofString "-") _, _, _, _] _) _ _ _); k_dflt (refine' Ctr.use (c_due _ .sub _ _ _ _ _ _ _ _ ?a3Z ?a7Z ?a6Z ?a5Z ?a4Z ?a2Z ?a1Z _) ?k1Z ?k2Z ?k3Z ?k4Z ?k5Z ?kKZ ?kdZ ?kuZ ?_ ?_; walk_at "ctr"; (case a7Z => first | with_reducible assumption | exact rfl | exact IsOpt.none | exact IsOpt.some _ _ | exact ok_0 | exact IsPv.mono (by assumption) (by walk_at "led") | exact IsWorld.mono (by assumption) (by walk_at "led") | exact datMono (by assumption) (by walk_at "led")); (case a6Z => first | with_reducible assumption | exact rfl | exact IsOpt.none | exact IsOpt.some _ _ | exact ok_0 | exact IsPv.mono (by assumption) (by walk_at "led") | exact IsWorld.mono (by assumption) (by walk_at "led") | exact datMono (by assumption) (by walk_at "led")); (case a5Z => first | with_reducible assumption | exact rfl | exact IsOpt.none | exact IsOpt.some _ _ | exact ok_0 | exact IsPv.mono (by assumption) (by walk_at "led") | exact IsWorld.mono (by assumption) (by walk_at "led") | exact datMono (by assumption) (by walk_at "led")); (case a4Z => first | with_reducible assumption | exact rfl | exact IsOpt.none | exact IsOpt.some _ _ | exact ok_0 | exact IsPv.mono (by assumption) (by walk_at "led") | exact IsWorld.mono (by assumption) (by walk_at "led") | exact datMono (by assumption) (by walk_at "led")); (case a3Z => first | with_reducible assumption | exact rfl | exact IsOpt.none | exact IsOpt.some _ _ | exact ok_0 | exact IsPv.mono (by assumption) (by walk_at "led") | exact IsWorld.mono (by assumption) (by walk_at "led") | exact datMono (by assumption) (by walk_at "led")); (case a2Z => first | with_reducible assumption | exact rfl | exact IsOpt.none | exact IsOpt.some _ _ | exact ok_0 | exact IsPv.mono (by assumption) (by walk_at "led") | exact IsWorld.mono (by assumption) (by walk_at "led") | exact datMono (by assumption) (by walk_at "led")); (case a1Z => first | with_reducible assumption | exact rfl | exact IsOpt.none | exact IsOpt.some _ _ | exact ok_0 | exact IsPv.mono (by assumption) (by walk_at "led") | exact IsWorld.mono (by assumption) (by walk_at "led") | exact datMono (by assumption) (by walk_at "led")); rotate_left; exact (fun _ _ _ _ _ _ _ _ h => h.elim); intro r9k tl9k h9k tk9k F9k N9k o9k; (try simp only [List.nil_append] at N9k); (try dsimp only [nl_int, nl_str, nl_pat, nl_del, nl_hold, pl_int, pl_str, pl_pat, pl_del, pl_hold, pa_int, pa_str, pa_pat, pa_del, pa_hold]); (try k_fold))))
  k_with "m call ref" => ((k_here; (with_reducible show wpAny _ _ (call (Value.ref 235) _ _) _ _ _); k_dflt (refine' Ctr.use (c_rem0 _ _ _ _ _ ?a1Z ?a2Z _) ?k1Z ?k2Z ?k3Z ?k4Z ?k5Z ?kKZ ?kdZ ?kuZ ?_ ?_; walk_at "ctr"; (case a2Z => first | assumption | exact (by assumption : ∀ x, some _ = some x → okI x) _ rfl | exact IsPv.mono (by assumption) (by walk_at "led") | exact IsWorld.mono (by assumption) (by walk_at "led") | exact datMono (by assumption) (by walk_at "led")); (case a1Z => first | assumption | exact (by assumption : ∀ x, some _ = some x → okI x) _ rfl | exact IsPv.mono (by assumption) (by walk_at "led") | exact IsWorld.mono (by assumption) (by walk_at "led") | exact datMono (by assumption) (by walk_at "led")); rotate_left; exact (fun _ _ _ _ _ _ _ _ h => h.elim); intro r9k tl9k h9k tk9k F9k N9k o9k; (obtain ⟨o9k, q9k⟩ := o9k); subst o9k; (obtain ⟨t9k, q9k⟩ := q9k); subst q9k; (try simp only [List.nil_append] at N9k); (try dsimp only [nl_int, nl_str, nl_pat, nl_del, nl_hold, pl_int, pl_str, pl_pat, pl_del, pl_hold, pa_int, pa_str, pa_pat, pa_del, pa_hold]); (try k_fold))))
  k_with "m call ref" => ((k_here; (with_reducible show wpAny _ _ (call (Value.ref 324) _ _) _ _ _); k_dflt (refine' Ctr.use (c_law_is_part _ _ _ _ ?a1Z) ?k1Z ?k2Z ?k3Z ?k4Z ?k5Z ?kKZ ?kdZ ?kuZ ?_ ?_; walk_at "ctr"; (case a1Z => first | assumption | exact IsPv.mono (by assumption) (by walk_at "led") | exact IsWorld.mono (by assumption) (by walk_at "led") | exact datMono (by assumption) (by walk_at "led")); rotate_left; exact (fun _ _ _ _ _ _ _ _ h => h.elim); intro r9k tl9k h9k tk9k F9k N9k o9k; (obtain ⟨o9k, p9k⟩ := o9k); subst o9k; subst p9k; (try simp only [List.nil_append] at N9k); (try dsimp only [nl_int, nl_str, nl_pat, nl_del, nl_hold, pl_int, pl_str, pl_pat, pl_del, pl_hold, pa_int, pa_str, pa_pat, pa_del, pa_hold]); (try k_fold))))
  k_with "m call ref" => ((k_here; (with_reducible show wpAny _ _ (call (Value.ref 192) _ _) _ _ _); k_dflt (refine' Ctr.use (c_pattern_of' _ _ _ ?a1Z ?a2Z _ ?a3Z) ?k1Z ?k2Z ?k3Z ?k4Z ?k5Z ?kKZ ?kdZ ?kuZ ?_ ?_; walk_at "ctr"; (case a3Z => first | assumption | exact IsPv.mono (by assumption) (by walk_at "led") | exact IsWorld.mono (by assumption) (by walk_at "led") | exact datMono (by assumption) (by walk_at "led")); (case a2Z => first | assumption | exact IsPv.mono (by assumption) (by walk_at "led") | exact IsWorld.mono (by assumption) (by walk_at "led") | exact datMono (by assumption) (by walk_at "led")); (case a1Z => first | assumption | exact IsPv.mono (by assumption) (by walk_at "led") | exact IsWorld.mono (by assumption) (by walk_at "led") | exact datMono (by assumption) (by walk_at "led")); rotate_left; exact (fun _ _ _ _ _ _ _ _ h => h.elim); intro r9k tl9k h9k tk9k F9k N9k o9k; (obtain ⟨l9k, q9k, q9k', p9k⟩ := o9k); (try simp only [List.nil_append] at N9k); (try dsimp only [nl_int, nl_str, nl_pat, nl_del, nl_hold, pl_int, pl_str, pl_pat, pl_del, pl_hold, pa_int, pa_str, pa_pat, pa_del, pa_hold]); (try k_fold))))
  k_with "m call ref" => ((k_here; (with_reducible show wpAny _ _ (call (Value.ref 185) _ _) _ _ _); k_dflt (refine' Ctr.use (c_either _ _ _ _ _ _ ?a1Z ?a2Z) ?k1Z ?k2Z ?k3Z ?k4Z ?k5Z ?kKZ ?kdZ ?kuZ ?_ ?_; walk_at "ctr"; (case a2Z => first | assumption | exact IsPv.mono (by assumption) (by walk_at "led") | exact IsWorld.mono (by assumption) (by walk_at "led") | exact datMono (by assumption) (by walk_at "led")); (case a1Z => first | assumption | exact IsPv.mono (by assumption) (by walk_at "led") | exact IsWorld.mono (by assumption) (by walk_at "led") | exact datMono (by assumption) (by walk_at "led")); rotate_left; exact (fun _ _ _ _ _ _ _ _ h => h.elim); intro r9k tl9k h9k tk9k F9k N9k o9k; (have p9k := o9k); clear o9k; (try simp only [List.nil_append] at N9k); (try dsimp only [nl_int, nl_str, nl_pat, nl_del, nl_hold, pl_int, pl_str, pl_pat, pl_del, pl_hold, pa_int, pa_str, pa_pat, pa_del, pa_hold]); (try k_fold))))
  k_with "m mem2" => (first | with_reducible assumption | with_reducible exact List.mem_cons_self | (with_reducible refine List.mem_cons_of_mem _ ?_; walk_at "mem2") | (with_reducible refine List.mem_append_right _ ?_; walk_at "mem2") | (with_reducible refine List.mem_append_left _ ?_; walk_at "mem2"))
  k_with "m errD" => (exact DatIn.tuple (by walk_at "mem2") (.cons (.str _ _) (.cons (.int _ _) .nil)))
  k_with "m res3" => (first | (refine' alt_e ?aZ ?hZ; (case aZ => first | exact .inl (by assumption) | exact .inr (by assumption)); (case hZ => walk_at "errD")) | (refine' alt_d ?dZ ?eZ ?fZ ?gZ ?hZ; (case fZ => assumption); (case gZ => assumption); (case dZ => assumption); (case eZ => assumption); (case hZ => exact IsPv.pat (by walk_at "mem2") (by walk_at "mem2") (datMono (by assumption) (by walk_at "led")))))
  k_with "m call ref" => ((k_here; (with_reducible show wpAny _ _ (call (Value.ref 338) _ _) _ _ _); k_dflt (refine' Ctr.use (c_same _ _ _ (resOf (altR _ _)) ?a0Z _ ?a1Z ?a2Z) ?k1Z ?k2Z ?k3Z ?k4Z ?k5Z ?kKZ ?kdZ ?kuZ ?_ ?_; walk_at "ctr"; (case a1Z => exact IsRes.mono (by assumption) (by walk_at "led")); (case a0Z => exact altR_ok (by assumption) (by assumption)); (case a2Z => walk_at "res3"); rotate_left; exact (fun _ _ _ _ _ _ _ _ h => h.elim); intro r9k tl9k h9k tk9k F9k N9k o9k; (obtain ⟨o9k, p9k⟩ := o9k); subst o9k; subst p9k; (try simp only [List.nil_append] at N9k); (try k_fold))))
  k_with "m call ref" => ((k_here; (with_reducible show wpAny _ _ (call (Value.ref 345) _ _) _ _ _); (rename News _ _ _ _ => N9k); (rename Cant _ _ _ _ _ _ _ _ _ _ _ _ _ _ _ => C9k); k_dflt (refine' CtrJ.use (c_joinL _ _ _ _ _ _ _ _ ?ok1Z ?ok2Z ?tx1Z ?tx2Z _ _ _ ?hwZ ?hp1Z ?hp2Z ?tbZ ?hneZ ?hstZ) ?zBZ ?zFZ ?zXZ ?zNZ ?zTZ ?zhkZ ?zXBZ ?zTBZ ?zCBZ ?zhdZ ?zhuZ ?_; (case zNZ => exact rotP N9k); (case tbZ => exact C9k.base.tp); (case hneZ => exact Can.hP (Cant.toCan C9k)); (case hstZ => intro q9k h9k; have h9k := C9k.sst q9k h9k; walk_at "sub"); (case hp1Z => exact IsPv.mono (by assumption) (by walk_at "led")); (case hp2Z => exact IsPv.mono (by assumption) (by walk_at "led")); (case hwZ => exact IsWorld.mono (by assumption) (by walk_at "led")); (case ok1Z => assumption); (case ok2Z => assumption); (case tx1Z => assumption); (case tx2Z => assumption); (case zFZ => k_asm); (case zBZ => k_asm); (case zXZ => k_asm); (case zTZ => k_asm); (case zhkZ => exact rfl); (case zXBZ => assumption); (case zTBZ => assumption); (case zCBZ => assumption); (case zhdZ => ktr_room); (case zhuZ => ktr_units); intro ps9k tl9k h9k tk9k h09 T9k F9k N8k tb9k l9k; replace F9k := turn0_fr T9k F9k; replace N8k := turn0_news T9k N8k; clear T9k; replace N8k := unP N8k; (have C8k := Cant.joinL C9k l9k tb9k); clear N9k C9k l9k tb9k; (try dsimp only); (try k_fold))))
  k_with "m compareOp NotEq" => ((k_here; k_dflt (refine' ans_ne ?n1Z ?n2Z ?n3Z ?n4Z ?n5Z ?n6Z ?n7Z ?_; (case n1Z => k_asm); (case n4Z => with_reducible assumption); (case n2Z => with_reducible assumption); (case n3Z => walk_at "led"); (case n5Z => walk_at "led"); (case n7Z => ktr_units); (case n6Z => first | with_reducible exact bin_law (by with_reducible assumption) | with_reducible exact un_none (by with_reducible assumption) | with_reducible exact un_none2 (by with_reducible assumption) | with_reducible exact un_some (by with_reducible assumption) | with_reducible exact up_none (by with_reducible assumption) | with_reducible exact up_some (by with_reducible assumption)))))
  k_with "m compareOp NotEq" => ((k_here; (with_reducible show wpAny _ _ (compareOp CmpOp.NotEq _ (Value.int _ _)) _ _ _); k_dflt (refine' ans_neI ?n1Z ?n2Z ?n3Z ?n6Z ?n7Z ?_; (case n1Z => k_asm); (case n2Z => with_reducible assumption); (case n3Z => walk_at "led"); (case n7Z => ktr_units); (case n6Z => first | with_reducible exact bin_law (by with_reducible assumption) | with_reducible exact un_none (by with_reducible assumption) | with_reducible exact un_none2 (by with_reducible assumption) | with_reducible exact un_some (by with_reducible assumption) | with_reducible exact up_none (by with_reducible assumption) | with_reducible exact up_some (by with_reducible assumption)))))
  k_with "m compareOp NotEq" => ((k_here; (with_reducible show wpAny _ _ (compareOp CmpOp.NotEq _ (Value.ref _)) _ _ _); k_dflt (refine' ans_neE ?n1Z ?n2Z ?n3Z ?n4Z ?n6Z ?n7Z ?_; (case n1Z => k_asm); (case n2Z => with_reducible assumption); (case n3Z => walk_at "led"); (case n4Z => walk_at "errD"); (case n7Z => ktr_units); (case n6Z => first | with_reducible exact bin_law (by with_reducible assumption) | with_reducible exact un_none (by with_reducible assumption) | with_reducible exact un_none2 (by with_reducible assumption) | with_reducible exact un_some (by with_reducible assumption) | with_reducible exact up_none (by with_reducible assumption) | with_reducible exact up_some (by with_reducible assumption)))))
  k_with "m compareOp NotIn int ref" => ((k_here; k_dflt (refine' n0_notin ?NZ ?mZ ?uZ ?_ ?_; (case NZ => k_asm); (case mZ => walk_at "mem2"); (case uZ => ktr_units))))
  k_with "m binaryOp Mod int int" => ((k_here; refine mod_int (abs_ne (by with_reducible assumption)) ?_))
  k_with "m compareOp NotEq int int" => ((k_here; k_dflt (refine' int_ne ?eZ ?_; (case eZ => first | with_reducible exact rem_p (by with_reducible assumption) (by with_reducible assumption) | with_reducible exact rem_n (by with_reducible assumption) (by with_reducible assumption)))))
  k_with "m compareOp NotIn none ref" => ((k_here; k_dflt (refine' nn_notin ?NZ ?mZ ?uZ ?_; (case NZ => k_asm); (case mZ => walk_at "mem2"); (case uZ => ktr_units))))
  k_with "m cutend" => (exact PostCan.intro (by k_asm) (by k_asm) (by assumption) (by walk_at "led") (by walk_at "led"))
  k_with "m eval Lambda" => ((k_here; (rename Can _ _ _ _ _ _ _ _ _ _ _ _ => C9k); (rename News _ _ _ _ => N7k); (try replace N7k := n_dropR N7k); k_dflt (refine' kla_eval ?d0Z ?_; (case d0Z => exact rfl)); k_dflt (refine' lam_any (qual := qualL) ?lFZ N7k ?lTZ ?lCZ ?lcdZ ?ltbZ ?lhneZ ?lclZ ?_; (case lFZ => k_asm); (case lTZ => k_asm); (case lcdZ => exact rfl); (case lCZ => assumption); (case ltbZ => exact C9k.tq); (case lhneZ => exact Can.hT C9k); (case lclZ => exact rfl); k_whole); intro f9k c9k ct9k qs9k tl9k h9k tk9k F9k N9k tb9k co9k l1k l2k l3k; (obtain ⟨C8k, N8k⟩ := Can.lamN C9k N9k l1k l3k tb9k); clear l1k l2k l3k C9k N7k N9k tb9k))
  k_with "m call ref" => ((k_here; (with_reducible show wpAny _ _ (call (Value.ref 317) _ _) _ _ _); (fail_if_success (with_reducible rename AnsIs _ => zM9k)); (fail_if_success (with_reducible rename ResIs _ => zM9k)); k_dflt (refine' CtrT.use (heard5 (k := 36)  ?zfaZ (Held.out ?zCZ)) ?zBZ ?zFZ ?zXZ ?zNZ ?zTZ ?zhkZ ?zXBZ ?zTBZ ?zhdZ ?zhuZ ?_; (case zFZ => k_asm); (case zNZ => k_asm); (case zfaZ => exact (.tail _ (.tail _ (.tail _ (.tail _ (.tail _ (.tail _ (.tail _ (.head _))))))))); (case zBZ => k_asm); (case zXZ => k_asm); (case zTZ => k_asm); (case zhkZ => exact rfl); (case zXBZ => assumption); (case zTBZ => assumption); (case zhdZ => ktr_room); (case zhuZ => ktr_units); (case zCZ => walk_at "held"); intro r9k tl9k h9k tk9k hb9k T9k F9k N9k B9k X9k TT9k o9k; replace F9k := turn0_fr T9k F9k; replace N9k := turn0_news T9k N9k; clear T9k B9k X9k TT9k; (try dsimp only); (try k_fold))))
  k_with "m compareOp Eq" => ((k_here; (with_reducible show wpAny _ _ (compareOp CmpOp.Eq _ (Value.ref _)) _ _ _); k_dflt (refine' dat_self (d := errD 5) ?k1Z ?k2Z ?k3Z ?k4Z (fun _ h => h) (err_kqd _) ?k7Z ?_; (case k1Z => k_asm); (case k2Z => assumption); (case k3Z => walk_at "led"); (case k4Z => walk_at "errD"); (case k7Z => ktr_units))))
  exact True.intro
set_option maxRecDepth 100000 in
set_option maxHeartbeats 8000000 in
theorem tl : PySem.Challenge.rw_np0295_01.Holds := by
  w_on
  refine holds_law ws fun said => ?_
  refine holds_open (q := vw) (loose := lo) (Xt := fun s => xlAt vw [] s && recOk PySem.Challenge.rw_np0295_01.row.toRowW.records s) (XP := XL vw []) (Yf := HK.obs) (Ya := HK.val) (YP := HK.says) (N := 4618) left HK.of HK.keeps (fun s e => xl_of s (Bool.and_eq_true_iff.mp e).1) XL.keeps (by rfl) (by rfl) (by rfl) (fun s e => recFacts_of (Bool.and_eq_true_iff.mp e).2) (by rfl) (by first | assumption | decide +kernel) (by decide +kernel) ⟨rfl, rfl, rfl, rfl, rfl, by decide +kernel⟩ ?hw ?hc
  case hw => w_witness2
  clear said
  k_go0
  (rename Frag.In _ _ => X9); (rename Below _ _ _ _ => K9); (rename Fr _ _ _ _ => F9); (rename News _ _ _ _ => N9); (rename _ < _ ∧ _ < _ => l9); (rename Top _ _ _ _ _ _ => T9)
  (rename Obj.data _ = Data.cell _ => e4; revert e4; rename Obj.data _ = Data.cell _ => e3; revert e3; rename Obj.data _ = Data.cell _ => e2; revert e2; rename Obj.data _ = Data.cell _ => e1; revert e1)
  try dsimp only
  intro e1 e2 e3 e4
  replace e1 : Obj.data _ = Data.cell none := e1
  replace e2 : Obj.data _ = Data.cell none := e2
  replace e3 : Obj.data _ = Data.cell none := e3
  replace e4 : Obj.data _ = Data.cell none := e4
  replace F9 : Fr _ _ _ (fun y => if y = nm "script" then _ else none) := F9
  (rename ¬ _ < _ => c9; replace c9 := Int.ofNat_le.mp (Int.not_lt.mp c9))
  (rename CodeHd _ (351, 347).1 (351, 347).2 => d9; replace d9 : CodeHd _ 351 347 := d9); (rename CodeHd _ (344, 340).1 (344, 340).2 => j9; replace j9 : CodeJ _ := j9)
  (rename IntsAre _ _ => I9); (rename Heap.IsList (ghostOf _ _) _ _ => i9); (rename PyData.layable0 _ = true => y9)
  try (rename Dflts _ _ _ => z; clear z)
  try (rename Heap.CodeRec _ _ _ => z; clear z)
  try (rename TopW _ _ _ => z; clear z)
  try (rename TopE _ _ _ _ => z; clear z)
  try (rename Tables _ _ _ _ => z; clear z)
  try (rename LooseAre _ _ _ => z; clear z)
  try (rename Flt.MathXP _ _ _ => z; clear z)
  try (rename TabsAt _ _ => z; clear z)
  try (rename Ground _ _ _ _ _ _ _ _ => z; clear z)
  try (rename CellsAre _ _ _ => z; clear z)
  generalize ghostOf _ _ = g0 at *
  generalize (Heap.objs _).size = L0 at *
  generalize (_ ++ _ : List Str) = loose at T9
  generalize ExcName.means _ = mean at T9
  try k_fold
  k_steps
  (rename News _ _ _ _ => N1); (rename IsWorld _ _ _ _ => w1); (rename ∀ p ∈ (_ : Led), ∀ q ∈ (_ : Led), q.1 < p.1 => l1); (rename ∀ p ∈ (_ : Led), p.1 ≠ _ => d1); (rename IsBox _ _ _ => b1); (rename IntsAre _ _ => I1)
  obtain ⟨C, NC⟩ := Can.init N1 l1 w1 l9.1 l9.2 d1 e1 e2 e3 e4
  k_here
  refine' storeX_C ?zcF NC ?zcc C.updW e1 ?_ ?zca ?zcb
  case zcF => k_asm
  case zcc => rfl
  case zca => rfl
  case zcb => rfl
  intro h8 o8 F8 N8 d8
  replace C := C.setW d8
  clear N1 w1 l1 d1 NC
  repeat' (first | (k_unfold; (try dsimp only)) | ((fail_if_success (with_reducible show wpAny _ _ (pyIter (Value.ref _)) _ _ _)); walk1) | ((fail_if_success (with_reducible show wpAny _ _ (pyIter (Value.ref _)) _ _ _)); dsimp only; walk1))
  k_here
  (rename Fr _ _ _ _ => lF'); (rename News _ _ _ _ => lN'); (rename IsRange _ _ _ _ _ _ _ _ => rg')
  with_unfolding_all refine' iter_rangeJ _ ?hh rg' ?hs ?hn lF' lN' (LJ _ _ _ _ _ _ _ _ _) ?h0 (Held.out ?zturn) (Held.out ?zdone)
  case hh => exact rfl
  case hs => exact small_one (by omega) (by omega) (by omega) (by omega)
  case hn => exact rangeSize_nat _ _
  case h0 => exact LJ.init e2 e3 e4 (by assumption) (by omega) C
  case zturn =>
    unfold Held
    intro I i m news t h tk it hi hJ off F N
    obtain ⟨qs, ps, bo, oW, oO, oB, oA, vO, vB, vA, u1, u2, u3, u4, u5, st, hi', rfl, eO, eB, eA, b2, hle, C0, rfl⟩ := hJ
    have C := Cant.start (it := it) C0 off
    replace F : Fr g0 L0 h _ := F
    replace N : News g0 L0 h _ := n_start N
    have hi8 : hi' < 90000 := by omega
    clear lF' lN' rg' off
    have h5 := C.lo (by omega)
    have h40 := C.hi (by omega)
    k_steps
    (rename News _ _ _ _ => N1); (rename Cant _ _ _ _ _ _ _ _ _ _ _ _ _ _ _ => C)
    have N2 := fun p hp => N1 p (.tail _ hp)
    k_here
    refine' storeX_C ?zF N2 ?zc C.toCan.updA eA ?_ ?za ?zb
    case zF => k_asm
    case zc => rfl
    case za => rfl
    case zb => rfl
    intro h8 oA1 F8 N8 eA1
    clear N1 N2
    k_steps
    (rename News _ _ _ _ => N1); (rename Cant _ _ _ _ _ _ _ _ _ _ _ _ _ _ _ => C)
    have N2 := fun p hp => N1 p hp
    k_here
    refine' storeX_C ?zF N2 ?zc C.toCan.updB eB ?_ ?za ?zb
    case zF => k_asm
    case zc => rfl
    case za => rfl
    case zb => rfl
    intro h8 oB1 F8 N8 eB1
    clear N1 N2
    repeat' (first | (k_unfold; (try dsimp only)) | ((fail_if_success (with_reducible show wpAny _ _ (subscriptTail _ _ _ _) _ _ _)); walk1) | ((fail_if_success (with_reducible show wpAny _ _ (subscriptTail _ _ _ _) _ _ _)); dsimp only; walk1))
    k_here
    (rename News _ _ _ _ => N1)
    refine op_item N1 (.tail _ (.tail _ (.tail _ (.tail _ (.tail _ (.tail _ (.tail _ (.head _)))))))) (by assumption) (by assumption) ?_ ?zs
    case zs => with_unfolding_all rfl
    intro o1 t1
    try k_fold
    k_steps
    (rename News _ _ _ _ => N1); (rename Cant _ _ _ _ _ _ _ _ _ _ _ _ _ _ _ => C)
    have N2 := fun p hp => N1 p hp
    k_here
    refine' storeX_C ?zF N2 ?zc C.toCan.updO eO ?_ ?za ?zb
    case zF => k_asm
    case zc => rfl
    case za => rfl
    case zb => rfl
    intro h8 oO1 F8 N8 eO1
    clear N1 N2
    repeat' (first | (k_unfold; (try dsimp only)) | ((fail_if_success (with_reducible show wpAny _ _ (execs (Stmt.If _ _ _ _ :: _) _) _ _ _)); walk1) | ((fail_if_success (with_reducible show wpAny _ _ (execs (Stmt.If _ _ _ _ :: _) _) _ _ _)); dsimp only; walk1))
    (rename GoodV _ _ _ _ _ _ => gB); revert gB; (rename GoodV _ _ _ _ _ _ => gA); intro gB
    (rename Fr _ _ _ _ => F1); (rename News _ _ _ _ => N1); (rename Cant _ _ _ _ _ _ _ _ _ _ _ _ _ _ _ => C)
    replace gA := Cant.gv C gA (by walk_at "led")
    replace gB := Cant.gv C gB (by walk_at "led")
    k_here
    have HN := Held.mk N1
    refine cutB' F1 N1 C gA gB ?_ ?_
    · skip
      have opt := gB.opt
      generalize hw : Pv.whole _ _ = ow at opt
      cases opt
      skip
      all_goals k_steps
      all_goals (try exact PostB.same (by k_asm) (by k_asm) (if_pos rfl) eB1 (by assumption) (by walk_at "led"))
      all_goals ((rename News _ _ _ _ => N3); (have N4 := n_like HN N3 (by walk_at "led")); k_here; (refine' storeX_C ?zF N4 ?zc C.toCan.updB eB1 ?_ ?za ?zb; (case zF => k_asm); (case zc => rfl); (case za => rfl); (case zb => rfl)); intro h8 oB3 F8 N8 eB3)
      all_goals clear N3 N4
      all_goals k_steps
      all_goals exact PostB.new (by k_asm) (by k_asm) eB3 GV.three (by walk_at "led")
    intro oB2 vb ov2 p2 h9 tk9 F8 N8 eB2 gB2
    try dsimp only
    try k_fold
    clear F1 N1 gB HN
    have pvA := gA.pv; have okA := gA.ok; have txA := gA.txt; have opA := gA.opt; have whA := gA.whole h40
    have pvB := gB2.pv; have okB := gB2.ok; have txB := gB2.txt; have opB := gB2.opt; have whB := gB2.whole h40
    have hW := C.toCan.wld; have dW := C.base.dW
    k_here
    refine cut' F8 N8 C ?_ ?_
    · skip
      have mk1 := mkBin gA gB2 o1
      k_steps
      all_goals walk_at "cutend"
    clear F8 N8 C hW
    intro qs8 ps8 st8 ex8 h8 tk8 F8 N8 C sb8
    try dsimp only
    try k_fold
    replace gA := gA.mono sb8; replace gB2 := gB2.mono sb8; replace pvA := IsPv.mono pvA sb8; replace pvB := IsPv.mono pvB sb8; clear sb8
    have hW := C.toCan.wld
    k_here
    refine cut' F8 N8 C ?_ ?_
    · skip
      have mk1 := mkUn gA true
      generalize hwA : Pv.whole _ _ = owA at opA whA
      cases opA
      all_goals k_steps
      all_goals walk_at "cutend"
    clear F8 N8 C hW
    intro qs8 ps8 st8 ex8 h8 tk8 F8 N8 C sb8
    try dsimp only
    try k_fold
    replace gA := gA.mono sb8; replace gB2 := gB2.mono sb8; replace pvA := IsPv.mono pvA sb8; replace pvB := IsPv.mono pvB sb8; clear sb8
    have hW := C.toCan.wld
    k_here
    refine cut' F8 N8 C ?_ ?_
    · skip
      have mk1 := mkUn gA false
      generalize hwA : Pv.whole _ _ = owA at opA whA
      cases opA
      all_goals k_steps
      all_goals walk_at "cutend"
    clear F8 N8 C hW
    intro qs8 ps8 st8 ex8 h8 tk8 F8 N8 C sb8
    try dsimp only
    try k_fold
    replace gA := gA.mono sb8; replace gB2 := gB2.mono sb8; replace pvA := IsPv.mono pvA sb8; replace pvB := IsPv.mono pvB sb8; clear sb8
    have hW := C.toCan.wld
    k_here
    refine cut' F8 N8 C ?_ ?_
    · skip
      generalize hwA : Pv.whole _ _ = owA at opA whA
      generalize hwB : Pv.whole _ _ = owB at opB whB
      cases opA
      all_goals cases opB
      all_goals k_steps
      all_goals walk_at "cutend"
    clear F8 N8 C hW
    intro qs8 ps8 st8 ex8 h8 tk8 F8 N8 C sb8
    try dsimp only
    try k_fold
    replace gA := gA.mono sb8; replace gB2 := gB2.mono sb8; replace pvA := IsPv.mono pvA sb8; replace pvB := IsPv.mono pvB sb8; clear sb8
    have hW := C.toCan.wld
    k_here
    refine cut' F8 N8 C ?_ ?_
    · skip
      k_steps
      all_goals walk_at "cutend"
    clear F8 N8 C hW
    intro qs8 ps8 st8 ex8 h8 tk8 F8 N8 C sb8
    try dsimp only
    try k_fold
    replace gA := gA.mono sb8; replace gB2 := gB2.mono sb8; replace pvA := IsPv.mono pvA sb8; replace pvB := IsPv.mono pvB sb8; clear sb8
    have hW := C.toCan.wld
    have mk1 := mkAlt gA gB2
    k_steps
    all_goals ((rename Fr _ _ _ _ => F9); (rename News _ _ _ _ => N9); (rename Cant _ _ _ _ _ _ _ _ _ _ _ _ _ _ _ => C9); (refine' Cant.fin' C9 F9 N9 eO1 eB2 eA1 ?z1 ?z2 ?z3; (case z1 => walk_at "led"); (case z2 => assumption); (case z3 => omega)))
  case zdone =>
    unfold Held
    intro m news h tk hJ F N
    obtain ⟨qs, ps, bo, oW, oO, oB, oA, vO, vB, vA, u1, u2, u3, u4, u5, st, hi', rfl, eO, eB, eA, b2, hle, C, rfl⟩ := hJ
    replace F : Fr g0 L0 h _ := F
    clear lF' lN' rg'
    have dW := C.dW
    all_goals try dsimp only
    all_goals try k_fold
    k_steps

end
end Mine
end
theorem PySem.Challenge.cw_np0295_01_holds : PySem.Challenge.rw_np0295_01.Holds := by
  exact Mine.tl
