import PyProof.Rows.All
import Wide.All
import OpenK.AllK
import Wide.FinOn
import PyProof.ExcAttrAll.Exception
import Lean
import PySem.Challenge.RW_xw0204_01
set_option Elab.async false
set_option linter.all false
section
open PySem PySem.W PyProof.Rows
namespace Mine
noncomputable def viewQ : Program := { PySem.Challenge.pw_xw0204_01 with main := { PySem.Challenge.pw_xw0204_01.main with body := [0, 2, 3, 4, 5, 6, 7, 8, 9, 10, 11, 12, 14, 15, 17, 18, 19, 20, 21, 22, 23, 25, 27, 28, 29, 30, 31, 32, 33, 34, 35, 36, 37].filterMap (PySem.Challenge.pw_xw0204_01.main.body[·]?) } }
/-- a run of the top over the library's tree in place of the row of objects -/
def topRunT (st : (Code → Sem Fin) → Program → World → SharedT → Thread → Option (SharedT × Thread)) (den : Code → Sem Fin) (p : Program) (w : World) (n₀ : Nat) (ann : Option Value) : Nat → SharedT → Thread → Option SharedT
  | 0, _, _ => none
  | n + 1, s, t => match through t with
    | true => some s
    | false => match stepOk n₀ ann t with
      | false => none
      | true => match st den p w s t with
        | some (s', t') => topRunT st den p w n₀ ann n s' t'
        | none => none
theorem topRunT_of {tb : String → Option Builtin} {p : Program} {w : World} {n₀ : Nat} {ann : Option Value} : ∀ {n : Nat} {s r : SharedT} {t : Thread}, topRunT stepT (denote tb) p w n₀ ann n s t = some r → topRun tb p w n₀ ann n s.abs t = some r.abs
  | 0, _, _, _, h => by cases h
  | n + 1, s, r, t, h => by
    unfold topRunT at h
    unfold topRun
    cases he : through t with
    | true => rw [he] at h; cases h; rfl
    | false =>
      rw [he] at h
      cases hk : stepOk n₀ ann t with
      | false => rw [hk] at h; cases h
      | true =>
        rw [hk] at h
        cases hs : stepT (denote tb) p w s t with
        | none => rw [hs] at h; cases h
        | some x => obtain ⟨s₂, t₂⟩ := x; rw [hs] at h; rw [stepT_spec hs]; exact topRunT_of h
/-- the tree of a row of objects -/
def grow (T : BT) (n : Nat) : List Obj → Option (BT × Nat)
  | [] => some (T, n)
  | o :: l => match ((T.ins n o).get n).isSome with
    | true => grow (T.ins n o) (n + 1) l
    | false => none
theorem grow_of {life : Life} : ∀ {l : List Obj} {T T' : BT} {n n' : Nat}, grow T n l = some (T', n') → absHeap T' n' life = ⟨(absHeap T n life).objs ++ l.toArray, life⟩
  | [], _, _, _, _, h => by cases h; simp [absHeap]
  | o :: l, T, T', n, n', h => by
    unfold grow at h
    cases g : ((T.ins n o).get n).isSome with
    | false => rw [g] at h; cases h
    | true =>
      rw [g] at h
      rw [grow_of h, absHeap_ins g]
      show Heap.mk ((absHeap T n life).objs.push o ++ l.toArray) life = _
      simp
theorem grow_heap {h : Heap} {T : BT} {n : Nat} (e : grow .nil 0 h.objs.toList = some (T, n)) : absHeap T n h.life = h := by
  rw [grow_of e]
  obtain ⟨o, l⟩ := h
  simp [absHeap, BT.list]
/-- openEnds over the tree; its parts stand open, the library has faster forms of them, each with an equation -/
def openByT (ie : (String → Option Builtin) → Program → World → Nat → Shared → Thread → Option Shared) (fm : Program → Shared → Option Shared)
  (stp : (Code → Sem Fin) → Program → World → SharedT → Thread → Option (SharedT × Thread)) (den : (String → Option Builtin) → Code → Sem Fin) (st : Program → Shared × Thread) (tb : String → Option Builtin) (p : Program) (w : World) (N : Nat) : Option Shared :=
  ((ie tb (opening p) w N (st (opening p)).1 (st (opening p)).2).bind (fm p)).bind fun s₀ =>
  match s₀.heap.isNs mainGlobals && s₀.gens.size == 0 with
  | true => match grow .nil 0 s₀.heap.objs.toList with
    | some (T, n) => (topRunT stp (den tb) p w n (s₀.heap.nsMap mainGlobals "__annotations__") N ⟨T, n, s₀.heap.life, s₀.gens, s₀.drawn, s₀.toks, s₀.os⟩ (topStub p)).bind fun s₁ =>
      match staticsOk (importedModules p.main.body) s₀.heap s₁.abs.heap && namesBound p s₁.abs.heap && gensDone s₁.abs && laidKept s₀.heap s₁.abs.heap with
      | true => some s₁.abs
      | false => none
    | none => none
  | false => none
theorem open_byT {tb : String → Option Builtin} {p : Program} {w : World} {N : Nat} {s : Shared} (h : openByT importEnds fenceModules? stepT denote start tb p w N = some s) : openEnds tb p w N = some s := by
  obtain ⟨s₀, h1, h2⟩ := Option.bind_eq_some_iff.mp h
  show (fencedOpening tb p w N).bind (topFrom tb p w N) = some s
  rw [show fencedOpening tb p w N = some s₀ from h1]
  show topFrom tb p w N s₀ = some s
  unfold topFrom
  cases hg : (s₀.heap.isNs mainGlobals && s₀.gens.size == 0) with
  | false => rw [hg] at h2; cases h2
  | true =>
    rw [hg] at h2
    cases hT : grow .nil 0 s₀.heap.objs.toList with
    | none => rw [hT] at h2; cases h2
    | some x =>
      obtain ⟨T, n⟩ := x
      rw [hT] at h2
      obtain ⟨s₁, h3, h4⟩ := Option.bind_eq_some_iff.mp h2
      have e := grow_heap hT
      have hn : n = s₀.heap.objs.size := by rw [← e, absHeap_size]
      subst hn
      have h5 := topRunT_of h3
      have e2 : (SharedT.abs ⟨T, s₀.heap.objs.size, s₀.heap.life, s₀.gens, s₀.drawn, s₀.toks, s₀.os⟩) = s₀ := by
        show Shared.mk _ _ _ _ _ = s₀
        rw [e]
      rw [e2] at h5
      show (topRun tb p w s₀.heap.objs.size (s₀.heap.nsMap mainGlobals "__annotations__") N s₀ (topStub p)).bind _ = some s
      rw [h5]
      exact h4
theorem left_of {p q : Program} {loose : List Str} {Xt : Shared → Bool} {α : Type} {Yf : Shared → α} {Ya : World → α} {N : Nat}
    (h : ∀ w, (openByT Fast.tw10274390034422433532 Fast.tw14289696077712309145 Fast.tw10156331382660048174 Fast.tw11892475500146522536 Fast.tw1435165496053646825 Fast.tw14364793385576792824 p w N).map (fun s => (Fast.tw4187177175401517315 q loose (importedModules p.main.body) Xt true s, Yf s)) = some (openGood q loose, Ya w)) :
    LeftO p q loose Xt Yf Ya N := by
  intro w
  have z := h w
  rw [← Fast.te10274390034422433532, ← Fast.te14289696077712309145, ← Fast.te10156331382660048174, ← Fast.te11892475500146522536, ← Fast.te1435165496053646825, ← Fast.te14364793385576792824, ← Fast.te4187177175401517315] at z
  obtain ⟨s, h1, h2⟩ := Option.map_eq_some_iff.mp z
  exact Option.map_eq_some_iff.mpr ⟨s, open_byT h1, h2⟩
local macro_rules | `(tactic| k_head) => `(tactic| x_head)
local macro_rules | `(tactic| o_law) => `(tactic| refine holds_law (by decide +kernel) fun said => ?_)
local macro_rules | `(tactic| o_head $H) => `(tactic| (refine holds_open (q := viewQ) (loose := [Str.ofString "SyntaxFault"]) (Xt := fun s => xlAt viewQ [] s && recOk (RowW.records PySem.Challenge.rw_xw0204_01.row.toRowW) s) (XP := XL viewQ []) (Yf := Hook.obs $H) (Ya := Hook.val $H) (YP := Hook.says $H) (N := 4200) ?hl (Hook.of $H) (Hook.keeps $H) (fun s e => xl_of s (Bool.and_eq_true_iff.mp e).1) XL.keeps (by rfl) (by rfl) (by rfl) (fun s e => recFacts_of (Bool.and_eq_true_iff.mp e).2) (by rfl) (by first | assumption | decide +kernel) (by decide +kernel) ⟨rfl, rfl, rfl, rfl, rfl, by decide +kernel⟩ ?hw ?hc; (case hl => exact left_of fun w => by kernel_rfl)))
set_option maxRecDepth 100000 in
set_option maxHeartbeats 0 in
open_top hd for PySem.Challenge.rw_xw0204_01
end Mine
end
section
open PySem PySem.Spec PySem.Calls PyProof.Rows PySem.W
namespace Mine
/-- the exception's record: its class, its dict, its newest entry with the flight mark fl -/
def Marked (h B : Heap) (e C dx : Addr) (fl : Value) : Prop :=
  ∃ oe vs T oT ts, h.get? e = some oe ∧ oe.cls = .ref C ∧ oe.dict = some dx ∧ oe.data = .fields vs ∧ vs[1]? = some (.ref T) ∧ B.get? T = none ∧ T ≠ e ∧
    h.get? T = some oT ∧ oT.data = .fields ts ∧ ts[3]? = some fl
structure Fly (B : Heap) (l : List Env) (e C dx : Addr) (fl : Value) (h : Heap) : Prop where
  stays : B.StaysIn h
  fresh : B.get? e = none
  frames : h.FunFrames B l
  mark : Marked h B e C dx fl
section
variable {M : Model} {A : Around} {E : Value → Shared → Prop} {s : Shared} {B : Heap} {env : Env} {outer l : List Env} {L e C dx : Addr} {Q : Unit → Shared → Prop}
theorem tb_entry {oe : Obj} {vs : Array Value} {head : Value} {had : Bool} (hfr : A.frames = some (env :: outer)) (hl : s.heap.FunFrames B (env :: outer)) (hf : env.frame = some L)
    (he : s.heap.get? e = some oe) (hkb : B.StaysIn s.heap) (hen : B.get? e = none) (hc : oe.cls = .ref C) (hx : oe.dict = some dx) (hd : oe.data = .fields vs) (hsz : 1 < vs.size)
    (h : ∀ h', Fly B (env :: outer) e C dx (rawInt L) h' → s.heap.UpToSlots h' → Q () { s with heap := h' }) :
    wpAny M A (do let a ← frameOf env; let pl ← entryPlaceOf L had; let b ← EntryCells.newEntry head a .none (rawInt L) .none pl; setField (.ref e) 1 b) Q E s := by
  have off : e ∉ (env :: outer).filterMap (·.frame) := fun hm => by
    obtain ⟨_, o, ho, hn⟩ := hl.mem hm
    rw [he] at ho; cases ho; exact hn vs hd
  refine wpAny_bind (wpAny_frameOf_fun hfr hl hf fun h₁ sl₁ => wpAny_bind (wpAny_entryPlaceOf fun pl hpl => ?_))
  unfold EntryCells.newEntry newFields
  refine wpAny_bind (wpAny_newObj_type ?_ (hpl.sizeOk5 _ _ _ _ _))
  have e₁ : h₁.get? e = some oe := (sl₁.2.1 e off).trans he
  have b₁ : B.StaysIn h₁ := fun b o q => (sl₁.2.1 b fun hm => by rw [(hl.mem hm).1] at q; cases q).trans (hkb b o q)
  generalize htb : ({ cls := .type "traceback", dict := none, data := .fields ([head, .ref L, .none, rawInt L, .none] ++ (if pl.isEmpty then List.replicate 6 Value.none else pl)).toArray } : Obj) = tb
  have tfree : tb.isFreed = false := by rw [← htb]; rfl
  have ne : h₁.objs.size ≠ e := Nat.ne_of_gt (Heap.lt_size e₁)
  have e₂ := Heap.get?_push_of_some (h := h₁) tb e₁
  refine wpAny_setField e₂ hd hsz (h _ ?_ ?_)
  · have e₃ := Heap.get?_update_self (Obj.mapFields (·.setIfInBounds 1 (Value.ref h₁.objs.size))) e₂ (Obj.isFreed_of_fields (Obj.data_mapFields hd _))
    have keep : ∀ b o, b ≠ e → h₁.get? b = some o → ((h₁.push tb).update e (Obj.mapFields (·.setIfInBounds 1 (Value.ref h₁.objs.size)))).get? b = some o := fun b o nb q => by
      rw [Heap.get?_update_other _ _ (Ne.symm nb)]; exact Heap.get?_push_of_some _ q
    refine ⟨fun b o q => keep b o (fun z => by rw [z, hen] at q; cases q) (b₁ b o q), hen, hl.of_keeps fun b o q hn => ?_, ⟨_, _, h₁.objs.size, tb, _, e₃, ?_, ?_, Obj.data_mapFields hd _, ?_, b₁.fresh, ne, ?_, by rw [← htb], ?_⟩⟩
    · obtain ⟨sl, hs⟩ := sl₁.2.2 b o q
      exact ⟨_, keep b _ (fun z => by rw [z, he] at q; cases q; exact hn vs hd) hs, rfl⟩
    · rw [Obj.cls_mapFields]; exact hc
    · obtain ⟨c, d, dt, sl⟩ := oe; cases dt <;> exact hx
    · simp [hsz]
    · rw [Heap.get?_update_other _ _ (Ne.symm ne)]; exact Heap.get?_push_size h₁ tfree
    · first | (simp; done) | (rcases hpl with rfl | ⟨_, _, _, _, _, _, _, rfl⟩ <;> simp)
  · intro b o q hn
    obtain ⟨sl, hs⟩ := sl₁.2.2 b o q
    refine ⟨sl, ?_⟩
    rw [Heap.get?_update_other _ _ (fun z => by rw [← z, he] at q; cases q; exact hn vs hd)]
    exact Heap.get?_push_of_some _ hs
theorem note_new {oe : Obj} {vs : Array Value} (hfr : A.frames = some (env :: outer)) (hl : s.heap.FunFrames B (env :: outer)) (hf : env.frame = some L)
    (he : s.heap.get? e = some oe) (hkb : B.StaysIn s.heap) (hen : B.get? e = none) (hc : oe.cls = .ref C) (hx : oe.dict = some dx) (hd : oe.data = .fields vs) (h1 : vs[1]? = some .none)
    (h : ∀ h', Fly B (env :: outer) e C dx (rawInt L) h' → s.heap.UpToSlots h' → Q () { s with heap := h' }) : wpAny M A (noteFrame (.ref e) env) Q E s := by
  unfold noteFrame
  simp only [hf]
  refine wpAny_bind (wpAny_field he hd h1 ?_)
  rw [if_neg (by decide)]
  exact tb_entry hfr hl hf he hkb hen hc hx hd (Array.getElem?_eq_some_iff.mp h1).1 h
theorem note_on (hfr : A.frames = some (env :: outer)) (hf : env.frame = some L) (x : Fly B (env :: outer) e C dx .none s.heap)
    (h : ∀ h', Fly B (env :: outer) e C dx (rawInt L) h' → s.heap.UpToSlots h' → Q () { s with heap := h' }) : wpAny M A (noteFrame (.ref e) env) Q E s := by
  obtain ⟨x1, x2, x3, oe, vs, T, oT, ts, he, hc, hx, hd, h1, hT, ne, ht, hdT, h3⟩ := x
  unfold noteFrame
  simp only [hf]
  refine wpAny_bind (wpAny_field he hd h1 ?_)
  rw [if_pos (show (Value.ref T != Value.none) = true from by simp)]
  refine wpAny_bind (wpAny_field ht hdT h3 ?_)
  rw [if_neg (show ¬ ((Value.none == rawInt L) = true) from by simp [rawInt])]
  refine wpAny_bind (wpAny_setField ht hdT (Array.getElem?_eq_some_iff.mp h3).1 ?_)
  have oth : ∀ b, b ≠ T → (s.heap.update T (Obj.mapFields (·.setIfInBounds 3 Value.none))).get? b = s.heap.get? b := fun b hb => Heap.get?_update_other _ _ (Ne.symm hb)
  have rec_ : ∀ b o, s.heap.get? b = some o → (∀ vs, o.data ≠ .fields vs) → b ≠ T := fun b o q hn z => by rw [z, ht] at q; cases q; exact hn ts hdT
  refine tb_entry hfr (x3.of_keeps fun b o q hn => ⟨o, (oth b (rec_ b o q hn)).trans q, rfl⟩) hf ((oth e (Ne.symm ne)).trans he)
    (fun b o q => (oth b fun z => by rw [z, hT] at q; cases q).trans (x1 b o q)) x2 hc hx hd (Array.getElem?_eq_some_iff.mp h1).1 fun h' y up => h h' y fun b o q hn => ?_
  exact up b o ((oth b (rec_ b o q hn)).trans q) hn
theorem land {fl : Value} (x : Fly B l e C dx fl s.heap) (h : ∀ h', Fly B l e C dx .none h' → s.heap.UpToSlots h' → Q () { s with heap := h' }) :
    wpAny M A (setFlight (.ref e) none) Q E s := by
  obtain ⟨x1, x2, x3, oe, vs, T, oT, ts, he, hc, hx, hd, h1, hT, ne, ht, hdT, h3⟩ := x
  have h3' : 3 < ts.size := (Array.getElem?_eq_some_iff.mp h3).1
  have oth : ∀ b, b ≠ T → (s.heap.update T (Obj.mapFields (·.setIfInBounds 3 ((none : Option Addr).elim Value.none fun f => rawInt f)))).get? b = s.heap.get? b := fun b hb => Heap.get?_update_other _ _ (Ne.symm hb)
  have rec_ : ∀ b o, s.heap.get? b = some o → (∀ vs, o.data ≠ .fields vs) → b ≠ T := fun b o q hn z => by rw [z, ht] at q; cases q; exact hn ts hdT
  unfold setFlight
  refine wpAny_bind (wpAny_field he hd h1 ?_)
  rw [if_pos (show (Value.ref T != Value.none) = true from by simp)]
  refine wpAny_setField ht hdT h3' (h _ ⟨fun b o q => (oth b fun z => by rw [z, hT] at q; cases q).trans (x1 b o q), x2, x3.of_keeps fun b o q hn => ⟨o, (oth b (rec_ b o q hn)).trans q, rfl⟩,
    ⟨oe, vs, T, _, _, (oth e (Ne.symm ne)).trans he, hc, hx, hd, h1, hT, ne, Heap.get?_update_self _ ht (Obj.isFreed_of_fields (Obj.data_mapFields hdT _)), Obj.data_mapFields hdT _, by simp [h3']⟩⟩ fun b o q hn => ⟨o.slots, (oth b (rec_ b o q hn)).trans q⟩)
theorem Fly.pop {fl : Value} {h : Heap} (x : Fly B (env :: outer) e C dx fl h) : Fly B outer e C dx fl h := ⟨x.stays, x.fresh, x.frames.2.2, x.mark⟩
theorem leave_new {oe : Obj} {vs : Array Value} (hfr : A.frames = some (env :: outer)) (hl : s.heap.FunFrames B (env :: outer)) (hf : env.frame = some L)
    (he : s.heap.get? e = some oe) (hkb : B.StaysIn s.heap) (hen : B.get? e = none) (hc : oe.cls = .ref C) (hx : oe.dict = some dx) (hd : oe.data = .fields vs) (h1 : vs[1]? = some .none)
    (h : ∀ h', Fly B outer e C dx .none h' → s.heap.UpToSlots h' → Q () { s with heap := h' }) : wpAny M A (leaving env (.ref e)) Q E s := by
  unfold leaving
  exact wpAny_bind (note_new hfr hl hf he hkb hen hc hx hd h1 fun h₁ y u => land y fun h₂ z v => h h₂ z.pop (u.trans v))
theorem leave_on (hfr : A.frames = some (env :: outer)) (hf : env.frame = some L) (x : Fly B (env :: outer) e C dx .none s.heap)
    (h : ∀ h', Fly B outer e C dx .none h' → s.heap.UpToSlots h' → Q () { s with heap := h' }) : wpAny M A (leaving env (.ref e)) Q E s := by
  unfold leaving
  exact wpAny_bind (note_on hfr hf x fun h₁ y u => land y fun h₂ z v => h h₂ z.pop (u.trans v))
end
/-- an exception on its way: base and G the heaps below, l the frames that it has still to pass, news the objects known at its raising -/
def Raised (base G : Heap) (l : List Env) (e C dx : Addr) (news : List (Addr × Obj)) (h : Heap) : Prop :=
  ∃ B, base.StaysIn B ∧ (∀ b o, G.get? b = some o → b ∉ l.filterMap (·.frame) → B.get? b = some o) ∧ (∀ q ∈ news, B.get? q.1 = some q.2 ∧ G.get? q.1 = none ∧ base.get? q.1 = none) ∧ Fly B l e C dx .none h
section
variable {M : Model} {A : Around} {E : Value → Shared → Prop} {s' : Shared} {base g g₂ h : Heap} {outer : List Env} {L a e C dx : Addr} {m : Str → Option Value} {name : Str} {scope : Scope} {cd : Value} {Q : Unit → Shared → Prop} {news : List (Addr × Obj)}
/-- the frame that raised goes -/
theorem raise_leaves {oe : Obj} {vs : Array Value} (K : Below A base outer g) (F : Fr g L s'.heap m) (N : News g L s'.heap ((e, oe) :: news)) (ne : ∀ q ∈ news, q.1 ≠ e)
    (hc : oe.cls = .ref C) (hx : oe.dict = some dx) (hd : oe.data = .fields vs) (h1 : vs[1]? = some .none)
    (hQ : ∀ h', Raised base g outer e C dx news h' → g.UpToSlots h' → Q () { s' with heap := h' }) (hk : scope.kind = .function := by rfl) :
    wpAny M (A.deeper (envOf name scope L a cd)) (leaving (envOf name scope L a cd) (.ref e)) Q E s' := by
  have K' := K.push (name := name) (a := a) (cd := cd) F hk
  have he := (N (e, oe) (.head _))
  have hids : ∀ env ∈ (envOf name scope L a cd :: outer), ∀ b, env.frame = some b → b ∈ (envOf name scope L a cd :: outer).filterMap (·.frame) := fun env he b hb => List.mem_filterMap.mpr ⟨env, he, hb⟩
  generalize hfs : (envOf name scope L a cd :: outer).filterMap (·.frame) = fs at hids
  have offF : ∀ {b o}, base.get? b = some o → b ∉ e :: fs := fun {b o} q hm => by
    rcases List.mem_cons.mp hm with z | z
    · rw [z, fresh_of_stays K.stays he.2.2] at q; cases q
    · rw [(K'.frames.mem (hfs ▸ z)).1] at q; cases q
  have st : base.StaysIn (hideAll s'.heap (e :: fs)) := fun b o q => hideAll_get _ (K'.stays b o q) (offF q)
  have sg : ∀ b o, g.get? b = some o → b ∉ outer.filterMap (·.frame) → (hideAll s'.heap (e :: fs)).get? b = some o := fun b o q nm => hideAll_get _ (F.keep b o q) fun hm => by
    rcases List.mem_cons.mp hm with z | z
    · rw [z, he.2.2] at q; cases q
    · rcases kts_mem (hfs ▸ z) with z | z
      · rw [z, kts_self F] at q; cases q
      · exact nm z
  have hl : ∀ q ∈ news, (hideAll s'.heap (e :: fs)).get? q.1 = some q.2 ∧ g.get? q.1 = none ∧ base.get? q.1 = none := fun q hq => by
    have hn := N q (.tail _ hq)
    refine ⟨hideAll_get _ hn.1 fun hm => ?_, hn.2.2, fresh_of_stays K.stays hn.2.2⟩
    rcases List.mem_cons.mp hm with z | z
    · exact ne q hq z
    · rcases kts_mem (hfs ▸ z) with z | z
      · exact hn.2.1 z
      · obtain ⟨o, ho, _⟩ := (K.frames.mem z).2
        rw [hn.2.2] at ho; cases ho
  refine leave_new (B := hideAll s'.heap (e :: fs)) K'.stack (funFrames_hide (as := e :: fs) K'.frames fun env he b hb => List.mem_cons_of_mem _ (hids env he b hb)) rfl he.1 (fun b o q => of_hideAll _ q) (hideAll_none _ (.head _)) hc hx hd h1
    fun h' y u => hQ h' ⟨_, st, sg, hl, y⟩ ((Heap.UpToSlots.of_keeps F.keep).trans u)
/-- a frame that it passes goes -/
theorem pass_leaves (K : Below A base outer g) (F : Fr g L g₂ m) (R : Raised base g₂ (envOf name scope L a cd :: outer) e C dx news s'.heap) (hsm : g₂.UpToSlots s'.heap)
    (hQ : ∀ h', Raised base g outer e C dx news h' → g.UpToSlots h' → Q () { s' with heap := h' }) :
    wpAny M (A.deeper (envOf name scope L a cd)) (leaving (envOf name scope L a cd) (.ref e)) Q E s' := by
  obtain ⟨B, hB, hBG, hl, hfl⟩ := R
  refine leave_on (Around.frames_deeper K.stack) rfl hfl fun h' y u => hQ h' ⟨B, hB, fun b o q nm => hBG b o (F.keep b o q) fun hm => ?_, fun q hq => ⟨(hl q hq).1, kts_none F.keep (hl q hq).2.1, (hl q hq).2.2⟩, y⟩ ((Heap.UpToSlots.of_keeps F.keep).trans (hsm.trans u))
  rcases kts_mem hm with z | z
  · rw [z, kts_self F] at q; cases q
  · exact nm z
end
section
variable {prog : Program} {w : World} {A₀ : Around} {E : Value → Shared → Prop} {s' : Shared} {base g g₀ G : Heap} {outer : List Env} {L a e C dx : Addr} {m : Str → Option Value} {name : Str} {scope : Scope} {cd : Value}
  {n : Str} {b₀ : Stmt} {suite : List Stmt} {pos np : Pos} {rest : List ExceptHandler} {Q : Flow → Shared → Prop} {news : List (Addr × Obj)} {KF : Frag}
  {p : Program} {loose : List Str} {mean : ExcName → Option Value} {mg mb : Str → Option Value} {x : Str}
/-- the frame's own «except X as n» takes it -/
theorem caught_as (R : Raised base G (envOf name scope L a cd :: outer) e C dx news s'.heap) (F : Fr g L G m) (K : Below A₀ base outer g) (hsm : G.UpToSlots s'.heap) (XB : KF.In base) (TB : Top p loose mean mg mb base)
    (D : KtsDicts (outer.filterMap (·.frame)) g) (T0 : KtsTurn (outer.filterMap (·.frame)) g₀ g)
    (ex : nsIn KF mainGlobals x = some (some (.ref C))) (q : ktsIn KF C "BaseException" = true)
    (k : ∀ h' g' oe vs tk, KtsTurn (outer.filterMap (·.frame)) g₀ g' → Fr g' L h' (fun y => if y = n then some (.ref e) else m y) → oe.cls = .ref C → oe.dict = some dx → oe.data = .fields vs → News g' L h' ((e, oe) :: news) →
      Below A₀ base outer g' → KF.In g' → Top p loose mean mg mb g' → KtsDicts (outer.filterMap (·.frame)) g' →
      wpAny (model prog w) ((A₀.deeper (envOf name scope L a cd)).mark (some (.ref e))) (execs (b₀ :: suite) (envOf name scope L a cd))
        (fun f s₄ => wpAny (model prog w) (A₀.deeper (envOf name scope L a cd)) (do bindName (envOf name scope L a cd) n .none; unbindBehindTheSuite (envOf name scope L a cd) n pos) (fun _ s₅ => Q f s₅) E s₄)
        (AsSuiteRaised (model prog w) ((A₀.deeper (envOf name scope L a cd)).mark (some (.ref e))) (envOf name scope L a cd) n pos (notedBy (model prog w) ((A₀.deeper (envOf name scope L a cd)).mark (some (.ref e))) (envOf name scope L a cd) (cameBackBy (model prog w) (A₀.deeper (envOf name scope L a cd)) (envOf name scope L a cd) E)))
        { s' with heap := h', toks := tk })
    (hk : scope.kind = .function := by rfl) (hlo : (envOf name scope L a cd).kindOf n = some .local := by rfl) (hx : (envOf name scope L a cd).kindOf x = some .globalImplicit := by rfl) (hd : (x == ("__debug__" : Str)) = false := by decide) :
    wpAny (model prog w) (A₀.deeper (envOf name scope L a cd)) (noteFrame (.ref e) (envOf name scope L a cd))
      (fun _ s₂ => wpAny (model prog w) (A₀.deeper (envOf name scope L a cd)) (setFlight (.ref e) none) (fun _ s₃ =>
        wpAny (model prog w) (A₀.deeper (envOf name scope L a cd)) (handleBy (.ref e) (envOf name scope L a cd) (.ExceptHandler (some (.Name x np)) (some n) (b₀ :: suite) pos :: rest)) Q E s₃) E s₂) E s' := by
  obtain ⟨B, hB, hBG, hl, hfl⟩ := R
  have hL : B.get? L = none := by
    obtain ⟨_, ⟨L', _, hf, hn', _⟩, _⟩ := hfl.frames
    obtain rfl : L = L' := Option.some.inj hf
    exact hn'
  refine note_on (Around.frames_deeper K.stack) rfl hfl fun h₄ f₄ u₄ => land f₄ fun h₅ f₅ u₅ => ?_
  have u₅ := hsm.trans (u₄.trans u₅)
  obtain ⟨g₅, T₅, F₅, K₅⟩ := kts_ground K F hBG f₅.stays u₅
  have X₅ : KF.In g₅ := XB.keeps K₅.stays
  have P₅ : TopRead p loose mg mb g₅ := topRead_of (TB.keeps K₅.stays)
  obtain ⟨oe₅, _, _, _, _, hob, hobc, _⟩ := f₅.mark
  obtain ⟨nm, q', N, bs, bm, hdct, sn, sub, ab, col, dd, k0, k1, k2, k3, k5, newId, hC, hbase, hbT⟩ := kts_cls X₅ q
  have hC₅ := F₅.keep _ _ hC
  refine wpAny_handleBy_cons (codeAny_handlers_test (name_K F₅ X₅ P₅ ex ?_ hk hx hd)) (by intro q; cases q)
  refine wpAny_excMatches_sub_self hC₅ hob hobc hbase (codeAny_handlers_suite_as ?_)
  refine land f₅ fun h₆ f₆ u₆ => ?_
  have u₆ := u₅.trans u₆
  obtain ⟨g₆, T₆, F₆, K₆⟩ := kts_ground K F hBG f₆.stays u₆
  obtain ⟨oe, vs, _, _, _, hoe, hoec, hoex, hoed, _⟩ := f₆.mark
  have ne₆ : g₆.get? e = none := T₆.none_ _ (kts_fresh F hBG f₆.fresh fun o ho hm => by
    obtain ⟨_, o', ho', hd⟩ := K.frames.mem hm
    rw [ho] at ho'; cases ho'
    obtain ⟨sl, hs⟩ := u₆ _ _ (F.keep _ _ ho) hd
    rw [hoe] at hs; cases hs
    exact hd _ hoed)
  have N₆ : News g₆ L h₆ ((e, oe) :: news) := fun r hr => by
    rcases List.mem_cons.mp hr with rfl | hr
    · refine ⟨hoe, fun z => ?_, ne₆⟩
      obtain ⟨oL, es, ep, hL', hLd, _⟩ := F₆.ns
      rw [← show e = L from z, hoe] at hL'; cases hL'
      rw [hoed] at hLd; cases hLd
    · exact ⟨f₆.stays _ _ (hl r hr).1, (fun z => by have := (hl r hr).1; rw [z, hL] at this; cases this), T₆.none_ _ (kts_none F.keep (hl r hr).2.1)⟩
  refine stN F₆ N₆ (fun h₇ F₇ N₇ => ?_) hk hlo
  exact k h₇ g₆ oe vs _ (T0.trans T₆) F₇ hoec hoex hoed N₇ K₆ (XB.keeps K₆.stays) (TB.keeps K₆.stays) (D.turn T₆)
end
end Mine
end
section
open PySem PySem.Spec PySem.Calls PyProof.Rows PySem.W
namespace Mine
abbrev excObj (dx t : Addr) : Obj := { cls := .ref 122, dict := some dx, data := .fields #[.ref t, .none, .none, .none, .bool false, .none] }
abbrev excDict (h1 h2 : Int) (t1 t2 : Tok) (n : Nat) (v1 v2 : Value) : Obj := dictOf [⟨h1, .str (Str.ofString "message") t1, v1⟩, ⟨h2, .str (Str.ofString "place") t2, v2⟩] n
end Mine
end
section
open PySem PySem.Spec PySem.Calls PyProof.Rows PySem.W
namespace Mine
abbrev Led := List (Addr × Obj)
abbrev aroundE (dp un : Nat) (gd : Option (List Code)) (env : Env) (outer : List Env) : Around := { handled := none, depth := dp, frames := some (env :: outer), guards := gd, units := un }
abbrev around (dp un : Nat) (gd : Option (List Code)) (cn : Str) (cs : Scope) (L a : Addr) (ccd : Value) (outer : List Env) : Around := { handled := none, depth := dp, frames := some (envOf cn cs L a ccd :: outer), guards := gd, units := un }
/-- what a call of the def at f tells: Ret of a value that comes back and the ledger then; Exc of the place of a fault that it raises; keep: what stands all the same at a fault -/
def Spec (w : World) (mean : ExcName → Option Value) (mg mb : Str → Option Value) (lv : Nat) (f : Addr) (vs : List Value) (news keep : Led) (Ret : Value → Led → Prop) (Exc : Int → Prop) : Prop :=
  ∀ (dp un : Nat) (gd : Option (List Code)) (env : Env) (outer : List Env) (A₀ : Around) (base h₀ : Heap) (L : Addr) (m : Str → Option Value) (s : Shared) (Q E : Value → Shared → Prop),
    Below A₀ base outer h₀ → Fr h₀ L s.heap m → (hd.heap_1 w.params).In h₀ → News h₀ L s.heap news → Top viewQ (looseW viewQ [Str.ofString "SyntaxFault"]) mean mg mb h₀ → env.frame = some L → env.scope.kind = .function → dp ≤ 310 + 10 * lv → un ≤ 40 + 30 * lv →
    (∀ v news' h' tk', Ret v news' → Fr h₀ L h' m → News h₀ L h' news' → Q v { s with heap := h', toks := tk' }) →
    (∀ k e dx g h' tk' h1 h2 t1 t2 n v1 u, Exc k → Fr h₀ L g m → g.UpToSlots h' → Raised base g (env :: outer) e 122 dx ((dx, excDict h1 h2 t1 t2 n v1 (.int k u)) :: keep) h' → E (.ref e) { s with heap := h', toks := tk' }) →
    wpAny (model PySem.Challenge.rw_xw0204_01.row.prog w) (aroundE dp un gd env outer) (call (.ref f) vs) Q E s
theorem Raised.mono {base G : Heap} {l : List Env} {e C dx : Addr} {news news' : Led} {h : Heap} (R : Raised base G l e C dx news h) (hs : ∀ p ∈ news', p ∈ news) : Raised base G l e C dx news' h :=
  let ⟨B, h1, h2, h3, h4⟩ := R; ⟨B, h1, h2, fun q hq => h3 q (hs q hq), h4⟩
/-- behind the operand of a raise -/
def Thrown (K : Frag) (E : Value → Shared → Prop) (v : Value) (s : Shared) : Prop := ∃ e dx t, K.In s.heap ∧ v = .ref e ∧ s.heap.get? e = some (excObj dx t) ∧ E v s
theorem thrown_ {K : Frag} {E : Value → Shared → Prop} {e dx t L : Addr} {s : Shared} {h₀ : Heap} {m : Str → Option Value} {news : Led} (F : Fr h₀ L s.heap m) (X : K.In h₀) (N : News h₀ L s.heap news) (hm : (e, excObj dx t) ∈ news) (h : E (.ref e) s) :
    Thrown K E (.ref e) s := ⟨e, dx, t, X.keeps F.keep, rfl, (N _ hm).1, h⟩
theorem raise_made {prog : Program} {w : World} {A : Around} {E : Value → Shared → Prop} {s : Shared} {K : Frag} {x : Expr} {env : Env} {pos : Pos} {h₀ : Heap} {Q : Flow → Shared → Prop} (_X : K.In h₀) (q : ktsIn K 122 "BaseException" = true) (hh : A.handled = none)
    (h : wpAny (model prog w) A (eval x env) (Thrown K E) E s) : wpAny (model prog w) A (exec (.Raise (some x) none pos) env) Q E s := by
  rw [arm_exec_Raise]
  refine wpAny_bind (wpAny_standAt ?_)
  show wpAny _ A (raiseStmt env (some _) none) _ _ _
  unfold raiseStmt
  refine wpAny_bind (wpAny_bind (wpAny_mono h (fun v s₁ h₁ => wpAny_bind (wpAny_standAt (wpAny_pure ?_))) fun _ _ x => x))
  obtain ⟨e, dx, t, X, rfl, he, hE⟩ := h₁
  obtain ⟨nm, qn, N, bs, bm, hdct, sn, sub, ab, col, dd, k0, k1, k2, k3, k5, newId, hC, hbase, -⟩ := kts_cls X q
  have hcB : (Value.ref 122 :: bm).contains (.type "BaseException") = true := by rw [List.contains_cons, hbase, Bool.or_true]
  obtain ⟨hp, g, d, tk, os⟩ := s₁
  repeat (first | with_reducible refine wpAny_loadPart_at he ?_ | with_reducible refine wpAny_loadPart_at hC ?_ | (with_reducible refine wpAny_isSubtype_exc hC ?_; rw [hcB]) | wp_step)
  exact wpAny_raiseNew_none hh hE
end Mine
namespace Mine
theorem Spec.use {w : World} {mean : ExcName → Option Value} {mg mb : Str → Option Value} {lv : Nat} {f : Addr} {vs : List Value} {news keep : Led} {Ret : Value → Led → Prop} {Exc : Int → Prop} (S : Spec w mean mg mb lv f vs news keep Ret Exc)
    {dp un : Nat} {gd : Option (List Code)} {env : Env} {outer : List Env} {A₀ : Around} {base h₀ : Heap} {L : Addr} {m : Str → Option Value} {s : Shared} {Q E : Value → Shared → Prop}
    (B : Below A₀ base outer h₀) (F : Fr h₀ L s.heap m) (X : (hd.heap_1 w.params).In h₀) (N : News h₀ L s.heap news) (T : Top viewQ (looseW viewQ [Str.ofString "SyntaxFault"]) mean mg mb h₀) (hf : env.frame = some L) (hk : env.scope.kind = .function) (hdp : dp ≤ 310 + 10 * lv) (hun : un ≤ 40 + 30 * lv)
    (ret : ∀ v news' h' tk', Ret v news' → Fr h₀ L h' m → News h₀ L h' news' → Q v { s with heap := h', toks := tk' })
    (exc : ∀ k e dx g h' tk' h1 h2 t1 t2 n v1 u, Exc k → Fr h₀ L g m → g.UpToSlots h' → Raised base g (env :: outer) e 122 dx ((dx, excDict h1 h2 t1 t2 n v1 (.int k u)) :: keep) h' → E (.ref e) { s with heap := h', toks := tk' }) :
    wpAny (model PySem.Challenge.rw_xw0204_01.row.prog w) (aroundE dp un gd env outer) (call (.ref f) vs) Q E s := S _ _ _ _ _ _ _ _ _ _ _ _ _ B F X N T hf hk hdp hun ret exc
theorem Spec.mono {w : World} {mean : ExcName → Option Value} {mg mb : Str → Option Value} {lv : Nat} {f : Addr} {vs : List Value} {news keep : Led} {Ret Ret' : Value → Led → Prop} {Exc Exc' : Int → Prop} (S : Spec w mean mg mb lv f vs news keep Ret Exc)
    (hr : ∀ v l, Ret v l → Ret' v l) (he : ∀ k, Exc k → Exc' k) : Spec w mean mg mb lv f vs news keep Ret' Exc' := by
  intro dp un gd env outer A₀ base h₀ L m s Q E B F X N T hf hk hdp hun hret hexc
  exact S.use B F X N T hf hk hdp hun (fun v l h' tk' hv => hret v l h' tk' (hr _ _ hv)) (fun k e dx g h' tk' h1 h2 t1 t2 n v1 u hE => hexc k e dx g h' tk' h1 h2 t1 t2 n v1 u (he _ hE))
section
variable {h₀ h : Heap} {L : Addr} {p q q1 q2 p1 p2 p3 p4 : Addr × Obj} {r : Led}
theorem front1 (N : News h₀ L h (p1 :: q1 :: q2 :: r)) : News h₀ L h (q1 :: q2 :: p1 :: r) := cb_drop N (by intro p hp; simp only [List.mem_cons] at hp ⊢; grind)
theorem front2 (N : News h₀ L h (p1 :: p2 :: q1 :: q2 :: r)) : News h₀ L h (q1 :: q2 :: p1 :: p2 :: r) := cb_drop N (by intro p hp; simp only [List.mem_cons] at hp ⊢; grind)
theorem front3 (N : News h₀ L h (p1 :: p2 :: p3 :: q1 :: q2 :: r)) : News h₀ L h (q1 :: q2 :: p1 :: p2 :: p3 :: r) := cb_drop N (by intro p hp; simp only [List.mem_cons] at hp ⊢; grind)
end
theorem subCons {p : Addr × Obj} {l l' : Led} (h1 : p ∈ l') (h2 : ∀ q ∈ l, q ∈ l') : ∀ q ∈ p :: l, q ∈ l' := fun q hq => (List.mem_cons.mp hq).elim (fun e => e ▸ h1) (h2 q)
theorem subSelf {l : Led} : ∀ q ∈ l, q ∈ l := fun _ h => h
theorem subInto {p : Addr × Obj} {l l' : Led} (h : ∀ q ∈ l, q ∈ l') : ∀ q ∈ l, q ∈ p :: l' := fun q hq => .tail _ (h q hq)
theorem subNil {l : Led} : ∀ q ∈ ([] : Led), q ∈ l := fun _ h => nomatch h
end Mine
end
section
open PySem PySem.W
set_option maxRecDepth 100000
namespace Mine
section
variable {M : Model} {A : Around} {E : Value → Shared → Prop} {h : Heap} {g : Array GenState} {d : Drawn} {t : Nat} {os : OsState}
variable {prog : Program} {w : World} {R : Result → Shared → Prop}
variable {nm q : Str} {C N : Addr} {bs bm : List Value} {hdct : Bool} {sn : List Str} {sub : List Value} {ab : Bool} {col : Option Bool} {dd : Option Addr} {k0 k1 k2 k3 k5 : Option Value} {Bn newId inN : String} {bmN : List Value}
theorem check_new_own (Fn : ExcBaseFacts Bn newId inN bmN) (hcB : (Value.ref C :: bm).contains (.type Bn) = true) {rest : List Value} {Q : Unit → Shared → Prop} (hC : h.get? C = some (excClassObj nm q C N bs bm hdct sn sub ab col dd k0 k1 k2 k3 k5 newId))
    (hq : Q () ⟨h, g, d, t, os⟩) : wpAny M A (checkBuiltinCall newId ⟨.ref C :: rest, []⟩) Q E ⟨h, g, d, t, os⟩ := by
  have hstar := Fn.noStar
  simp only [checkBuiltinCall, Fn.newKind, Fn.newSplit, Fn.newRow]
  repeat (first | refine wpAny_loadPart_at hC ?_ | (refine wpAny_isSubtype_exc hC ?_; rw [hcB]) | refine wpAny_staticBase_exc hC ?_ | refine wpAny_madeBy_exc hC ?_ | simp only [bne_self_eq_false, Bool.false_eq_true, if_false] | wp_step)
  exact hq
abbrev newExc (C t : Addr) : Obj := { cls := .ref C, data := .fields #[.ref t, .none, .none, .none, .bool false, .none] }
abbrev tupObj (l : List Value) : Obj := { cls := .type "tuple", data := .seq l.toArray }
theorem new_own (Fn : ExcBaseFacts Bn newId inN bmN) (hcB : (Value.ref C :: bm).contains (.type Bn) = true) (hcA : (Value.ref C :: bm).contains (.type "AttributeError") = false) (hcN : (Value.ref C :: bm).contains (.type "NameError") = false) {rest : List Value}
    (hC : h.get? C = some (excClassObj nm q C N bs bm hdct sn sub ab col dd k0 k1 k2 k3 k5 newId))
    (hq : R (.ok (.ret (.ref (h.objs.size + 1)))) ⟨(h.push (tupObj rest)).push (newExc C h.objs.size), g, d, t, os⟩) (hrest : rest.length ≤ sizeLine) :
    codeAny (model prog w) A (.builtin newId ⟨.ref C :: rest, []⟩) R ⟨h, g, d, t, os⟩ := by
  have hends := Fn.ends
  refine codeAny_builtinAt Fn.entry ?_
  unfold Builtin.«BaseException.__new__»
  refine wpAt_bind ?_
  show wpAt _ _ _ (stack >>= _) _ _ _
  refine wpAt_bind (wpAt_stack fun p below => wpAt_of_wpAny ?_)
  wp_walk
  refine wpAt_of_wpAny ?_
  rw [Fn.owner]
  repeat (first | with_reducible refine wpAny_madeHere_exc Fn.canon hC ?_ | with_reducible refine wpAny_loadPart_at hC ?_ | (with_reducible refine wpAny_isSubtype_exc hC ?_; first | rw [hcB] | rw [hcA] | rw [hcN]) | wp_step)
  show R _ _
  rw [Heap.size_push]
  exact hq
theorem type_call_own (Fn : ExcBaseFacts Bn newId inN bmN) (hcB : (Value.ref C :: bm).contains (.type Bn) = true) (hcA : (Value.ref C :: bm).contains (.type "AttributeError") = false) (hcN : (Value.ref C :: bm).contains (.type "NameError") = false) {rest : List Value} {fI : Addr} {Q : Fin → Shared → Prop}
    (hC : h.get? C = some (excClassObj nm q C N bs bm hdct sn sub ab col dd k0 k1 k2 k3 k5 newId)) (hi : Looks (model prog w) h (typeLookup (.ref C) "__init__") (some (.ref fI))) (hb : ∀ self, Looks (model prog w) h (bindSpecial (.ref fI) self) (.ref fI, [self]))
    (hq : codeAny (model prog w) A (.call (.ref fI) ⟨.ref (h.objs.size + 1) :: rest, []⟩) (InitBack (h.objs.size + 1) fun r s' => match r with | .ok f => Q (.done f) s' | .error e => E e s') ⟨(h.push (tupObj rest)).push (newExc C h.objs.size), g, d, t, os⟩) (hrest : rest.length ≤ sizeLine) :
    wpAny (model prog w) A (Builtin.«type.__call__» ⟨.ref C :: rest, []⟩) Q E ⟨h, g, d, t, os⟩ := by
  repeat (first | with_reducible refine wpAny_loadPart_at hC ?_ | with_reducible refine wpAny_madeBy_exc hC ?_ | wp_step)
  refine codeAny_call_builtin_code (Code.quiet_builtin _ Fn.quiet) (check_new_own Fn hcB hC ?_)
  refine new_own Fn hcB hcA hcN hC ?_ hrest
  show wpAny _ _ _ _ _ _
  have kp : ∀ b o, h.get? b = some o → ((h.push (tupObj rest)).push (newExc C h.objs.size)).get? b = some o := fun b o e => Heap.get?_push_of_some _ (Heap.get?_push_of_some _ e)
  have hC₁ := kp _ _ hC
  have hget : ((h.push (tupObj rest)).push (newExc C h.objs.size)).get? (h.objs.size + 1) = some (newExc C h.objs.size) := by heap_get
  have hcC : (Value.ref C :: bm).contains (.ref C) = true := by simp
  have i1 := hi.keeps kp
  have b1 := (hb (.ref (h.objs.size + 1))).keeps kp
  unfold isInstance
  repeat (first | with_reducible refine wpAny_loadPart_at hget ?_ | (with_reducible refine wpAny_isSubtype_exc hC₁ ?_; rw [hcC]) | wp_step)
  show wpAny _ _ (typeLookup (.ref C) _) _ _ _
  refine i1 _ _ _ _ (fun _ _ e => e) ?_
  refine wpAny_holding (wpAny_bind (b1 _ _ _ _ (fun _ _ e => e) ?_))
  refine wpAny_bind (wpAny_call ?_)
  refine codeAny_mono hq fun r s' z => ?_
  rcases r with e | (v | _ | _ | _) <;> first | exact z | exact z.elim | skip
  obtain ⟨rfl, z⟩ := z
  exact wpAny_pure (wpAny_pure z)
theorem exc_make (Fn : ExcBaseFacts Bn newId inN bmN) (hcB : (Value.ref C :: bm).contains (.type Bn) = true) (hcA : (Value.ref C :: bm).contains (.type "AttributeError") = false) (hcN : (Value.ref C :: bm).contains (.type "NameError") = false) {rest : List Value} {fI : Addr}
    (hC : h.get? C = some (excClassObj nm q C N bs bm hdct sn sub ab col dd k0 k1 k2 k3 k5 newId)) (hi : Looks (model prog w) h (typeLookup (.ref C) "__init__") (some (.ref fI))) (hb : ∀ self, Looks (model prog w) h (bindSpecial (.ref fI) self) (.ref fI, [self]))
    (hq : codeAny (model prog w) (A.under (.builtin "type.__call__" ⟨.ref C :: rest, []⟩)) (.call (.ref fI) ⟨.ref (h.objs.size + 1) :: rest, []⟩) (InitBack (h.objs.size + 1) R) ⟨(h.push (tupObj rest)).push (newExc C h.objs.size), g, d, t, os⟩) (hrest : rest.length ≤ sizeLine) :
    codeAny (model prog w) A (.call (.ref C) ⟨rest, []⟩) R ⟨h, g, d, t, os⟩ := by
  have f1 := tc_lookup
  have f2 := tc_bind (.ref C)
  have hT : (⟨h, g, d, t, os⟩ : Shared).TypeIs (.ref C) "type" := ⟨_, hC, rfl⟩
  refine codeAny_of_tree ?_
  show wpAny _ _ (callAny (.ref C) _) _ _ _
  repeat (any_goals (first | assumption | with_reducible refine wpAny_loadPart_at hC ?_ | wp_step))
  refine ⟨rfl, ?_⟩
  refine codeAny_call_builtin_at (Code.quiet_builtin _ (by decide +kernel)) entry_typeCall (wpAny_check_type_call_sub hC ?_)
  refine type_call_own Fn hcB hcA hcN hC hi hb ?_ hrest
  refine codeAny_mono hq fun r s' z => ?_
  rcases r with e | f
  · exact z
  · cases f <;> first | exact z | exact z.elim
end
end Mine
end
section
open PySem PySem.W
set_option maxRecDepth 100000
namespace Mine
section
variable {M : Model} {A : Around} {E : Value → Shared → Prop} {h : Heap} {g : Array GenState} {d : Drawn} {t : Nat} {os : OsState}
variable {prog : Program} {w : World}
variable {nm q : Str} {C N : Addr} {bs bm : List Value} {hdct : Bool} {sn : List Str} {sub : List Value} {ab : Bool} {col : Option Bool} {dd : Option Addr} {k0 k1 k2 k3 k5 : Option Value} {B newId nid initId : String} {bmB : List Value}
theorem check_init_own (F : ExcBaseFacts B nid initId bmB) (hcB : (Value.ref C :: bm).contains (.type B) = true) {e : Addr} {oe : Obj} {rest : List Value} {Q : Unit → Shared → Prop}
    (hC : h.get? C = some (excClassObj nm q C N bs bm hdct sn sub ab col dd k0 k1 k2 k3 k5 newId)) (he : h.get? e = some oe) (hcls : oe.cls = .ref C) (hq : Q () ⟨h, g, d, t, os⟩) :
    wpAny M A (checkBuiltinCall initId ⟨.ref e :: rest, []⟩) Q E ⟨h, g, d, t, os⟩ := by
  have hshort := F.noStar
  simp only [checkBuiltinCall, F.initKind, F.initSplit, F.initRow]
  repeat (first | (with_reducible refine wpAny_loadPart_at he ?_; rw [hcls]) | with_reducible refine wpAny_loadPart_at hC ?_ | (with_reducible refine wpAny_isSubtype_exc hC ?_; rw [hcB]) | wp_step)
  refine wpAny_onRaise ?_
  rw [show ∀ (a b : String) (n : Nat), Bind.check ⟨.positional, "*", B, .self, [⟨"args", .varPos, false⟩]⟩ a b n (List.map (fun x => x.fst) ({ pos := Value.ref e :: rest } : Args).kw) = pure () from
    fun a b n => check_star_args _ _ _ _ _ _]
  exact wpAny_pure hq
theorem call_init (F : ExcBaseFacts B nid initId bmB) (hcB : (Value.ref C :: bm).contains (.type B) = true) {e tx : Addr} {rest : List Value} {Q : Value → Shared → Prop}
    (hC : h.get? C = some (excClassObj nm q C N bs bm hdct sn sub ab col dd k0 k1 k2 k3 k5 newId)) (he : h.get? e = some (newExc C tx))
    (hq : ∀ h', (∀ b o, b ≠ e → h.get? b = some o → h'.get? b = some o) → h'.get? e = some (newExc C h.objs.size) → h'.get? h.objs.size = some (tupObj rest) → Q .none ⟨h', g, d, t, os⟩) (hrest : rest.length ≤ sizeLine) :
    wpAny (model prog w) A (call (.builtin initId) (.ref e :: rest)) Q E ⟨h, g, d, t, os⟩ := by
  refine wpAny_call (codeAny_call_builtin F.init.plain F.initEntry (check_init_own F hcB hC he rfl ?_))
  wp_walk
  have hne : h.objs.size ≠ e := Nat.ne_of_gt (Heap.lt_size he)
  refine hq _ (fun b o nb hb => ?_) ?_ ?_
  · rw [Heap.get?_update_other _ _ (Ne.symm nb)]
    exact Heap.get?_push_of_some _ hb
  · rw [Heap.get?_update_self _ (Heap.get?_push_of_some _ he) rfl]
    rfl
  · rw [Heap.get?_update_other _ _ (Ne.symm hne)]
    exact Heap.get?_push_at rfl rfl
end
end Mine
end
section
open PySem PySem.Calls PyProof.Rows PySem.Builtin PySem.Builtin.ObjectAttr PySem.W
set_option maxRecDepth 100000
namespace Mine
section
variable {prog : Program} {w : World} {A : Around} {s : Shared} {K : Frag} {x C C2 : Addr} {R : Result → Shared → Prop}
theorem osa_exc {ox : Obj} {od : Option Obj} {name : Str} {tk : Tok} {v : Value} {cd : ClassData} (X : K.In s.heap) (I : InstAt s.heap x ox C od) (hc : clsIn K C = some cd) (hm : cd.mro = [.ref C, .ref C2, .type "Exception", .type "BaseException", .type "object"]) (ha : findIn K (.ref C) name = some none)
    (h : wpAny (model prog w) A.in1 (storeInOwnDict (.ref x) (.ref C) (.str name tk) name v false)
      (fun fin s' => match fin with | .done f => R (.ok f) s' | .again c' => c'.quiet = true ∧ codeAny (model prog w) A c' R s') (fun e s' => R (.error e) s') s) :
    codeAny (model prog w) A (.call (.builtin "object.__setattr__") ⟨[.ref x, .str name tk, v], []⟩) R s := by
  have SF := PySem.F.store_object
  have hp := PySem.F.store_Exception.passes (.ref x)
  have ne : cd.mro.isEmpty = false := by rw [hm]; rfl
  have sub : Looks (model prog w) s.heap (isInstance (.ref x) (.type "object")) true := I.type.andThen (looks_mroIn X (by unfold mroIn; rw [hc, Option.bind_some, if_neg (by rw [ne]; decide), hm]; simp))
  refine codeAny_call_builtin SF.slot.plain SF.entry (@check_slot (model prog w) _ _ s "object.__setattr__" "object" "__setattr__" (.ref x) [.str name tk, v] [] _ SF.kind SF.split sub (SF.args (.ref x) (.str name tk) v) ?_)
  have hl : Looks (model prog w) s.heap (mroOf (.ref C)) cd.mro := (looks_clsIn X hc).andThen .now
  rw [osa_eq, refuse_eq]
  refine wpAny_bind (wpAny_bind (I.type.here (wpAny_bind (hl.here ?_))))
  rw [hm, refuseLoop_ref, refuseLoop_ref, hp]
  refine wpAny_pure (wpAny_bind (I.type.here (wpAny_bind ((looks_findIn X ha).here (wpAny_bind (wpAny_pure ?_))))))
  exact h
theorem storeInDict_at {E : Value → Shared → Prop} {P : PySem.Fin → Shared → Prop} {dx : Addr} {od od' : Obj} {name : Str} {tk : Tok} {v : Value} {es : List DictEntry} {n : Nat} (D : s.heap.get? dx = some od) (hl : (lookIn name od).isSome = true)
    (e : Obj.putName name (PyData.keyHash w.params name) (.str name s.toks) v od = od') (e' : od'.data = .dict es.toArray n) (hz : es.length ≤ 1000)
    (h : ∀ h', (∀ b o, b ≠ dx → s.heap.get? b = some o → h'.get? b = some o) → h'.get? dx = some od' → P (.done (.ret .none)) { s with heap := h', toks := s.toks + 1 }) :
    wpAny (model prog w) A (storeInDict dx (.str name tk) name v) P E s := by
  have D' : (s.heap.update dx (Obj.putName name (PyData.keyHash w.params name) (.str name s.toks) v)).get? dx = some od' := by
    rw [Heap.get?_update_self _ D (by rw [e]; obtain ⟨_, _, dd, _⟩ := od'; cases e'; rfl), e]
  unfold storeInDict newKeyGuard
  refine wpAny_bind (wpAny_pure (wpAny_bind ?_))
  unfold nsSet
  refine wpAny_bind (wpAny_bind (wpAny_askSetting (wpAny_pure (wpAny_bind (wpAny_mkText (wpAny_bind (wpAny_loadPart D ?_)))))))
  unfold lookIn at hl
  split at hl
  · rename_i es₀ n₀ q
    rw [q]
    dsimp only
    have c : (!es₀.any (·.key.isStr name) && es₀.any (·.refKey)) = false := by
      rw [← Array.any_toList, ← Array.any_toList]
      split at hl
      · rename_i en he
        rw [List.any_eq_true.mpr ⟨en, List.mem_of_find?_eq_some he, List.find?_some he⟩]; rfl
      · split at hl
        · cases hl
        · rename_i z; rw [Bool.not_eq_true] at z; rw [z, Bool.and_false]
    rw [aRefKeyMayBeTheName_at, c]
    refine wpAny_updatePart D ?_
    refine wpAny_bind (wpAny_lookBehind D' (by rw [e']; exact pastItsLine_dict (by rw [List.size_toArray, sizeLine_eq]; omega)) ?_)
    exact wpAny_pure (h _ (fun b o nb hb => (Heap.get?_update_other _ _ (Ne.symm nb)).trans hb) D')
  · cases hl
theorem store_first {E : Value → Shared → Prop} {P : PySem.Fin → Shared → Prop} {ox od' : Obj} {vs : Array Value} {name : Str} {tk : Tok} {v : Value} {cd : ClassData} {es : List DictEntry} {n : Nat} (X : K.In s.heap) (hx : s.heap.get? x = some ox) (hcl : ox.cls = .ref C) (hdn : ox.dict = none) (hdt : ox.data = .fields vs)
    (hc : clsIn K C = some cd) (hd : cd.hasDict = true) (e : Obj.putName name (PyData.keyHash w.params name) (.str name s.toks) v { cls := .type "dict", data := .dict #[] } = od') (e' : od'.data = .dict es.toArray n) (hz : es.length ≤ 1000)
    (h : ∀ h', (∀ b o, b ≠ x → s.heap.get? b = some o → h'.get? b = some o) → h'.get? x = some { ox with dict := some s.heap.objs.size } → h'.get? s.heap.objs.size = some od' → P (.done (.ret .none)) { s with heap := h', toks := s.toks + 1 }) :
    wpAny (model prog w) A (storeInOwnDict (.ref x) (.ref C) (.str name tk) name v false) P E s := by
  have hxs : x ≠ s.heap.objs.size := Nat.ne_of_lt (Heap.lt_size hx)
  have hx₁ : (s.heap.push { cls := .type "dict", data := .dict #[] }).get? x = some ox := Heap.get?_push_of_some _ hx
  obtain ⟨oc, odi, oda, osl⟩ := ox
  dsimp only at hcl hdn hdt
  subst hcl hdn hdt
  refine wpAny_bind (wpAny_pure (wpAny_bind (wpAny_bind (wpAny_loadPart hx (wpAny_bind ((looks_clsIn X hc).here ?_))))))
  rw [hd]
  refine wpAny_bind (wpAny_alloc ?_)
  refine wpAny_bind (wpAny_update hx₁ ?_)
  refine wpAny_pure ?_
  show wpAny _ _ (storeInDict s.heap.objs.size (.str name tk) name v) _ _ _
  have hgd : ((s.heap.push { cls := .type "dict", data := .dict #[] }).update x fun o => { cls := o.cls, dict := some s.heap.objs.size, data := o.data, slots := o.slots }).get? s.heap.objs.size = some { cls := .type "dict", data := .dict #[] } :=
    (Heap.get?_update_ne _ _ _ _ hxs.symm).trans (Heap.get?_push_at rfl rfl)
  have hgx := Heap.get?_update_self (fun o => ({ cls := o.cls, dict := some s.heap.objs.size, data := o.data, slots := o.slots } : Obj)) hx₁ rfl
  refine storeInDict_at (s := ⟨_, s.gens, s.drawn, s.toks, s.os⟩) hgd (by unfold lookIn; rfl) e e' hz fun h' hk hd' => ?_
  refine h h' (fun b o nb hb => hk b o (Nat.ne_of_lt (Heap.lt_size hb)) ((Heap.get?_update_ne _ _ _ _ nb).trans (Heap.get?_push_of_some _ hb))) (hk x _ hxs hgx) hd'
theorem store_next {E : Value → Shared → Prop} {P : PySem.Fin → Shared → Prop} {dx : Addr} {ox od od' : Obj} {name : Str} {tk : Tok} {v : Value} {cd : ClassData} {es : List DictEntry} {n : Nat} (X : K.In s.heap) (hx : s.heap.get? x = some ox) (hcl : ox.cls = .ref C) (hdn : ox.dict = some dx)
    (hc : clsIn K C = some cd) (hd : cd.hasDict = true) (D : s.heap.get? dx = some od) (hl : (lookIn name od).isSome = true) (e : Obj.putName name (PyData.keyHash w.params name) (.str name s.toks) v od = od') (e' : od'.data = .dict es.toArray n) (hz : es.length ≤ 1000)
    (h : ∀ h', (∀ b o, b ≠ dx → s.heap.get? b = some o → h'.get? b = some o) → h'.get? dx = some od' → P (.done (.ret .none)) { s with heap := h', toks := s.toks + 1 }) :
    wpAny (model prog w) A (storeInOwnDict (.ref x) (.ref C) (.str name tk) name v false) P E s := by
  obtain ⟨oc, odi, oda, osl⟩ := ox
  dsimp only at hcl hdn
  subst hcl hdn
  refine wpAny_bind (wpAny_pure (wpAny_bind (wpAny_bind (wpAny_loadPart hx (wpAny_bind ((looks_clsIn X hc).here ?_))))))
  rw [hd]
  refine wpAny_pure (a := some dx) ?_
  show wpAny _ _ (storeInDict dx (.str name tk) name v) _ _ _
  exact storeInDict_at D hl e e' hz h
end
end Mine
end
open PySem PySem.Spec PySem.Calls PyProof.Rows PySem.W
local macro_rules | `(tactic| k_all) => `(tactic| assumption)
local macro_rules | `(tactic| ktr_room) => `(tactic| k_extra "ktr_room")
local macro_rules | `(tactic| cell_enter) => `(tactic| k_extra "cell_enter")
local macro_rules | `(tactic| tb_rel) => `(tactic| k_extra "tb_rel")
local macro_rules | `(tactic| kts_go) => `(tactic| k_extra "kts_go")
local macro_rules | `(tactic| walk_at $s:str) => `(tactic| k_extra $s)
local macro_rules | `(tactic| k_room) => `(tactic| ktr_room)
section
open PySem PySem.Spec PySem.Calls PyProof.Rows PySem.W
namespace Mine
set_option maxRecDepth 100000
set_option maxHeartbeats 8000000
theorem meta_exc : typeOf (.type "Exception") = pure (.type "type") := by kernel_rfl
section
variable {prog : Program} {w : World} {A : Around} {E : Value → Shared → Prop} {s : Shared} {K : Frag} {e C C2 dx L t : Addr} {h₀ h h' : Heap} {m : Str → Option Value} {rest : Led} {oe oe' od od' : Obj}
theorem step_at (F : Fr h₀ L h m) (N : News h₀ L h ((e, oe) :: rest)) (hne : ∀ p ∈ rest, p.1 ≠ e) (k : ∀ b o, b ≠ e → h.get? b = some o → h'.get? b = some o) (he : h'.get? e = some oe') : Fr h₀ L h' m ∧ News h₀ L h' ((e, oe') :: rest) := by
  obtain ⟨oL, es, ep, hL, hLd, hLk, hLf⟩ := F.ns
  obtain ⟨h1, h2, h3⟩ := N _ (.head _)
  refine ⟨⟨⟨oL, es, ep, k _ _ (Ne.symm h2) hL, hLd, hLk, hLf⟩, fun b o q => k b o (fun z => by rw [z] at q; rw [q] at h3; cases h3) (F.keep b o q), F.above⟩, fun p hp => ?_⟩
  rcases List.mem_cons.mp hp with rfl | hp
  · exact ⟨he, h2, h3⟩
  · obtain ⟨g1, g2, g3⟩ := N _ (.tail _ hp)
    exact ⟨k _ _ (hne p hp) g1, g2, g3⟩
theorem add_at (F : Fr h₀ L h m) (N : News h₀ L h ((e, oe) :: rest)) (hne : ∀ p ∈ rest, p.1 ≠ e) (k : ∀ b o, b ≠ e → h.get? b = some o → h'.get? b = some o) (he : h'.get? e = some oe') (hd : h'.get? h.objs.size = some od) :
    Fr h₀ L h' m ∧ News h₀ L h' ((e, oe') :: (h.objs.size, od) :: rest) ∧ (∀ p ∈ (h.objs.size, od) :: rest, p.1 ≠ e) ∧ (∀ p ∈ (e, oe') :: rest, p.1 ≠ h.objs.size) := by
  obtain ⟨F', N'⟩ := step_at F N hne k he
  obtain ⟨oL, es, ep, hL, hLd, hLk, hLf⟩ := F.ns
  have he0 := (N _ (.head _)).1
  refine ⟨F', fun p hp => ?_, fun p hp => ?_, fun p hp => ?_⟩
  · rcases List.mem_cons.mp hp with rfl | hp
    · exact N' _ (.head _)
    · rcases List.mem_cons.mp hp with rfl | hp
      · exact ⟨hd, Nat.ne_of_gt (Heap.lt_size hL), kts_none F.keep (Heap.get?_none_of_le (Nat.le_refl _))⟩
      · exact N' _ (.tail _ hp)
  · rcases List.mem_cons.mp hp with rfl | hp
    · exact Nat.ne_of_gt (Heap.lt_size he0)
    · exact hne p hp
  · rcases List.mem_cons.mp hp with rfl | hp
    · exact Nat.ne_of_lt (Heap.lt_size he0)
    · exact Nat.ne_of_lt (Heap.lt_size (N _ (.tail _ hp)).1)
theorem news_swap {a b : Addr × Obj} (N : News h₀ L h (a :: b :: rest)) : News h₀ L h (b :: a :: rest) := cb_drop N (by intro x hx; simp only [List.mem_cons] at hx ⊢; grind)
theorem init_K {v : Value} {tx : Addr} {Q : Value → Shared → Prop} (F : Fr h₀ L s.heap m) (N : News h₀ L s.heap ((e, newExc C tx) :: rest)) (hne : ∀ p ∈ rest, p.1 ≠ e) (X₀ : K.In h₀) (q : ktsIn K C "Exception" = true)
    (h : ∀ t2 h', Fr h₀ L h' m → News h₀ L h' ((e, newExc C t2) :: rest) → Q .none { s with heap := h' }) : wpAny (model prog w) A (call (.builtin "Exception.__init__") [.ref e, v]) Q E s := by
  obtain ⟨nm, qn, N0, bs, bm, hdct, sn, sub, ab, col, dd, k0, k1, k2, k3, k5, newId, hC, -, hb⟩ := kts_cls (X₀.keeps F.keep) q
  obtain ⟨hh, g, d, tk, os⟩ := s
  refine call_init PySem.F.excBase_Exception (by rw [List.contains_cons, hb, Bool.or_true]) hC (N _ (.head _)).1 (fun h' k he ht => ?_) (by show 1 ≤ sizeLine; rw [sizeLine_eq]; omega)
  obtain ⟨F', N'⟩ := step_at F N hne k he
  exact h _ h' F' N'
abbrev dExc (C t dx : Addr) : Obj := { cls := .ref C, dict := some dx, data := .fields #[.ref t, .none, .none, .none, .bool false, .none] }
theorem set1_K {name : Str} {v : Value} {cd : ClassData} {Q : Unit → Shared → Prop} (F : Fr h₀ L s.heap m) (N : News h₀ L s.heap ((e, newExc C t) :: rest)) (hne : ∀ p ∈ rest, p.1 ≠ e) (X₀ : K.In h₀)
    (hs : findIn K (.ref C) "__setattr__" = some (some (.builtin "object.__setattr__"))) (hc : clsIn K C = some cd) (hm : cd.mro = [.ref C, .ref C2, .type "Exception", .type "BaseException", .type "object"]) (hd : cd.hasDict = true) (ha : findIn K (.ref C) name = some none)
    (h : ∀ dx h' hv tk, Fr h₀ L h' m → News h₀ L h' ((e, dExc C t dx) :: (dx, dictOf [⟨hv, .str name tk, v⟩] 1) :: rest) → (∀ p ∈ (dx, dictOf [⟨hv, .str name tk, v⟩] 1) :: rest, p.1 ≠ e) → (∀ p ∈ (e, dExc C t dx) :: rest, p.1 ≠ dx) → Q () { s with heap := h', toks := s.toks + 1 + 1 }) :
    wpAny (model prog w) A (setAttr (.ref e) name v) Q E s := by
  have hx := (N _ (.head _)).1
  have X := X₀.keeps F.keep
  refine set_plain X (od := none) ⟨hx, rfl, rfl, trivial⟩ hs ?_
  refine osa_exc (s := { s with toks := s.toks + 1 }) X (od := none) ⟨hx, rfl, rfl, trivial⟩ hc hm ha ?_
  refine store_first (s := { s with toks := s.toks + 1 }) (od' := dictOf [⟨PyData.keyHash w.params name, .str name (s.toks + 1), v⟩] 1) X hx rfl rfl rfl hc hd ?_ rfl (by simp) fun h' k he hD => ?_
  · exact putName_dict name _ _ v [] 0
  · obtain ⟨F', N', a, b⟩ := add_at F N hne k he hD
    exact h _ h' _ _ F' N' a b
theorem set2_K {name : Str} {v : Value} {cd : ClassData} {Q : Unit → Shared → Prop} {h1 : Int} {n1 : Str} {t1 : Tok} {v1 : Value} (F : Fr h₀ L s.heap m) (N : News h₀ L s.heap ((e, dExc C t dx) :: (dx, dictOf [⟨h1, .str n1 t1, v1⟩] 1) :: rest)) (hne : ∀ p ∈ (e, dExc C t dx) :: rest, p.1 ≠ dx) (X₀ : K.In h₀)
    (hs : findIn K (.ref C) "__setattr__" = some (some (.builtin "object.__setattr__"))) (hc : clsIn K C = some cd) (hm : cd.mro = [.ref C, .ref C2, .type "Exception", .type "BaseException", .type "object"]) (hd : cd.hasDict = true) (ha : findIn K (.ref C) name = some none)
    (hp : ∀ hv tk, putL name hv (.str name tk) v [⟨h1, .str n1 t1, v1⟩] = [⟨h1, .str n1 t1, v1⟩, ⟨hv, .str name tk, v⟩]) (hn : putN name [⟨h1, .str n1 t1, v1⟩] 1 = 2) (hl : (lookIn name (dictOf [⟨h1, .str n1 t1, v1⟩] 1)).isSome = true)
    (h : ∀ h' hv tk, Fr h₀ L h' m → News h₀ L h' ((e, dExc C t dx) :: (dx, dictOf [⟨h1, .str n1 t1, v1⟩, ⟨hv, .str name tk, v⟩] 2) :: rest) → Q () { s with heap := h', toks := s.toks + 1 + 1 }) :
    wpAny (model prog w) A (setAttr (.ref e) name v) Q E s := by
  have hx := (N _ (.head _)).1
  have hD := (N _ (.tail _ (.head _))).1
  have X := X₀.keeps F.keep
  refine set_plain X (od := some _) ⟨hx, rfl, rfl, hD⟩ hs ?_
  refine osa_exc (s := { s with toks := s.toks + 1 }) X (od := some _) ⟨hx, rfl, rfl, hD⟩ hc hm ha ?_
  refine store_next (s := { s with toks := s.toks + 1 }) (od' := dictOf [⟨h1, .str n1 t1, v1⟩, ⟨PyData.keyHash w.params name, .str name (s.toks + 1), v⟩] 2) X hx rfl rfl hc hd hD hl ?_ rfl (by simp) fun h' k he => ?_
  · rw [putName_dict, hp, hn]
  · have N2 : News h₀ L s.heap ((dx, dictOf [⟨h1, .str n1 t1, v1⟩] 1) :: (e, dExc C t dx) :: rest) := news_swap N
    obtain ⟨F', N'⟩ := step_at F N2 hne k he
    exact h h' _ _ F' (news_swap N')
end
end Mine
end
theorem Mine.resetYFlt2 : True := by w_top off; k_with_none; exact trivial
section
open PySem PySem.Spec PySem.Calls PyProof.Rows PySem.W
namespace Mine
set_option maxRecDepth 100000
set_option maxHeartbeats 8000000
theorem cls122 (P : Params) : ∃ cd, clsIn (hd.heap_1 P) 122 = some cd ∧ cd.mro = [.ref 122, .ref 101, .type "Exception", .type "BaseException", .type "object"] ∧ cd.hasDict = true := ⟨_, rfl, rfl, rfl⟩
theorem set122 (P : Params) : findIn (hd.heap_1 P) (.ref 122) "__setattr__" = some (some (.builtin "object.__setattr__")) := by kernel_rfl
theorem msg122 (P : Params) : findIn (hd.heap_1 P) (.ref 122) (Str.ofString "message") = some none := by kernel_rfl
theorem plc122 (P : Params) : findIn (hd.heap_1 P) (.ref 122) (Str.ofString "place") = some none := by kernel_rfl
theorem ini122 (P : Params) : findIn (hd.heap_1 P) (.ref 122) "__init__" = some (some (.ref 119)) := by kernel_rfl
theorem fn119 (P : Params) : typeIn (hd.heap_1 P) (.ref 119) = some (.type "function") := by kernel_rfl
section
variable {w : World} {A : Around} {E : Value → Shared → Prop} {s : Shared} {e dx L t : Addr} {h₀ : Heap} {m : Str → Option Value} {rest : Led}
theorem setM {v : Value} {Q : Unit → Shared → Prop} (F : Fr h₀ L s.heap m) (N : News h₀ L s.heap ((e, newExc 122 t) :: rest)) (hne : ∀ p ∈ rest, p.1 ≠ e) (X₀ : (hd.heap_1 w.params).In h₀)
    (h : ∀ dx h' hv tk, Fr h₀ L h' m → News h₀ L h' ((e, dExc 122 t dx) :: (dx, dictOf [⟨hv, .str (Str.ofString "message") tk, v⟩] 1) :: rest) → (∀ p ∈ (dx, dictOf [⟨hv, .str (Str.ofString "message") tk, v⟩] 1) :: rest, p.1 ≠ e) → (∀ p ∈ (e, dExc 122 t dx) :: rest, p.1 ≠ dx) → Q () { s with heap := h', toks := s.toks + 1 + 1 }) :
    wpAny (model PySem.Challenge.rw_xw0204_01.row.prog w) A (setAttr (.ref e) (Str.ofString "message") v) Q E s := by
  obtain ⟨cd, h1, h2, h3⟩ := cls122 w.params
  exact set1_K F N hne X₀ (set122 _) h1 h2 h3 (msg122 _) h
theorem setP {v : Value} {Q : Unit → Shared → Prop} {h1 : Int} {t1 : Tok} {v1 : Value} (F : Fr h₀ L s.heap m) (N : News h₀ L s.heap ((e, dExc 122 t dx) :: (dx, dictOf [⟨h1, .str (Str.ofString "message") t1, v1⟩] 1) :: rest)) (hne : ∀ p ∈ (e, dExc 122 t dx) :: rest, p.1 ≠ dx) (X₀ : (hd.heap_1 w.params).In h₀)
    (h : ∀ h' hv tk, Fr h₀ L h' m → News h₀ L h' ((e, dExc 122 t dx) :: (dx, dictOf [⟨h1, .str (Str.ofString "message") t1, v1⟩, ⟨hv, .str (Str.ofString "place") tk, v⟩] 2) :: rest) → Q () { s with heap := h', toks := s.toks + 1 + 1 }) :
    wpAny (model PySem.Challenge.rw_xw0204_01.row.prog w) A (setAttr (.ref e) (Str.ofString "place") v) Q E s := by
  obtain ⟨cd, g1, g2, g3⟩ := cls122 w.params
  exact set2_K F N hne X₀ (set122 _) g1 g2 g3 (plc122 _) (fun _ _ => rfl) rfl rfl h
end
section
variable (w : World) (mean : ExcName → Option Value) (mg mb : Str → Option Value) (rest : Led)
theorem s_minit (e tx : Addr) (msg : Str) (tm : Tok) (hne : ∀ p ∈ rest, p.1 ≠ e) : Spec w mean mg mb 11 98 [.ref e, .str msg tm] ((e, newExc 122 tx) :: rest) rest
    (fun v l => v = .none ∧ ∃ t dx hv tk, (∀ p ∈ (dx, dictOf [⟨hv, .str (Str.ofString "message") tk, .str msg tm⟩] 1) :: rest, p.1 ≠ e) ∧ (∀ p ∈ (e, dExc 122 t dx) :: rest, p.1 ≠ dx) ∧ l = (e, dExc 122 t dx) :: (dx, dictOf [⟨hv, .str (Str.ofString "message") tk, .str msg tm⟩] 1) :: rest) (fun _ => False) := by
  k_with_none
  (k_with "ktr_room" => first | ((try simp only [depth_under_make, depth_under_kw, depth_in1, depth_deeper, depth_caller, units_in1, units_deeper, Around.mark_units, units_caller]); (try dsimp only [around, aroundE]); (try simp only [recursionLimit, cLine]); omega) | (simp only [depth_under_make, depth_under_kw, depth_in1, depth_deeper, depth_caller, units_in1, units_deeper, Around.mark_units, units_caller] at *; dsimp only [around, aroundE] at *; (try simp only [recursionLimit, cLine] at *); omega))
  (k_with "exec Raise some none" => (k_here; k_dflt (refine' raise_made ?zqX ?zqq ?zqhh ?_; (case zqX => k_asm); (case zqq => kts_isx); (case zqhh => exact rfl); k_whole)))
  (k_with "Thrown" => (k_here; k_dflt (refine' thrown_ ?zqF ?zqX ?zqN ?zqm ?_; (case zqF => k_asm); (case zqX => k_asm); (case zqN => k_asm); (case zqm => k_mem); k_whole)))
  (k_with "leaving ref" => (k_here; k_dflt (refine' raise_leaves ?zqK ?zqF ?zqN ?zqne ?zqc ?zqx ?zqd ?zqo ?_ ?zqk; (case zqF => assumption); (case zqN => assumption); (case zqK => assumption); (case zqne => assumption); (case zqc => exact rfl); (case zqx => exact rfl); (case zqd => exact rfl); (case zqo => exact rfl); (case zqk => exact rfl); k_whole); intro h'Z R'Z U'Z; (try dsimp only at R'Z U'Z ⊢)))
  (k_with "cell_enter" => (refine' code_def ?zqk1 ?zqk2 ?zqk3 ?zqk4 ?zqk5 ?zqkA ?zqkF ?zqkK ?zqk6 ?zqk7 ?zqk8 ?zqk9 ?zqkB ?_ ?zqc2 ?zqc3 ?zqc4 ?zqc5; (case zqkA => exact rfl); (case zqkF => first | exact rfl | assumption); (case zqkK => assumption); (case zqk1 => k_asm); (case zqk2 => k_asm); (case zqk3 => k_asm); (case zqk4 => k_asm); (case zqk5 => k_asm); (case zqk6 => k_is); (case zqk7 => k_is); (case zqk8 => ktr_room); (case zqk9 => first | exact BindsTo.of_eq rfl | exact binds_K (by k_in) rfl (by k_is) rfl rfl rfl); (case zqc5 => decide); (case zqkB => exact locs rfl); (case zqc2 => exact rfl); (case zqc3 => exact rfl); (case zqc4 => exact rfl); k_whole; intro g'Z L'Z h'Z FG'Z F'Z N'Z B'Z X'Z T'Z; (try dsimp only); (try k_lift B'Z); (try k_fold)))
  (k_with "leaving ref" => (k_here; k_dflt (refine' pass_leaves ?zqK ?zqF ?zqR ?zqU ?_; (case zqR => assumption); (case zqF => assumption); (case zqK => assumption); (case zqU => assumption); k_whole); intro h'Z R'Z U'Z; (try dsimp only at R'Z U'Z ⊢)))
  (k_with "tb_rel" => first | exact subSelf | exact subNil | (refine subCons ?zqa ?zqb; (case zqa => k_mem); (case zqb => tb_rel)) | (refine subInto ?_; tb_rel))
  (k_with "kts_go" => (refine' code_defS ?zqk1 ?zqk2 ?zqk3 ?zqk4 ?zqk5 ?zqXB ?zqTB ?zqD ?zqT0 ?zqkA ?zqk6 ?zqk7 ?zqk8 ?zqk9 ?zqkB ?_ ?zqcK ?zqc2 ?zqc3 ?zqc4 ?zqc5; (case zqkA => exact rfl); (case zqk2 => k_asm); (case zqk1 => k_asm); (case zqXB => assumption); (case zqTB => assumption); (case zqD => assumption); (case zqT0 => first | assumption | exact KtsTurn.refl); (case zqk3 => k_asm); (case zqk4 => k_asm); (case zqk5 => k_asm); (case zqk6 => k_is); (case zqk7 => k_is); (case zqk8 => ktr_room); (case zqk9 => first | exact BindsTo.of_eq rfl | exact binds_K (by k_in) rfl (by k_is) rfl rfl rfl | fail "kts_go: no rule for these arguments"); (case zqkB => exact locs rfl); (case zqcK => assumption); (case zqc2 => exact rfl); (case zqc3 => exact rfl); (case zqc4 => exact rfl); (case zqc5 => decide); k_whole; intro g'Z L'Z h'Z FG'Z F'Z N'Z B'Z X'Z T'Z D'Z; (try dsimp only); (try k_lift B'Z); (try k_fold)))
  (k_with "noteFrame ref" => (k_here; k_dflt (refine' caught_as ?zqR ?zqF ?zqK ?zqU ?zqXB ?zqTB ?zqD ?zqT0 ?zqex ?zqq ?_; (case zqR => assumption); (case zqF => assumption); (case zqK => assumption); (case zqU => assumption); (case zqXB => assumption); (case zqTB => assumption); (case zqD => assumption); (case zqT0 => first | assumption | exact KtsTurn.refl); (case zqq => kts_isx); (case zqex => k_is); k_whole); intro h'Z g'Z oeZ vsZ tk'Z T'Z F'Z hcZ hxZ hdZ N'Z K'Z X'Z P'Z D'Z; (try k_lift K'Z); (try k_sweep)))
  (k_with "getMethod type:Exception" => (k_here; k_dflt (refine' method_type ?zqF ?zqX ?zqm (by decide +kernel) ?zqe ?zqh ?_; (case zqF => k_asm); (case zqX => k_asm); (case zqm => exact meta_exc); (case zqe => k_dflt k_is); (case zqh => k_handed))))
  (k_with "call builtin:Exception.__init__" => (k_here; k_dflt (refine' init_K ?zqF ?zqN ?zqne ?zqX ?zqq ?_; (case zqN => assumption); (case zqF => k_asm); (case zqne => assumption); (case zqX => k_asm); (case zqq => kts_isx)); intro t2Z h'Z F'Z N'Z; (try k_sweep)))
  (k_with "setAttr ref" => (k_here; k_dflt (first | (refine' setM ?zqF ?zqN ?zqne ?zqX ?_; (case zqN => assumption); (case zqF => k_asm); (case zqne => assumption); (case zqX => k_asm); intro dxZ h'Z hvZ tkZ F'Z N'Z naZ nbZ) | (refine' setP ?zqF ?zqN ?zqne ?zqX ?_; (case zqN => assumption); (case zqF => k_asm); (case zqne => assumption); (case zqX => k_asm); intro h'Z hvZ tkZ F'Z N'Z)); (try k_sweep)))
  unfold Spec
  k_fill
  intro dp un gd env outer A₀ base h₀ L m s Q E B F X N TP hf hk hdp hun hret hexc
  refine wpAny_call ?_
  k_dflt cell_enter
  k_steps
  refine' hret _ _ _ _ ⟨rfl, _, _, _, _, ?a, ?b, rfl⟩ ?F ?N
  (case F => assumption)
  (case N => assumption)
  (case a => assumption)
  (case b => assumption)
theorem obj122 (P : Params) : ∃ nm q N bs hdct sn sub ab col dd k0 k1 k2 k3 k5, (hd.heap_1 P).lookup 122 = some (excClassObj nm q 122 N bs [.ref 101, .type "Exception", .type "BaseException", .type "object"] hdct sn sub ab col dd k0 k1 k2 k3 k5 "Exception.__new__") := ⟨_, _, _, _, _, _, _, _, _, _, _, _, _, _, _, rfl⟩
theorem two_pushed {h₀ h : Heap} {L : Addr} {m : Str → Option Value} {news : Led} {o1 o2 : Obj} (F : Fr h₀ L h m) (N : News h₀ L h news) (hf : o2.isFreed = false) : Fr h₀ L ((h.push o1).push o2) m ∧ News h₀ L ((h.push o1).push o2) ((h.objs.size + 1, o2) :: news) ∧ ∀ p ∈ news, p.1 ≠ h.objs.size + 1 := by
  obtain ⟨oL, es, ep, hL, hLd, hLk, hLf⟩ := F.ns
  have kp : ∀ b o, h.get? b = some o → ((h.push o1).push o2).get? b = some o := fun b o e => Heap.get?_push_of_some _ (Heap.get?_push_of_some _ e)
  refine ⟨(F.push _).push _, fun p hp => ?_, fun p hp => Nat.ne_of_lt (Nat.lt_succ_of_lt (Heap.lt_size (N p hp).1))⟩
  rcases List.mem_cons.mp hp with rfl | hp
  · exact ⟨Heap.get?_push_at (by rw [Heap.size_push]) hf, Nat.ne_of_gt (Nat.lt_succ_of_lt (Heap.lt_size hL)), kts_none F.keep (Heap.get?_none_of_le (Nat.le_succ _))⟩
  · exact ⟨kp _ _ (N p hp).1, (N p hp).2⟩
theorem ne_obj {e dx : Addr} {o o' : Obj} {l : Led} (h : ∀ p ∈ (dx, o) :: l, p.1 ≠ e) : ∀ p ∈ (dx, o') :: l, p.1 ≠ e := fun p hp => by
  rcases List.mem_cons.mp hp with rfl | hp
  · exact h (dx, o) (.head _)
  · exact h p (.tail _ hp)
theorem s_exc (msg : Str) (tm u : Tok) (p : Int) : Spec w mean mg mb 9 122 [.str msg tm, .int p u] rest rest
    (fun v l => ∃ e t dx h1 t1 h2 t2, v = .ref e ∧ (∀ p' ∈ (dx, dictOf [⟨h1, .str (Str.ofString "message") t1, .str msg tm⟩, ⟨h2, .str (Str.ofString "place") t2, .int p u⟩] 2) :: rest, p'.1 ≠ e) ∧ l = (e, dExc 122 t dx) :: (dx, dictOf [⟨h1, .str (Str.ofString "message") t1, .str msg tm⟩, ⟨h2, .str (Str.ofString "place") t2, .int p u⟩] 2) :: rest) (fun _ => False) := by
  (k_with "call ref" => (k_here; (with_reducible show wpAny _ _ (call (Value.ref 98) _) _ _ _); k_dflt (refine' Spec.use (s_minit _ _ _ _ _ _ _ _ _ ?zqp1) ?zqB ?zqF ?zqX ?zqN ?zqT ?zqf ?zqk ?zqd ?zqu ?_ ?zqexc; (case zqf => first | exact rfl | assumption); (case zqB => k_asm); (case zqF => k_asm); (case zqX => k_asm); (case zqN => first | with_reducible (first | assumption | exact front1 (by assumption) | exact front2 (by assumption) | exact front3 (by assumption) | exact sf1 (by assumption) | exact sf2 (by assumption) | exact sf3 (by assumption) | exact sf4 (by assumption) | exact sf5 (by assumption) | exact sf6 (by assumption) | exact sf7 (by assumption) | exact one_led (by assumption) (by k_mem)) | (first | assumption | exact front1 (by assumption) | exact front2 (by assumption) | exact front3 (by assumption) | exact sf1 (by assumption) | exact sf2 (by assumption) | exact sf3 (by assumption) | exact sf4 (by assumption) | exact sf5 (by assumption) | exact sf6 (by assumption) | exact sf7 (by assumption) | exact one_led (by assumption) (by k_mem))); (case zqT => k_asm); (case zqk => first | exact rfl | assumption); (case zqd => ktr_room); (case zqu => ktr_room); (case zqp1 => assumption); (case zqexc => (intro kZ eZ dxZ gZ h'Z tk'Z h1Z h2Z t1Z t2Z nZ v1Z uZ hEZ; exact hEZ.elim)); (intro vZ lZ h'Z tk'Z hRZ F'Z N'Z; (try dsimp only at hRZ); obtain ⟨e1Z, tZ, dxZ, hvZ, tkZ, naZ, nbZ, e2Z⟩ := hRZ; subst e1Z; subst e2Z; (try k_sweep); (try dsimp only)))))
  unfold Spec
  k_fill
  intro dp un gd env outer A₀ base h₀ L m s Q E B F X N TP hf hk hdp hun hret hexc
  obtain ⟨hh, g, d, tk, os⟩ := s
  have XK := X.keeps F.keep
  obtain ⟨nm, q, N0, bs, hdct, sn, sub, ab, col, dd, k0, k1, k2, k3, k5, ho⟩ := obj122 w.params
  obtain ⟨F1, N1, hne⟩ := two_pushed (o1 := tupObj [.str msg tm, .int p u]) (o2 := newExc 122 hh.objs.size) F N rfl
  refine wpAny_call (exc_make PySem.F.excBase_Exception (by decide +kernel) (by decide +kernel) (by decide +kernel) (XK _ _ ho) (looks_findIn XK (ini122 _)) (fun self => bind_fn XK self (fn119 _)) ?_ (by show 2 ≤ sizeLine; rw [sizeLine_eq]; omega))
  clear XK ho F N
  k_dflt cell_enter
  k_steps
  refine' hret _ _ _ _ ⟨_, _, _, _, _, _, _, rfl, ?a, rfl⟩ ?F ?N
  (case F => assumption)
  (case N => assumption)
  (case a => exact ne_obj (by assumption))
end
theorem fault_in {w : World} {mean : ExcName → Option Value} {mg mb : Str → Option Value} {dp un : Nat} {gd : Option (List Code)} {env : Env} {outer : List Env} {A₀ : Around} {base h₀ : Heap} {L : Addr} {m : Str → Option Value} {s : Shared} {Q E : Value → Shared → Prop} {news : Led} {x : Str} {t u : Tok} {p : Int}
    (B : Below A₀ base outer h₀) (F : Fr h₀ L s.heap m) (X : (hd.heap_1 w.params).In h₀) (N : News h₀ L s.heap news) (T : Top viewQ (looseW viewQ [Str.ofString "SyntaxFault"]) mean mg mb h₀) (hf : env.frame = some L) (hk : env.scope.kind = .function) (hdp : dp ≤ 310 + 10 * 9) (hun : un ≤ 40 + 30 * 9)
    (hq : ∀ e dx tu h' tk h1 h2 t1 t2 n, Fr h₀ L h' m → News h₀ L h' ((e, excObj dx tu) :: (dx, excDict h1 h2 t1 t2 n (.str x t) (.int p u)) :: news) → (∀ q ∈ (dx, excDict h1 h2 t1 t2 n (.str x t) (.int p u)) :: news, q.1 ≠ e) →
      Q (.ref e) { s with heap := h', toks := tk }) : wpAny (model PySem.Challenge.rw_xw0204_01.row.prog w) (aroundE dp un gd env outer) (call (.ref 122) [.str x t, .int p u]) Q E s := by
  refine (s_exc w mean mg mb news x t u p).use B F X N T hf hk hdp hun ?_ (fun k e dx g h' tk' h1 h2 t1 t2 n v1 u hE => hE.elim)
  rintro v l h' tk' ⟨e, tu, dx, h1, t1, h2, t2, rfl, hne, rfl⟩ F' N'
  exact hq e dx tu h' tk' h1 h2 t1 t2 2 F' N' hne
end Mine
end
theorem Mine.resetYRng : True := by w_top off; k_with_none; exact trivial
section
open PySem PySem.Spec PySem.Calls PyProof.Rows PySem.W
namespace Mine
set_option maxRecDepth 100000
set_option maxHeartbeats 8000000
theorem unr_end {h₀ h' : Heap} {L i : Addr} {o : Obj} {m' : Str → Option Value} {news : Led} {rest : (Str → Option Value) → Led → Prop} {s₁ : Shared} {tk : Nat} (F : Fr h₀ L h' m') (N : News h₀ L h' ((i, o) :: news)) (l : ∀ p ∈ news, p.1 < i) (r : rest m' news) : UnrEndW h₀ L s₁ [(i, o)] rest { s₁ with heap := h', toks := tk } :=
  ⟨h', tk, m', news, rfl, F, N, fun p hp q hq => by rw [List.mem_singleton.mp hq]; exact Nat.ne_of_lt (l p hp), r⟩
def inRangesB (x : Int) : Bool := decide ((32 ≤ x ∧ x ≤ 55295) ∨ (57344 ≤ x ∧ x ≤ 65533) ∨ (65536 ≤ x ∧ x ≤ 1114111))
section
theorem s_is_in_ranges (w : World) (mean : ExcName → Option Value) (mg mb : Str → Option Value) (x : Int) (t : Tok) (news : Led) : Spec w mean mg mb 9 49 [.int x t, .ref 25] news news (fun v l => v = .bool (inRangesB x) ∧ l = news) (fun _ => False) := by
  k_with_none
  (k_with "ktr_room" => first | ((try simp only [depth_under_make, depth_under_kw, depth_in1, depth_deeper, depth_caller, units_in1, units_deeper, Around.mark_units, units_caller]); (try dsimp only [around, aroundE]); (try simp only [recursionLimit, cLine]); omega) | (simp only [depth_under_make, depth_under_kw, depth_in1, depth_deeper, depth_caller, units_in1, units_deeper, Around.mark_units, units_caller] at *; dsimp only [around, aroundE] at *; (try simp only [recursionLimit, cLine] at *); omega))
  (k_with "exec Raise some none" => (k_here; k_dflt (refine' raise_made ?zqX ?zqq ?zqhh ?_; (case zqX => k_asm); (case zqq => kts_isx); (case zqhh => exact rfl); k_whole)))
  (k_with "call ref" => (k_here; (with_reducible show wpAny _ _ (call (Value.ref 122) _) _ _ _); k_dflt (refine' fault_in ?zqB ?zqF ?zqX ?zqN ?zqT ?zqf ?zqk ?zqd ?zqu ?_; (case zqf => first | exact rfl | assumption); (case zqB => k_asm); (case zqF => k_asm); (case zqX => k_asm); (case zqN => k_asm); (case zqT => k_asm); (case zqk => first | exact rfl | assumption); (case zqd => ktr_room); (case zqu => ktr_room); k_whole); intro e'Z dx'Z tu'Z h'Z tk'Z h1'Z h2'Z t1'Z t2'Z n'Z F'Z N'Z ne'Z; (try k_sweep)))
  (k_with "Thrown" => (k_here; k_dflt (refine' thrown_ ?zqF ?zqX ?zqN ?zqm ?_; (case zqF => k_asm); (case zqX => k_asm); (case zqN => k_asm); (case zqm => k_mem); k_whole)))
  (k_with "leaving ref" => (k_here; k_dflt (refine' raise_leaves ?zqK ?zqF ?zqN ?zqne ?zqc ?zqx ?zqd ?zqo ?_ ?zqk; (case zqF => assumption); (case zqN => assumption); (case zqK => assumption); (case zqne => assumption); (case zqc => exact rfl); (case zqx => exact rfl); (case zqd => exact rfl); (case zqo => exact rfl); (case zqk => exact rfl); k_whole); intro h'Z R'Z U'Z; (try dsimp only at R'Z U'Z ⊢)))
  (k_with "cell_enter" => (refine' code_def ?zqk1 ?zqk2 ?zqk3 ?zqk4 ?zqk5 ?zqkA ?zqkF ?zqkK ?zqk6 ?zqk7 ?zqk8 ?zqk9 ?zqkB ?_ ?zqc2 ?zqc3 ?zqc4 ?zqc5; (case zqkA => exact rfl); (case zqkF => first | exact rfl | assumption); (case zqkK => assumption); (case zqk1 => k_asm); (case zqk2 => k_asm); (case zqk3 => k_asm); (case zqk4 => k_asm); (case zqk5 => k_asm); (case zqk6 => k_is); (case zqk7 => k_is); (case zqk8 => ktr_room); (case zqk9 => first | exact BindsTo.of_eq rfl | exact binds_K (by k_in) rfl (by k_is) rfl rfl rfl); (case zqc5 => decide); (case zqkB => exact locs rfl); (case zqc2 => exact rfl); (case zqc3 => exact rfl); (case zqc4 => exact rfl); k_whole; intro g'Z L'Z h'Z FG'Z F'Z N'Z B'Z X'Z T'Z; (try dsimp only); (try k_lift B'Z); (try k_fold)))
  (k_with "leaving ref" => (k_here; k_dflt (refine' pass_leaves ?zqK ?zqF ?zqR ?zqU ?_; (case zqR => assumption); (case zqF => assumption); (case zqK => assumption); (case zqU => assumption); k_whole); intro h'Z R'Z U'Z; (try dsimp only at R'Z U'Z ⊢)))
  (k_with "tb_rel" => first | exact subSelf | exact subNil | (refine subCons ?zqa ?zqb; (case zqa => k_mem); (case zqb => tb_rel)) | (refine subInto ?_; tb_rel))
  (k_with "kts_go" => (refine' code_defS ?zqk1 ?zqk2 ?zqk3 ?zqk4 ?zqk5 ?zqXB ?zqTB ?zqD ?zqT0 ?zqkA ?zqk6 ?zqk7 ?zqk8 ?zqk9 ?zqkB ?_ ?zqcK ?zqc2 ?zqc3 ?zqc4 ?zqc5; (case zqkA => exact rfl); (case zqk2 => k_asm); (case zqk1 => k_asm); (case zqXB => assumption); (case zqTB => assumption); (case zqD => assumption); (case zqT0 => first | assumption | exact KtsTurn.refl); (case zqk3 => k_asm); (case zqk4 => k_asm); (case zqk5 => k_asm); (case zqk6 => k_is); (case zqk7 => k_is); (case zqk8 => ktr_room); (case zqk9 => first | exact BindsTo.of_eq rfl | exact binds_K (by k_in) rfl (by k_is) rfl rfl rfl | fail "kts_go: no rule for these arguments"); (case zqkB => exact locs rfl); (case zqcK => assumption); (case zqc2 => exact rfl); (case zqc3 => exact rfl); (case zqc4 => exact rfl); (case zqc5 => decide); k_whole; intro g'Z L'Z h'Z FG'Z F'Z N'Z B'Z X'Z T'Z D'Z; (try dsimp only); (try k_lift B'Z); (try k_fold)))
  (k_with "noteFrame ref" => (k_here; k_dflt (refine' caught_as ?zqR ?zqF ?zqK ?zqU ?zqXB ?zqTB ?zqD ?zqT0 ?zqex ?zqq ?_; (case zqR => assumption); (case zqF => assumption); (case zqK => assumption); (case zqU => assumption); (case zqXB => assumption); (case zqTB => assumption); (case zqD => assumption); (case zqT0 => first | assumption | exact KtsTurn.refl); (case zqq => kts_isx); (case zqex => k_is); k_whole); intro h'Z g'Z oeZ vsZ tk'Z T'Z F'Z hcZ hxZ hdZ N'Z K'Z X'Z P'Z D'Z; (try k_lift K'Z); (try k_sweep)))
  (k_with "exec For Tuple Name cons nil" => (k_here; (rename Fr _ _ _ _ => lF'Z); (with_unfolding_all refine' For_turns lF'Z ?_ ?zqhs ?zqhE; (case zqhs => (intro _; rfl)); (case zqhE => first | passes_own | with_unfolding_all passes_own); k_whole)))
  (k_with "UnrEndW" => (k_here; k_dflt (refine' unr_end ?zqF ?zqN ?zql ?_; (case zqF => k_asm); (case zqN => k_asm); (case zql => assumption)); (try dsimp only); refine ⟨by first | trivial | exact True.intro | (intro pZ hpZ; exact nomatch hpZ), ?_⟩))
  unfold Spec
  k_fill
  intro dp un gd env outer A₀ base h₀ L m s Q E B F X N TP hf hk hdp hun hret hexc
  refine wpAny_call ?_
  k_dflt cell_enter
  k_steps
  all_goals (
    refine' hret _ _ _ _ ⟨?v, rfl⟩ ?F ?N
    (case F => assumption)
    (case N => first | assumption | exact cb_drop (by assumption) (by tb_rel))
    (case v => (refine congrArg Value.bool ?_; unfold inRangesB; first | (refine (decide_eq_true ?_).symm; omega) | (refine (decide_eq_false ?_).symm; omega))))
end
end Mine
end
section
open PySem PySem.Spec PySem.Calls PyProof.Rows PySem.W
namespace Mine
section
variable {prog : Program} {w : World} {A : Around} {E : Value → Shared → Prop} {s : Shared} {env : Env} {test : PySem.Expr} {body orelse : List Stmt} {Q : Flow → Shared → Prop}
def TurnOver {σ : Type} (s : Shared) (μ : σ → Nat) (J : σ → Heap → Nat → Prop) (Q : Flow → Shared → Prop) (c : σ) (f : Flow) (s₂ : Shared) : Prop :=
  match f with
  | .next => ∃ c' h' tk', μ c' < μ c ∧ s₂ = { s with heap := h', toks := tk' } ∧ J c' h' tk'
  | .cont => ∃ c' h' tk', μ c' < μ c ∧ s₂ = { s with heap := h', toks := tk' } ∧ J c' h' tk'
  | .brk => Q .next s₂
  | .ret v => Q (.ret v) s₂
theorem while_by {σ : Type} (μ : σ → Nat) (J : σ → Heap → Nat → Prop) (hE : PassesOwn (model prog w) A env E)
    (turn : ∀ c h tk, J c h tk → wpAny (model prog w) A (isTrue test env (eval test env)) (fun b s₂ => WhlIf b (wpAny (model prog w) A (execs body env) (TurnOver s μ J Q c) E s₂) (wpAny (model prog w) A (execs orelse env) Q E s₂)) E { s with heap := h, toks := tk }) :
    ∀ c h tk, J c h tk → WhlRest prog w A E env test body orelse Q 0 { s with heap := h, toks := tk } := by
  have all : ∀ n c h tk, μ c < n → J c h tk → WhlRest prog w A E env test body orelse Q 0 { s with heap := h, toks := tk } := by
    intro n
    induction n with
    | zero => intro c h tk hn; exact absurd hn (Nat.not_lt_zero _)
    | succ n ih =>
      intro c h tk hn hJ
      refine whl_turn (k := 0) hE (wpAny_mono (turn c h tk hJ) (fun b s₂ h₂ => ?_) fun _ _ x => x)
      unfold WhlIf at h₂ ⊢
      cases b with
      | false => exact h₂
      | true =>
        refine wpAny_mono h₂ (fun f s₃ h₃ => ?_) fun _ _ x => x
        cases f with
        | next => obtain ⟨c', h', tk', hm, rfl, hJ'⟩ := h₃; exact ih c' h' tk' (by omega) hJ'
        | cont => obtain ⟨c', h', tk', hm, rfl, hJ'⟩ := h₃; exact ih c' h' tk' (by omega) hJ'
        | brk => exact h₃
        | ret v => exact h₃
  exact fun c h tk hJ => all _ c h tk (Nat.lt_succ_self _) hJ
theorem while_start {pos : Pos} {h : Heap} {tk : Nat} (h : WhlRest prog w A E env test body orelse Q 0 s) : wpAny (model prog w) A (exec (.While test body orelse pos) env) Q E s := whl_start 0 h
end
end Mine
end
theorem Mine.resetYCur2 : True := by w_top off; k_with_none; exact trivial
section
open PySem PySem.Spec PySem.Calls PyProof.Rows PySem.W
namespace Mine
abbrev curDict (h1 h2 : Int) (t1 t2 : Tok) (T : Str) (tt : Tok) (k : Int) (ti : Tok) : Obj := dictOf [⟨h1, .str (Str.ofString "text") t1, .str T tt⟩, ⟨h2, .str (Str.ofString "at") t2, .int k ti⟩] 2
abbrev curLed (c d : Addr) (h1 h2 : Int) (t1 t2 : Tok) (T : Str) (tt : Tok) (k : Int) (ti : Tok) (rest : Led) : Led := (c, instObj 275 d) :: (d, curDict h1 h2 t1 t2 T tt k ti) :: rest
set_option maxRecDepth 100000
set_option maxHeartbeats 8000000
section
variable (w : World) (mean : ExcName → Option Value) (mg mb : Str → Option Value) (c d : Addr) (h1 h2 : Int) (t1 t2 tt ti : Tok) (T : Str) (k : Int) (rest : Led)
theorem s_fault (msg : Str) (tm : Tok) : Spec w mean mg mb 8 201 [.ref c, .str msg tm] (curLed c d h1 h2 t1 t2 T tt k ti rest) rest (fun _ _ => False) (fun p => p = k) := by
  k_with_none
  (k_with "ktr_room" => (simp only [depth_under_make, depth_under_kw, depth_in1, depth_deeper, depth_caller, units_in1, units_deeper, Around.mark_units, units_caller] at *; dsimp only [around, aroundE] at *; (try simp only [recursionLimit, cLine] at *); omega))
  (k_with "exec Raise some none" => (k_here; k_dflt (refine' raise_made ?zqX ?zqq ?zqhh ?_; (case zqX => k_asm); (case zqq => kts_isx); (case zqhh => exact rfl); k_whole)))
  (k_with "call ref" => (k_here; (with_reducible show wpAny _ _ (call (Value.ref 122) _) _ _ _); k_dflt (refine' fault_in ?zqB ?zqF ?zqX ?zqN ?zqT ?zqf ?zqk ?zqd ?zqu ?_; (case zqf => first | exact rfl | assumption); (case zqB => k_asm); (case zqF => k_asm); (case zqX => k_asm); (case zqN => k_asm); (case zqT => k_asm); (case zqk => first | exact rfl | assumption); (case zqd => ktr_room); (case zqu => ktr_room); k_whole); intro e'Z dx'Z tu'Z h'Z tk'Z h1'Z h2'Z t1'Z t2'Z n'Z F'Z N'Z ne'Z; (try k_sweep)))
  (k_with "Thrown" => (k_here; k_dflt (refine' thrown_ ?zqF ?zqX ?zqN ?zqm ?_; (case zqF => k_asm); (case zqX => k_asm); (case zqN => k_asm); (case zqm => k_mem); k_whole)))
  (k_with "leaving ref" => (k_here; k_dflt (refine' raise_leaves ?zqK ?zqF ?zqN ?zqne ?zqc ?zqx ?zqd ?zqo ?_ ?zqk; (case zqF => assumption); (case zqN => assumption); (case zqK => assumption); (case zqne => assumption); (case zqc => exact rfl); (case zqx => exact rfl); (case zqd => exact rfl); (case zqo => exact rfl); (case zqk => exact rfl); k_whole); intro h'Z R'Z U'Z; (try dsimp only at R'Z U'Z ⊢)))
  (k_with "cell_enter" => (refine' code_def ?zqk1 ?zqk2 ?zqk3 ?zqk4 ?zqk5 ?zqkA ?zqkF ?zqkK ?zqk6 ?zqk7 ?zqk8 ?zqk9 ?zqkB ?_ ?zqc2 ?zqc3 ?zqc4 ?zqc5; (case zqkA => exact rfl); (case zqkF => first | exact rfl | assumption); (case zqkK => assumption); (case zqk1 => k_asm); (case zqk2 => k_asm); (case zqk3 => k_asm); (case zqk4 => k_asm); (case zqk5 => k_asm); (case zqk6 => k_is); (case zqk7 => k_is); (case zqk8 => ktr_room); (case zqk9 => first | exact BindsTo.of_eq rfl | exact binds_K (by k_in) rfl (by k_is) rfl rfl rfl); (case zqc5 => decide); (case zqkB => exact locs rfl); (case zqc2 => exact rfl); (case zqc3 => exact rfl); (case zqc4 => exact rfl); k_whole; intro g'Z L'Z h'Z FG'Z F'Z N'Z B'Z X'Z T'Z; (try dsimp only); (try k_lift B'Z); (try k_fold)))
  (k_with "leaving ref" => (k_here; k_dflt (refine' pass_leaves ?zqK ?zqF ?zqR ?zqU ?_; (case zqR => assumption); (case zqF => assumption); (case zqK => assumption); (case zqU => assumption); k_whole); intro h'Z R'Z U'Z; (try dsimp only at R'Z U'Z ⊢)))
  (k_with "tb_rel" => first | exact subSelf | exact subNil | (refine subCons ?zqa ?zqb; (case zqa => k_mem); (case zqb => tb_rel)) | (refine subInto ?_; tb_rel))
  unfold Spec
  k_fill
  intro dp un gd env outer A₀ base h₀ L m s Q E B F X N TP hf hk hdp hun hret hexc
  dsimp only [curLed] at N
  refine wpAny_call ?_
  k_dflt cell_enter
  k_steps
  refine' hexc _ _ _ _ _ _ _ _ _ _ _ _ _ rfl ?F ?U (Raised.mono ?R ?S)
  (case R => assumption)
  (case F => assumption)
  (case U => assumption)
  (case S => tb_rel)
theorem s_skip (word : Str) (tm : Tok) (hcd : c ≠ d) (hne : ∀ p ∈ rest, p.1 ≠ d) (hk0 : 0 ≤ k) (hkT : k ≤ T.length) (hT : T.length < 1000000) (hw : word.length < 1000) :
   Spec w mean mg mb 7 216 [.ref c, .str word tm] (curLed c d h1 h2 t1 t2 T tt k ti rest) rest
     (fun v l => v = .bool (Txt.startswith3 T word k) ∧ ∃ t, l = curLed c d h1 h2 t1 t2 T tt (if Txt.startswith3 T word k then k + word.length else k) t rest) (fun _ => False) := by
  unfold Spec
  k_fill
  intro dp un gd env outer A₀ base h₀ L m s Q E B F X N TP hf hk hdp hun hret hexc
  dsimp only [curLed] at N
  refine wpAny_call ?_
  k_dflt cell_enter
  k_steps
  all_goals (
    (rename Txt.startswith3 _ _ _ = _ => hc)
    refine' hret _ _ _ _ ⟨?v, _, ?l⟩ ?F ?N
    (case F => assumption)
    (case N => assumption)
    (case v => rw [hc])
    (case l => rw [hc]; rfl))
end
end Mine
end
theorem Mine.resetYCur3 : True := by w_top off; k_with_none; exact trivial
section
open PySem PySem.Spec PySem.Calls PyProof.Rows PySem.W
namespace Mine
def inB (S x : Str) : Bool := !(Builtin.Str.occurrences S x 0 S.length 1).isEmpty
def spaceB (x : Str) : Bool := inB (Str.ofString " \t\n\u000d") x && (x != Str.ofString "")
def charB (c : Nat) : Bool := if (c : Int) < 32 then inB (Str.ofString " \t\n\u000d") (Str.mk #[c]) else inRangesB c
def publicB (x : Str) : Bool := inB (Str.ofString "abcdefghijklmnopqrstuvwxyzABCDEFGHIJKLMNOPQRSTUVWXYZ") x || inB (Str.ofString "0123456789") x || inB (Str.ofString " \n-'()+,./:=?;!*#@$_%") x
set_option maxRecDepth 100000
set_option maxHeartbeats 8000000
section
variable (w : World) (mean : ExcName → Option Value) (mg mb : Str → Option Value) (news : Led)
theorem s_is_space (x : Str) (t : Tok) : Spec w mean mg mb 9 56 [.str x t] news news (fun v l => v = .bool (spaceB x) ∧ l = news) (fun _ => False) := by
  k_with_none
  (k_with "ktr_room" => (simp only [depth_under_make, depth_under_kw, depth_in1, depth_deeper, depth_caller, units_in1, units_deeper, Around.mark_units, units_caller] at *; dsimp only [around, aroundE] at *; (try simp only [recursionLimit, cLine] at *); omega))
  (k_with "exec Raise some none" => (k_here; k_dflt (refine' raise_made ?zqX ?zqq ?zqhh ?_; (case zqX => k_asm); (case zqq => kts_isx); (case zqhh => exact rfl); k_whole)))
  (k_with "call ref" => (k_here; (with_reducible show wpAny _ _ (call (Value.ref 122) _) _ _ _); k_dflt (refine' fault_in ?zqB ?zqF ?zqX ?zqN ?zqT ?zqf ?zqk ?zqd ?zqu ?_; (case zqf => first | exact rfl | assumption); (case zqB => k_asm); (case zqF => k_asm); (case zqX => k_asm); (case zqN => k_asm); (case zqT => k_asm); (case zqk => first | exact rfl | assumption); (case zqd => ktr_room); (case zqu => ktr_room); k_whole); intro e'Z dx'Z tu'Z h'Z tk'Z h1'Z h2'Z t1'Z t2'Z n'Z F'Z N'Z ne'Z; (try k_sweep)))
  (k_with "Thrown" => (k_here; k_dflt (refine' thrown_ ?zqF ?zqX ?zqN ?zqm ?_; (case zqF => k_asm); (case zqX => k_asm); (case zqN => k_asm); (case zqm => k_mem); k_whole)))
  (k_with "leaving ref" => (k_here; k_dflt (refine' raise_leaves ?zqK ?zqF ?zqN ?zqne ?zqc ?zqx ?zqd ?zqo ?_ ?zqk; (case zqF => assumption); (case zqN => assumption); (case zqK => assumption); (case zqne => assumption); (case zqc => exact rfl); (case zqx => exact rfl); (case zqd => exact rfl); (case zqo => exact rfl); (case zqk => exact rfl); k_whole); intro h'Z R'Z U'Z; (try dsimp only at R'Z U'Z ⊢)))
  (k_with "cell_enter" => (refine' code_def ?zqk1 ?zqk2 ?zqk3 ?zqk4 ?zqk5 ?zqkA ?zqkF ?zqkK ?zqk6 ?zqk7 ?zqk8 ?zqk9 ?zqkB ?_ ?zqc2 ?zqc3 ?zqc4 ?zqc5; (case zqkA => exact rfl); (case zqkF => first | exact rfl | assumption); (case zqkK => assumption); (case zqk1 => k_asm); (case zqk2 => k_asm); (case zqk3 => k_asm); (case zqk4 => k_asm); (case zqk5 => k_asm); (case zqk6 => k_is); (case zqk7 => k_is); (case zqk8 => ktr_room); (case zqk9 => first | exact BindsTo.of_eq rfl | exact binds_K (by k_in) rfl (by k_is) rfl rfl rfl); (case zqc5 => decide); (case zqkB => exact locs rfl); (case zqc2 => exact rfl); (case zqc3 => exact rfl); (case zqc4 => exact rfl); k_whole; intro g'Z L'Z h'Z FG'Z F'Z N'Z B'Z X'Z T'Z; (try dsimp only); (try k_lift B'Z); (try k_fold)))
  (k_with "leaving ref" => (k_here; k_dflt (refine' pass_leaves ?zqK ?zqF ?zqR ?zqU ?_; (case zqR => assumption); (case zqF => assumption); (case zqK => assumption); (case zqU => assumption); k_whole); intro h'Z R'Z U'Z; (try dsimp only at R'Z U'Z ⊢)))
  (k_with "tb_rel" => first | exact subSelf | exact subNil | (refine subCons ?zqa ?zqb; (case zqa => k_mem); (case zqb => tb_rel)) | (refine subInto ?_; tb_rel))
  (k_with "kts_go" => (refine' code_defS ?zqk1 ?zqk2 ?zqk3 ?zqk4 ?zqk5 ?zqXB ?zqTB ?zqD ?zqT0 ?zqkA ?zqk6 ?zqk7 ?zqk8 ?zqk9 ?zqkB ?_ ?zqcK ?zqc2 ?zqc3 ?zqc4 ?zqc5; (case zqkA => exact rfl); (case zqk2 => k_asm); (case zqk1 => k_asm); (case zqXB => assumption); (case zqTB => assumption); (case zqD => assumption); (case zqT0 => first | assumption | exact KtsTurn.refl); (case zqk3 => k_asm); (case zqk4 => k_asm); (case zqk5 => k_asm); (case zqk6 => k_is); (case zqk7 => k_is); (case zqk8 => ktr_room); (case zqk9 => first | exact BindsTo.of_eq rfl | exact binds_K (by k_in) rfl (by k_is) rfl rfl rfl | fail "kts_go: no rule for these arguments"); (case zqkB => exact locs rfl); (case zqcK => assumption); (case zqc2 => exact rfl); (case zqc3 => exact rfl); (case zqc4 => exact rfl); (case zqc5 => decide); k_whole; intro g'Z L'Z h'Z FG'Z F'Z N'Z B'Z X'Z T'Z D'Z; (try dsimp only); (try k_lift B'Z); (try k_fold)))
  (k_with "noteFrame ref" => (k_here; k_dflt (refine' caught_as ?zqR ?zqF ?zqK ?zqU ?zqXB ?zqTB ?zqD ?zqT0 ?zqex ?zqq ?_; (case zqR => assumption); (case zqF => assumption); (case zqK => assumption); (case zqU => assumption); (case zqXB => assumption); (case zqTB => assumption); (case zqD => assumption); (case zqT0 => first | assumption | exact KtsTurn.refl); (case zqq => kts_isx); (case zqex => k_is); k_whole); intro h'Z g'Z oeZ vsZ tk'Z T'Z F'Z hcZ hxZ hdZ N'Z K'Z X'Z P'Z D'Z; (try k_lift K'Z); (try k_sweep)))
  unfold Spec
  k_fill
  intro dp un gd env outer A₀ base h₀ L m s Q E B F X N TP hf hk hdp hun hret hexc
  refine wpAny_call ?_
  k_dflt cell_enter
  k_steps
  all_goals (
    refine' hret _ _ _ _ ⟨?v, rfl⟩ ?F ?N
    (case F => assumption)
    (case N => assumption)
    (case v => (unfold spaceB inB; rename _ = _ => hc; simp only [hc]; rfl)))
theorem s_is_char (x : Nat) (t : Tok) : Spec w mean mg mb 8 63 [.str (Str.mk #[x]) t] news news (fun v l => v = .bool (charB x) ∧ l = news) (fun _ => False) := by
  (k_with "call ref" => (k_here; (with_reducible show wpAny _ _ (call (Value.ref 49) _) _ _ _); k_dflt (refine' Spec.use (s_is_in_ranges _ _ _ _ _ _ _) ?zqB ?zqF ?zqX ?zqN ?zqT ?zqf ?zqk ?zqd ?zqu ?_ ?zqexc; (case zqf => first | exact rfl | assumption); (case zqB => k_asm); (case zqF => k_asm); (case zqX => k_asm); (case zqN => first | assumption | exact front1 (by assumption) | exact front2 (by assumption) | exact front3 (by assumption)); (case zqT => k_asm); (case zqk => first | exact rfl | assumption); (case zqd => ktr_room); (case zqu => ktr_room); (case zqexc => (intro kZ eZ dxZ gZ h'Z tk'Z h1Z h2Z t1Z t2Z nZ v1Z uZ hEZ; exact hEZ.elim)); (intro vZ lZ h'Z tk'Z hRZ F'Z N'Z; (try dsimp only at hRZ); obtain ⟨e1Z, e2Z⟩ := hRZ; subst e1Z; subst e2Z; (try k_sweep); (try dsimp only)))))
  unfold Spec
  k_fill
  intro dp un gd env outer A₀ base h₀ L m s Q E B F X N TP hf hk hdp hun hret hexc
  refine wpAny_call ?_
  k_dflt cell_enter
  k_steps
  all_goals (
    refine' hret _ _ _ _ ⟨?v, rfl⟩ ?F ?N
    (case F => assumption)
    (case N => assumption)
    (case v => (unfold charB; first | (rw [if_pos (by assumption)]; done) | (rw [if_pos (by assumption)]; rfl) | (rw [if_neg (by assumption)]; done)| (rw [if_neg (by assumption)]; rfl))))
theorem s_is_public (x : Str) (t : Tok) : Spec w mean mg mb 8 138 [.str x t] news news (fun v l => v = .bool (publicB x) ∧ l = news) (fun _ => False) := by
  unfold Spec
  k_fill
  intro dp un gd env outer A₀ base h₀ L m s Q E B F X N TP hf hk hdp hun hret hexc
  refine wpAny_call ?_
  k_dflt cell_enter
  k_steps
  all_goals (
    refine' hret _ _ _ _ ⟨?v, rfl⟩ ?F ?N
    (case F => assumption)
    (case N => assumption)
    (case v => (unfold publicB inB; (try ((rename List.isEmpty _ = _ => hc); simp only [hc]; clear hc)); (try ((rename List.isEmpty _ = _ => hc); simp only [hc]; clear hc)); (try rfl); (try simp))))
end
end Mine
end
theorem Mine.resetYCur4 : True := by w_top off; k_with_none; exact trivial
section
open PySem PySem.Spec PySem.Calls PyProof.Rows PySem.W
namespace Mine
set_option maxRecDepth 100000
set_option maxHeartbeats 8000000
section
variable (w : World) (mean : ExcName → Option Value) (mg mb : Str → Option Value) (c d : Addr) (h1 h2 : Int) (t1 t2 tt ti : Tok) (T : Str) (k : Int) (rest : Led)
theorem s_peek (hcd : c ≠ d) (hk0 : 0 ≤ k) (hkT : k ≤ T.length) (hT : T.length < 1000000) : Spec w mean mg mb 7 187 [.ref c] (curLed c d h1 h2 t1 t2 T tt k ti rest) rest
     (fun v l => (∃ t, v = .str (Txt.slice T (some k) (some (k+1))) t) ∧ l = curLed c d h1 h2 t1 t2 T tt k ti rest) (fun _ => False) := by
  k_with_none
  (k_with "ktr_room" => (simp only [depth_under_make, depth_under_kw, depth_in1, depth_deeper, depth_caller, units_in1, units_deeper, Around.mark_units, units_caller] at *; dsimp only [around, aroundE] at *; (try simp only [recursionLimit, cLine] at *); omega))
  (k_with "exec Raise some none" => (k_here; k_dflt (refine' raise_made ?zqX ?zqq ?zqhh ?_; (case zqX => k_asm); (case zqq => kts_isx); (case zqhh => exact rfl); k_whole)))
  (k_with "call ref" => (k_here; (with_reducible show wpAny _ _ (call (Value.ref 122) _) _ _ _); k_dflt (refine' fault_in ?zqB ?zqF ?zqX ?zqN ?zqT ?zqf ?zqk ?zqd ?zqu ?_; (case zqf => first | exact rfl | assumption); (case zqB => k_asm); (case zqF => k_asm); (case zqX => k_asm); (case zqN => k_asm); (case zqT => k_asm); (case zqk => first | exact rfl | assumption); (case zqd => ktr_room); (case zqu => ktr_room); k_whole); intro e'Z dx'Z tu'Z h'Z tk'Z h1'Z h2'Z t1'Z t2'Z n'Z F'Z N'Z ne'Z; (try k_sweep)))
  (k_with "Thrown" => (k_here; k_dflt (refine' thrown_ ?zqF ?zqX ?zqN ?zqm ?_; (case zqF => k_asm); (case zqX => k_asm); (case zqN => k_asm); (case zqm => k_mem); k_whole)))
  (k_with "leaving ref" => (k_here; k_dflt (refine' raise_leaves ?zqK ?zqF ?zqN ?zqne ?zqc ?zqx ?zqd ?zqo ?_ ?zqk; (case zqF => assumption); (case zqN => assumption); (case zqK => assumption); (case zqne => assumption); (case zqc => exact rfl); (case zqx => exact rfl); (case zqd => exact rfl); (case zqo => exact rfl); (case zqk => exact rfl); k_whole); intro h'Z R'Z U'Z; (try dsimp only at R'Z U'Z ⊢)))
  (k_with "cell_enter" => (refine' code_def ?zqk1 ?zqk2 ?zqk3 ?zqk4 ?zqk5 ?zqkA ?zqkF ?zqkK ?zqk6 ?zqk7 ?zqk8 ?zqk9 ?zqkB ?_ ?zqc2 ?zqc3 ?zqc4 ?zqc5; (case zqkA => exact rfl); (case zqkF => first | exact rfl | assumption); (case zqkK => assumption); (case zqk1 => k_asm); (case zqk2 => k_asm); (case zqk3 => k_asm); (case zqk4 => k_asm); (case zqk5 => k_asm); (case zqk6 => k_is); (case zqk7 => k_is); (case zqk8 => ktr_room); (case zqk9 => first | exact BindsTo.of_eq rfl | exact binds_K (by k_in) rfl (by k_is) rfl rfl rfl); (case zqc5 => decide); (case zqkB => exact locs rfl); (case zqc2 => exact rfl); (case zqc3 => exact rfl); (case zqc4 => exact rfl); k_whole; intro g'Z L'Z h'Z FG'Z F'Z N'Z B'Z X'Z T'Z; (try dsimp only); (try k_lift B'Z); (try k_fold)))
  (k_with "leaving ref" => (k_here; k_dflt (refine' pass_leaves ?zqK ?zqF ?zqR ?zqU ?_; (case zqR => assumption); (case zqF => assumption); (case zqK => assumption); (case zqU => assumption); k_whole); intro h'Z R'Z U'Z; (try dsimp only at R'Z U'Z ⊢)))
  (k_with "tb_rel" => first | exact subSelf | exact subNil | (refine subCons ?zqa ?zqb; (case zqa => k_mem); (case zqb => tb_rel)) | (refine subInto ?_; tb_rel))
  (k_with "kts_go" => (refine' code_defS ?zqk1 ?zqk2 ?zqk3 ?zqk4 ?zqk5 ?zqXB ?zqTB ?zqD ?zqT0 ?zqkA ?zqk6 ?zqk7 ?zqk8 ?zqk9 ?zqkB ?_ ?zqcK ?zqc2 ?zqc3 ?zqc4 ?zqc5; (case zqkA => exact rfl); (case zqk2 => k_asm); (case zqk1 => k_asm); (case zqXB => assumption); (case zqTB => assumption); (case zqD => assumption); (case zqT0 => first | assumption | exact KtsTurn.refl); (case zqk3 => k_asm); (case zqk4 => k_asm); (case zqk5 => k_asm); (case zqk6 => k_is); (case zqk7 => k_is); (case zqk8 => ktr_room); (case zqk9 => first | exact BindsTo.of_eq rfl | exact binds_K (by k_in) rfl (by k_is) rfl rfl rfl | fail "kts_go: no rule for these arguments"); (case zqkB => exact locs rfl); (case zqcK => assumption); (case zqc2 => exact rfl); (case zqc3 => exact rfl); (case zqc4 => exact rfl); (case zqc5 => decide); k_whole; intro g'Z L'Z h'Z FG'Z F'Z N'Z B'Z X'Z T'Z D'Z; (try dsimp only); (try k_lift B'Z); (try k_fold)))
  (k_with "noteFrame ref" => (k_here; k_dflt (refine' caught_as ?zqR ?zqF ?zqK ?zqU ?zqXB ?zqTB ?zqD ?zqT0 ?zqex ?zqq ?_; (case zqR => assumption); (case zqF => assumption); (case zqK => assumption); (case zqU => assumption); (case zqXB => assumption); (case zqTB => assumption); (case zqD => assumption); (case zqT0 => first | assumption | exact KtsTurn.refl); (case zqq => kts_isx); (case zqex => k_is); k_whole); intro h'Z g'Z oeZ vsZ tk'Z T'Z F'Z hcZ hxZ hdZ N'Z K'Z X'Z P'Z D'Z; (try k_lift K'Z); (try k_sweep)))
  unfold Spec
  k_fill
  intro dp un gd env outer A₀ base h₀ L m s Q E B F X N TP hf hk hdp hun hret hexc
  dsimp only [curLed] at N
  refine wpAny_call ?_
  k_dflt cell_enter
  k_steps
  refine' hret _ _ _ _ ⟨⟨_, ?v⟩, ?l⟩ ?F ?N
  (case F => assumption)
  (case N => assumption)
  (case v => rfl)
  (case l => rfl)
theorem s_until (word : Str) (tw : Tok) (hcd : c ≠ d) (hne : ∀ p ∈ rest, p.1 ≠ d) (hk0 : 0 ≤ k) (hkT : k ≤ T.length) (hT : T.length < 1000000) (hw : word.length < 1000) :
   Spec w mean mg mb 7 230 [.ref c, .str word tw] (curLed c d h1 h2 t1 t2 T tt k ti rest) rest
     (fun v l => 0 ≤ Txt.find3 T word k ∧ (∃ t, v = .str (Txt.slice T (some k) (some (Txt.find3 T word k))) t) ∧ ∃ t, l = curLed c d h1 h2 t1 t2 T tt (Txt.find3 T word k + word.length) t rest) (fun p => Txt.find3 T word k < 0 ∧ p = k) := by
  (k_with "call ref" => (k_here; (with_reducible show wpAny _ _ (call (Value.ref 201) _) _ _ _); k_dflt (refine' Spec.use (s_fault _ _ _ _ _ _ _ _ _ _ _ _ _ _ _ _ _) ?zqB ?zqF ?zqX ?zqN ?zqT ?zqf ?zqk ?zqd ?zqu ?zqret ?_; (case zqf => first | exact rfl | assumption); (case zqB => k_asm); (case zqF => k_asm); (case zqX => k_asm); (case zqN => first | assumption | exact front1 (by assumption) | exact front2 (by assumption) | exact front3 (by assumption)); (case zqT => k_asm); (case zqk => first | exact rfl | assumption); (case zqd => ktr_room); (case zqu => ktr_room); (case zqret => (intro vZ lZ h'Z tk'Z hRZ; exact hRZ.elim)); (intro kZ eZ dxZ gZ h'Z tk'Z h1Z h2Z t1Z t2Z nZ v1Z uZ hEZ F'Z U'Z R'Z; (try dsimp only at hEZ); have e1Z := hEZ; subst e1Z; (try k_sweep); (try dsimp only)))))
  unfold Spec
  k_fill
  intro dp un gd env outer A₀ base h₀ L m s Q E B F X N TP hf hk hdp hun hret hexc
  dsimp only [curLed] at N
  refine wpAny_call ?_
  k_dflt cell_enter
  k_steps
  · refine' hexc _ _ _ _ _ _ _ _ _ _ _ _ _ ⟨?v, rfl⟩ ?F ?U (Raised.mono ?R ?S)
    (case R => assumption)
    (case F => assumption)
    (case U => assumption)
    (case S => tb_rel)
    (case v => omega)
  · refine' hret _ _ _ _ ⟨?v2, ⟨_, rfl⟩, ⟨_, ?l2⟩⟩ ?F2 ?N2
    (case F2 => assumption)
    (case N2 => assumption)
    (case v2 => omega)
    (case l2 => rfl)
end
end Mine
end
section
open PySem PySem.Builtin.Str
namespace Mine
theorem nat_le_max_min (a b n : Nat) : max (min a n) (min b n) ≤ n := Nat.max_le.mpr ⟨Nat.min_le_right _ _, Nat.min_le_right _ _⟩
theorem idx_cut {a b : Int} {n : Nat} (ha : 0 ≤ a) (hb : 0 ≤ b) : strSliceIndices (some a) (some b) 1 n = strSliceIndices (some ((min a.toNat n : Nat) : Int)) (some ((max (min a.toNat n) (min b.toNat n) : Nat) : Int)) 1 n := by
  obtain ⟨a, rfl⟩ := Int.eq_ofNat_of_zero_le ha
  obtain ⟨b, rfl⟩ := Int.eq_ofNat_of_zero_le hb
  simp only [Int.toNat_natCast]
  have e : ∀ k : Nat, max (0 : Int) (min (k : Int) n) = ((min k n : Nat) : Int) := fun k => by rcases Nat.le_total k n with h | h; (rw [Nat.min_eq_left h, Int.min_eq_left (Int.ofNat_le.mpr h)]; exact Int.max_eq_right (Int.natCast_nonneg _)); (rw [Nat.min_eq_right h, Int.min_eq_right (Int.ofNat_le.mpr h)]; exact Int.max_eq_right (Int.natCast_nonneg _))
  have p : ∀ k : Nat, ¬ ((k : Int) < 0) := fun k => Int.not_lt.mpr (Int.natCast_nonneg _)
  simp only [strSliceIndices, sliceRange, p, if_false, e, show ((1 : Int) > 0) = True from by simp, if_true]
  rw [Nat.min_eq_left (Nat.min_le_right a n), Nat.min_eq_left (nat_le_max_min a b n)]
  rcases Nat.lt_or_ge (min a n) (min b n) with h | h
  · rw [Nat.max_eq_right (Nat.le_of_lt h)]
  · rw [Nat.max_eq_left h, if_neg (Int.lt_irrefl _), if_neg (Int.not_lt.mpr (Int.ofNat_le.mpr h))]
theorem take_cut {l : List Nat} {a b n : Nat} (hl : l.length = n) : (l.drop (min a n)).take (max (min a n) (min b n) - min a n) = (l.drop a).take (b - a) := by
  rcases Nat.lt_or_ge n a with h | h
  · rw [Nat.min_eq_right (Nat.le_of_lt h), List.drop_eq_nil_of_le (Nat.le_of_eq hl), List.drop_eq_nil_of_le (hl ▸ Nat.le_of_lt h), List.take_nil, List.take_nil]
  · rw [Nat.min_eq_left h, List.take_eq_take_iff, List.length_drop, hl]
    rcases Nat.le_total b n with h2 | h2
    · rw [Nat.min_eq_left h2]
      rcases Nat.le_total a b with h3 | h3
      · rw [Nat.max_eq_right h3]
      · rw [Nat.max_eq_left h3, Nat.sub_self, Nat.sub_eq_zero_of_le h3]
    · rw [Nat.min_eq_right h2, Nat.max_eq_right h, Nat.min_self, Nat.min_eq_right (Nat.sub_le_sub_right h2 a)]
theorem all_cut {l : List Nat} {a b n : Nat} (hl : l.length = n) (h : max (min a n) (min b n) - min a n = n) : l = (l.take b).drop a := by
  rw [List.drop_take, ← take_cut hl, h, List.take_of_length_le (by rw [List.length_drop, hl]; exact Nat.sub_le _ _)]
  rcases Nat.eq_zero_or_pos n with hz | hz
  · rw [List.length_eq_zero_iff.mp (hl.trans hz), List.drop_nil]
  · have h2 := Nat.sub_le_sub_right (nat_le_max_min a b n) (min a n)
    rw [h] at h2
    have h3 : min a n = 0 := by omega
    rw [h3, List.drop_zero]
theorem cps_slice {T : Str} {a b : Int} (ha : 0 ≤ a) (hb : 0 ≤ b) : (Txt.slice T (some a) (some b)).cps.toList = (T.cps.toList.take b.toNat).drop a.toNat := by
  have hT : T.cps.toList.length = T.length := by simp [Str.length]
  unfold Txt.slice
  split
  · rename_i h
    have h1 : (strSliceIndices (some a) (some b) 1 T.length).length = T.length := by simpa using h
    rw [idx_cut ha hb, StrLaws.strSliceIndices_plain (Nat.le_max_left _ _) (nat_le_max_min _ _ _), List.length_map, List.length_range] at h1
    exact all_cut hT h1
  · rw [idx_cut ha hb, StrLaws.sliced_plain T (Nat.le_max_left _ _) (nat_le_max_min _ _ _), take_cut hT, List.drop_take]
theorem len_slice {T : Str} {a b : Int} (ha : 0 ≤ a) (hb : 0 ≤ b) : (Txt.slice T (some a) (some b)).length = min b.toNat T.length - a.toNat := by
  have : (Txt.slice T (some a) (some b)).length = (Txt.slice T (some a) (some b)).cps.toList.length := by simp [Str.length]
  rw [this, cps_slice ha hb, List.length_drop, List.length_take]
  simp [Str.length]
theorem q_len {T x : Str} {k : Int} (_h0 : 0 ≤ k) (hx : x.length = 1) (h : (Txt.slice T (some k) (some (k+1)) != x) = false) : (Txt.slice T (some k) (some (k+1))).length = 1 := by
  have : Txt.slice T (some k) (some (k+1)) = x := by simpa using h
  rw [this, hx]
theorem q_fits {T x : Str} {k : Int} (h0 : 0 ≤ k) (hx : x.length = 1) (h : (Txt.slice T (some k) (some (k+1)) != x) = false) : k + 1 ≤ T.length := by
  have := q_len h0 hx h
  rw [len_slice h0 (by omega)] at this
  omega
end Mine
end
theorem Mine.resetYCur5 : True := by w_top off; k_with_none; exact trivial
section
open PySem PySem.Spec PySem.Calls PyProof.Rows PySem.W
namespace Mine
def spEnd (T : Str) (k : Int) : Int := k + ((T.cps.toList.drop k.toNat).takeWhile (fun c => spaceB (Str.mk #[c]))).length
theorem item_get {T : Str} {k : Int} (h0 : 0 ≤ k) (h1 : k.toNat < T.cps.toList.length) : Txt.item T k = Str.mk #[T.cps.toList[k.toNat]] := by
  unfold Txt.item Txt.charAt seqIndex?
  have h2 : k < T.length := by have : T.length = T.cps.toList.length := by simp [Str.length]
                               omega
  simp at h1
  simp [h0, h1, h2, Int.not_lt.mpr h0, Array.getElem?_eq_getElem]
theorem spEnd_on {T : Str} {k : Int} (h0 : 0 ≤ k) (h1 : k < T.length) (h : spaceB (Txt.item T k) = true) : spEnd T (k + 1) = spEnd T k := by
  have hl : k.toNat < T.cps.toList.length := by simp [Str.length] at h1 ⊢; omega
  unfold spEnd
  rw [List.drop_eq_getElem_cons hl, List.takeWhile_cons, ← item_get h0 hl, if_pos h, show (k + 1).toNat = k.toNat + 1 by omega, List.length_cons]
  omega
theorem spEnd_off {T : Str} {k : Int} (h0 : 0 ≤ k) (h1 : k < T.length) (h : spaceB (Txt.item T k) ≠ true) : spEnd T k = k := by
  have hl : k.toNat < T.cps.toList.length := by simp [Str.length] at h1 ⊢; omega
  unfold spEnd
  rw [List.drop_eq_getElem_cons hl, List.takeWhile_cons, ← item_get h0 hl, if_neg h, List.length_nil]
  omega
theorem spEnd_over {T : Str} {k : Int} (h1 : T.length ≤ k) : spEnd T k = k := by
  unfold spEnd
  rw [List.drop_of_length_le (by simp [Str.length] at h1 ⊢; omega), List.takeWhile_nil, List.length_nil]
  omega
theorem spEnd_ge {T : Str} {k : Int} : k ≤ spEnd T k := by unfold spEnd; omega
theorem spEnd_le {T : Str} {k : Int} (h0 : 0 ≤ k) (h : k ≤ T.length) : spEnd T k ≤ T.length := by
  unfold spEnd
  have := (List.takeWhile_sublist (fun c => spaceB (Str.mk #[c])) (l := T.cps.toList.drop k.toNat)).length_le
  simp [Str.length] at h this ⊢
  omega
section
variable {prog : Program} {w : World} {A : Around} {E : Value → Shared → Prop} {s : Shared} {env : Env} {test : PySem.Expr} {body orelse : List Stmt} {Q : Flow → Shared → Prop}
theorem while_led {σ : Type} {g : Heap} {L : Addr} {mm : Str → Option Value} {l₀ : Led} (μ : σ → Nat) (I : σ → Led → Prop) (c₀ : σ) (F : Fr g L s.heap mm) (N : News g L s.heap l₀) (hI : I c₀ l₀) (hE : PassesOwn (model prog w) A env E)
    (turn : ∀ c l h tk, I c l → Fr g L h mm → News g L h l → wpAny (model prog w) A (isTrue test env (eval test env)) (fun b s₂ => WhlIf b (wpAny (model prog w) A (execs body env) (TurnOver s μ (fun c h _ => ∃ l, I c l ∧ Fr g L h mm ∧ News g L h l) Q c) E s₂) (wpAny (model prog w) A (execs orelse env) Q E s₂)) E { s with heap := h, toks := tk }) {pos : Pos} :
    wpAny (model prog w) A (exec (.While test body orelse pos) env) Q E s := by
  refine while_start (pos := pos) (h := s.heap) (tk := s.toks) ?_
  exact while_by (s := s) μ (fun c h _ => ∃ l, I c l ∧ Fr g L h mm ∧ News g L h l) hE (fun c h tk ⟨l, a, b, e⟩ => turn c l h tk a b e) c₀ s.heap s.toks ⟨l₀, hI, F, N⟩
end
def Halt (p : Prop) : Prop := p
theorem halt {p : Prop} (h : Halt p) : p := h
section
set_option maxRecDepth 100000
set_option maxHeartbeats 8000000
variable (w : World) (mean : ExcName → Option Value) (mg mb : Str → Option Value) (c d : Addr) (h1 h2 : Int) (t1 t2 tt ti : Tok) (T : Str) (k : Int) (rest : Led)
theorem s_spaces (hcd : c ≠ d) (hne : ∀ p ∈ rest, p.1 ≠ d) (hk0 : 0 ≤ k) (hkT : k ≤ T.length) (hT : T.length < 1000000) : Spec w mean mg mb 7 244 [.ref c] (curLed c d h1 h2 t1 t2 T tt k ti rest) rest
     (fun v l => (∃ t, v = .int (spEnd T k - k) t) ∧ ∃ t, l = curLed c d h1 h2 t1 t2 T tt (spEnd T k) t rest) (fun _ => False) := by
  k_with_none
  (k_with "ktr_room" => (simp only [depth_under_make, depth_under_kw, depth_in1, depth_deeper, depth_caller, units_in1, units_deeper, Around.mark_units, units_caller] at *; dsimp only [around, aroundE] at *; (try simp only [recursionLimit, cLine] at *); omega))
  (k_with "exec Raise some none" => (k_here; k_dflt (refine' raise_made ?zqX ?zqq ?zqhh ?_; (case zqX => k_asm); (case zqq => kts_isx); (case zqhh => exact rfl); k_whole)))
  (k_with "call ref" => (k_here; (with_reducible show wpAny _ _ (call (Value.ref 122) _) _ _ _); k_dflt (refine' fault_in ?zqB ?zqF ?zqX ?zqN ?zqT ?zqf ?zqk ?zqd ?zqu ?_; (case zqf => first | exact rfl | assumption); (case zqB => k_asm); (case zqF => k_asm); (case zqX => k_asm); (case zqN => k_asm); (case zqT => k_asm); (case zqk => first | exact rfl | assumption); (case zqd => ktr_room); (case zqu => ktr_room); k_whole); intro e'Z dx'Z tu'Z h'Z tk'Z h1'Z h2'Z t1'Z t2'Z n'Z F'Z N'Z ne'Z; (try k_sweep)))
  (k_with "Thrown" => (k_here; k_dflt (refine' thrown_ ?zqF ?zqX ?zqN ?zqm ?_; (case zqF => k_asm); (case zqX => k_asm); (case zqN => k_asm); (case zqm => k_mem); k_whole)))
  (k_with "leaving ref" => (k_here; k_dflt (refine' raise_leaves ?zqK ?zqF ?zqN ?zqne ?zqc ?zqx ?zqd ?zqo ?_ ?zqk; (case zqF => assumption); (case zqN => assumption); (case zqK => assumption); (case zqne => assumption); (case zqc => exact rfl); (case zqx => exact rfl); (case zqd => exact rfl); (case zqo => exact rfl); (case zqk => exact rfl); k_whole); intro h'Z R'Z U'Z; (try dsimp only at R'Z U'Z ⊢)))
  (k_with "cell_enter" => (refine' code_def ?zqk1 ?zqk2 ?zqk3 ?zqk4 ?zqk5 ?zqkA ?zqkF ?zqkK ?zqk6 ?zqk7 ?zqk8 ?zqk9 ?zqkB ?_ ?zqc2 ?zqc3 ?zqc4 ?zqc5; (case zqkA => exact rfl); (case zqkF => first | exact rfl | assumption); (case zqkK => assumption); (case zqk1 => k_asm); (case zqk2 => k_asm); (case zqk3 => k_asm); (case zqk4 => k_asm); (case zqk5 => k_asm); (case zqk6 => k_is); (case zqk7 => k_is); (case zqk8 => ktr_room); (case zqk9 => first | exact BindsTo.of_eq rfl | exact binds_K (by k_in) rfl (by k_is) rfl rfl rfl); (case zqc5 => decide); (case zqkB => exact locs rfl); (case zqc2 => exact rfl); (case zqc3 => exact rfl); (case zqc4 => exact rfl); k_whole; intro g'Z L'Z h'Z FG'Z F'Z N'Z B'Z X'Z T'Z; (try dsimp only); (try k_lift B'Z); (try k_fold)))
  (k_with "leaving ref" => (k_here; k_dflt (refine' pass_leaves ?zqK ?zqF ?zqR ?zqU ?_; (case zqR => assumption); (case zqF => assumption); (case zqK => assumption); (case zqU => assumption); k_whole); intro h'Z R'Z U'Z; (try dsimp only at R'Z U'Z ⊢)))
  (k_with "tb_rel" => first | exact subSelf | exact subNil | (refine subCons ?zqa ?zqb; (case zqa => k_mem); (case zqb => tb_rel)) | (refine subInto ?_; tb_rel))
  (k_with "kts_go" => (refine' code_defS ?zqk1 ?zqk2 ?zqk3 ?zqk4 ?zqk5 ?zqXB ?zqTB ?zqD ?zqT0 ?zqkA ?zqk6 ?zqk7 ?zqk8 ?zqk9 ?zqkB ?_ ?zqcK ?zqc2 ?zqc3 ?zqc4 ?zqc5; (case zqkA => exact rfl); (case zqk2 => k_asm); (case zqk1 => k_asm); (case zqXB => assumption); (case zqTB => assumption); (case zqD => assumption); (case zqT0 => first | assumption | exact KtsTurn.refl); (case zqk3 => k_asm); (case zqk4 => k_asm); (case zqk5 => k_asm); (case zqk6 => k_is); (case zqk7 => k_is); (case zqk8 => ktr_room); (case zqk9 => first | exact BindsTo.of_eq rfl | exact binds_K (by k_in) rfl (by k_is) rfl rfl rfl | fail "kts_go: no rule for these arguments"); (case zqkB => exact locs rfl); (case zqcK => assumption); (case zqc2 => exact rfl); (case zqc3 => exact rfl); (case zqc4 => exact rfl); (case zqc5 => decide); k_whole; intro g'Z L'Z h'Z FG'Z F'Z N'Z B'Z X'Z T'Z D'Z; (try dsimp only); (try k_lift B'Z); (try k_fold)))
  (k_with "noteFrame ref" => (k_here; k_dflt (refine' caught_as ?zqR ?zqF ?zqK ?zqU ?zqXB ?zqTB ?zqD ?zqT0 ?zqex ?zqq ?_; (case zqR => assumption); (case zqF => assumption); (case zqK => assumption); (case zqU => assumption); (case zqXB => assumption); (case zqTB => assumption); (case zqD => assumption); (case zqT0 => first | assumption | exact KtsTurn.refl); (case zqq => kts_isx); (case zqex => k_is); k_whole); intro h'Z g'Z oeZ vsZ tk'Z T'Z F'Z hcZ hxZ hdZ N'Z K'Z X'Z P'Z D'Z; (try k_lift K'Z); (try k_sweep)))
  (k_with "exec While" => refine halt ?_)
  (k_with "call ref" => (k_here; (with_reducible show wpAny _ _ (call (Value.ref 56) _) _ _ _); k_dflt (refine' Spec.use (s_is_space _ _ _ _ _ _ _) ?zqB ?zqF ?zqX ?zqN ?zqT ?zqf ?zqk ?zqd ?zqu ?_ ?zqexc; (case zqf => first | exact rfl | assumption); (case zqB => k_asm); (case zqF => k_asm); (case zqX => k_asm); (case zqN => first | assumption | exact front1 (by assumption) | exact front2 (by assumption) | exact front3 (by assumption)); (case zqT => k_asm); (case zqk => first | exact rfl | assumption); (case zqd => ktr_room); (case zqu => ktr_room); (case zqexc => (intro kZ eZ dxZ gZ h'Z tk'Z h1Z h2Z t1Z t2Z nZ v1Z uZ hEZ; exact hEZ.elim)); (intro vZ lZ h'Z tk'Z hRZ F'Z N'Z; (try dsimp only at hRZ); obtain ⟨e1Z, e2Z⟩ := hRZ; subst e1Z; subst e2Z; (try k_sweep); (try dsimp only)))))
  (k_with "subscriptTail" => (k_here; (with_reducible show wpAny _ _ (subscriptTail _ _ (Value.str _ _) (Value.int _ _)) _ _ _); (refine KXi.item rfl (by omega) (by omega) (by omega) ?_); intro kxiEZ))
  unfold Spec
  k_fill
  intro dp un gd env outer A₀ base h₀ L m s Q E B F X N TP hf hk hdp hun hret hexc
  dsimp only [curLed] at N
  refine wpAny_call ?_
  k_dflt cell_enter
  k_steps
  unfold Halt
  refine' while_led (σ := Int) (fun p => ((T.length : Int) - p).toNat) (fun p l => ∃ t, l = curLed c d h1 h2 t1 t2 T tt p t rest ∧ k ≤ p ∧ p ≤ T.length ∧ spEnd T p = spEnd T k) k ?F ?N ?I ?E ?turn
  (case F => assumption)
  (case N => assumption)
  (case I => exact ⟨_, rfl, by omega, by omega, rfl⟩)
  (case E => first | passes_own | with_unfolding_all passes_own)
  intro p l h tk hI F1 N1
  obtain ⟨t, e1, hkp, hpT, hsp⟩ := hI
  subst e1
  dsimp only
  k_steps
  · have hc : (if (Txt.item T p).length = 1 then spaceB (Txt.item T p) else false) = true := by assumption
    rw [if_pos (show (Txt.item T p).length = 1 from rfl)] at hc
    refine' ⟨p + 1, _, _, ?m, rfl, _, ⟨_, rfl, ?a, ?b, ?c⟩, ?F1, ?N1⟩
    (case F1 => assumption)
    (case N1 => assumption)
    (case m => (dsimp only; omega))
    (case a => omega)
    (case b => omega)
    (case c => rw [spEnd_on (by omega) (by assumption) hc, hsp])
  · have hc : (if (Txt.item T p).length = 1 then spaceB (Txt.item T p) else false) = false := by assumption
    rw [if_pos (show (Txt.item T p).length = 1 from rfl)] at hc
    have e : spEnd T k = p := by rw [← hsp]; exact spEnd_off (by omega) (by assumption) (by rw [hc]; decide)
    refine' hret _ _ _ _ ⟨⟨_, ?v2⟩, ⟨_, ?l2⟩⟩ ?F2 ?N2
    (case F2 => assumption)
    (case N2 => assumption)
    (case v2 => rw [e])
    (case l2 => rw [e])
  · have e : spEnd T k = p := by rw [← hsp]; exact spEnd_over (by omega)
    refine' hret _ _ _ _ ⟨⟨_, ?v3⟩, ⟨_, ?l3⟩⟩ ?F3 ?N3
    (case F3 => assumption)
    (case N3 => assumption)
    (case v3 => rw [e])
    (case l3 => rw [e])
end
end Mine
end
theorem Mine.resetYCur6 : True := by w_top off; k_with_none; exact trivial
section
open PySem PySem.Spec PySem.Calls PyProof.Rows PySem.W
namespace Mine
theorem lt_thousand {n : Nat} (h : n = 1) : n < 1000 := by omega
set_option maxRecDepth 100000
set_option maxHeartbeats 8000000
section
variable (w : World) (mean : ExcName → Option Value) (mg mb : Str → Option Value) (c d : Addr) (h1 h2 : Int) (t1 t2 tt ti : Tok) (T : Str) (k : Int) (rest : Led)
theorem s_need (hcd : c ≠ d) (hne : ∀ p ∈ rest, p.1 ≠ d) (hk0 : 0 ≤ k) (hkT : k ≤ T.length) (hT : T.length < 1000000) : Spec w mean mg mb 6 251 [.ref c] (curLed c d h1 h2 t1 t2 T tt k ti rest) rest
     (fun v l => v = .none ∧ spEnd T k ≠ k ∧ ∃ t, l = curLed c d h1 h2 t1 t2 T tt (spEnd T k) t rest) (fun p => spEnd T k = k ∧ p = k) := by
  k_with_none
  (k_with "ktr_room" => (simp only [depth_under_make, depth_under_kw, depth_in1, depth_deeper, depth_caller, units_in1, units_deeper, Around.mark_units, units_caller] at *; dsimp only [around, aroundE] at *; (try simp only [recursionLimit, cLine] at *); omega))
  (k_with "exec Raise some none" => (k_here; k_dflt (refine' raise_made ?zqX ?zqq ?zqhh ?_; (case zqX => k_asm); (case zqq => kts_isx); (case zqhh => exact rfl); k_whole)))
  (k_with "call ref" => (k_here; (with_reducible show wpAny _ _ (call (Value.ref 122) _) _ _ _); k_dflt (refine' fault_in ?zqB ?zqF ?zqX ?zqN ?zqT ?zqf ?zqk ?zqd ?zqu ?_; (case zqf => first | exact rfl | assumption); (case zqB => k_asm); (case zqF => k_asm); (case zqX => k_asm); (case zqN => k_asm); (case zqT => k_asm); (case zqk => first | exact rfl | assumption); (case zqd => ktr_room); (case zqu => ktr_room); k_whole); intro e'Z dx'Z tu'Z h'Z tk'Z h1'Z h2'Z t1'Z t2'Z n'Z F'Z N'Z ne'Z; (try k_sweep)))
  (k_with "Thrown" => (k_here; k_dflt (refine' thrown_ ?zqF ?zqX ?zqN ?zqm ?_; (case zqF => k_asm); (case zqX => k_asm); (case zqN => k_asm); (case zqm => k_mem); k_whole)))
  (k_with "leaving ref" => (k_here; k_dflt (refine' raise_leaves ?zqK ?zqF ?zqN ?zqne ?zqc ?zqx ?zqd ?zqo ?_ ?zqk; (case zqF => assumption); (case zqN => assumption); (case zqK => assumption); (case zqne => assumption); (case zqc => exact rfl); (case zqx => exact rfl); (case zqd => exact rfl); (case zqo => exact rfl); (case zqk => exact rfl); k_whole); intro h'Z R'Z U'Z; (try dsimp only at R'Z U'Z ⊢)))
  (k_with "cell_enter" => (refine' code_def ?zqk1 ?zqk2 ?zqk3 ?zqk4 ?zqk5 ?zqkA ?zqkF ?zqkK ?zqk6 ?zqk7 ?zqk8 ?zqk9 ?zqkB ?_ ?zqc2 ?zqc3 ?zqc4 ?zqc5; (case zqkA => exact rfl); (case zqkF => first | exact rfl | assumption); (case zqkK => assumption); (case zqk1 => k_asm); (case zqk2 => k_asm); (case zqk3 => k_asm); (case zqk4 => k_asm); (case zqk5 => k_asm); (case zqk6 => k_is); (case zqk7 => k_is); (case zqk8 => ktr_room); (case zqk9 => first | exact BindsTo.of_eq rfl | exact binds_K (by k_in) rfl (by k_is) rfl rfl rfl); (case zqc5 => decide); (case zqkB => exact locs rfl); (case zqc2 => exact rfl); (case zqc3 => exact rfl); (case zqc4 => exact rfl); k_whole; intro g'Z L'Z h'Z FG'Z F'Z N'Z B'Z X'Z T'Z; (try dsimp only); (try k_lift B'Z); (try k_fold)))
  (k_with "leaving ref" => (k_here; k_dflt (refine' pass_leaves ?zqK ?zqF ?zqR ?zqU ?_; (case zqR => assumption); (case zqF => assumption); (case zqK => assumption); (case zqU => assumption); k_whole); intro h'Z R'Z U'Z; (try dsimp only at R'Z U'Z ⊢)))
  (k_with "tb_rel" => first | exact subSelf | exact subNil | (refine subCons ?zqa ?zqb; (case zqa => k_mem); (case zqb => tb_rel)) | (refine subInto ?_; tb_rel))
  (k_with "kts_go" => (refine' code_defS ?zqk1 ?zqk2 ?zqk3 ?zqk4 ?zqk5 ?zqXB ?zqTB ?zqD ?zqT0 ?zqkA ?zqk6 ?zqk7 ?zqk8 ?zqk9 ?zqkB ?_ ?zqcK ?zqc2 ?zqc3 ?zqc4 ?zqc5; (case zqkA => exact rfl); (case zqk2 => k_asm); (case zqk1 => k_asm); (case zqXB => assumption); (case zqTB => assumption); (case zqD => assumption); (case zqT0 => first | assumption | exact KtsTurn.refl); (case zqk3 => k_asm); (case zqk4 => k_asm); (case zqk5 => k_asm); (case zqk6 => k_is); (case zqk7 => k_is); (case zqk8 => ktr_room); (case zqk9 => first | exact BindsTo.of_eq rfl | exact binds_K (by k_in) rfl (by k_is) rfl rfl rfl | fail "kts_go: no rule for these arguments"); (case zqkB => exact locs rfl); (case zqcK => assumption); (case zqc2 => exact rfl); (case zqc3 => exact rfl); (case zqc4 => exact rfl); (case zqc5 => decide); k_whole; intro g'Z L'Z h'Z FG'Z F'Z N'Z B'Z X'Z T'Z D'Z; (try dsimp only); (try k_lift B'Z); (try k_fold)))
  (k_with "noteFrame ref" => (k_here; k_dflt (refine' caught_as ?zqR ?zqF ?zqK ?zqU ?zqXB ?zqTB ?zqD ?zqT0 ?zqex ?zqq ?_; (case zqR => assumption); (case zqF => assumption); (case zqK => assumption); (case zqU => assumption); (case zqXB => assumption); (case zqTB => assumption); (case zqD => assumption); (case zqT0 => first | assumption | exact KtsTurn.refl); (case zqq => kts_isx); (case zqex => k_is); k_whole); intro h'Z g'Z oeZ vsZ tk'Z T'Z F'Z hcZ hxZ hdZ N'Z K'Z X'Z P'Z D'Z; (try k_lift K'Z); (try k_sweep)))
  (k_with "call ref" => (k_here; (with_reducible show wpAny _ _ (call (Value.ref 201) _) _ _ _); k_dflt (refine' Spec.use (s_fault _ _ _ _ _ _ _ _ _ _ _ _ _ _ _ _ _) ?zqB ?zqF ?zqX ?zqN ?zqT ?zqf ?zqk ?zqd ?zqu ?zqret ?_; (case zqf => first | exact rfl | assumption); (case zqB => k_asm); (case zqF => k_asm); (case zqX => k_asm); (case zqN => first | assumption | exact front1 (by assumption) | exact front2 (by assumption) | exact front3 (by assumption)); (case zqT => k_asm); (case zqk => first | exact rfl | assumption); (case zqd => ktr_room); (case zqu => ktr_room); (case zqret => (intro vZ lZ h'Z tk'Z hRZ; exact hRZ.elim)); (intro kZ eZ dxZ gZ h'Z tk'Z h1Z h2Z t1Z t2Z nZ v1Z uZ hEZ F'Z U'Z R'Z; (try dsimp only at hEZ); have e1Z := hEZ; subst e1Z; (try k_sweep); (try dsimp only)))))
  (k_with "call ref" => (k_here; (with_reducible show wpAny _ _ (call (Value.ref 244) _) _ _ _); k_dflt (refine' Spec.use (s_spaces _ _ _ _ _ _ _ _ _ _ _ _ _ _ _ ?zqp1 ?zqp2 ?zqp3 ?zqp4 ?zqp5) ?zqB ?zqF ?zqX ?zqN ?zqT ?zqf ?zqk ?zqd ?zqu ?_ ?zqexc; (case zqf => first | exact rfl | assumption); (case zqB => k_asm); (case zqF => k_asm); (case zqX => k_asm); (case zqN => first | assumption | exact front1 (by assumption) | exact front2 (by assumption) | exact front3 (by assumption)); (case zqT => k_asm); (case zqk => first | exact rfl | assumption); (case zqd => ktr_room); (case zqu => ktr_room); (case zqp1 => assumption); (case zqp2 => assumption); (case zqp3 => omega); (case zqp4 => omega); (case zqp5 => omega); (case zqexc => (intro kZ eZ dxZ gZ h'Z tk'Z h1Z h2Z t1Z t2Z nZ v1Z uZ hEZ; exact hEZ.elim)); (intro vZ lZ h'Z tk'Z hRZ F'Z N'Z; (try dsimp only at hRZ); obtain ⟨⟨_, e1Z⟩, _, e2Z⟩ := hRZ; subst e1Z; subst e2Z; (try k_sweep); (try dsimp only)))))
  unfold Spec
  k_fill
  intro dp un gd env outer A₀ base h₀ L m s Q E B F X N TP hf hk hdp hun hret hexc
  dsimp only [curLed] at N
  refine wpAny_call ?_
  k_dflt cell_enter
  k_steps
  · refine' hexc _ _ _ _ _ _ _ _ _ _ _ _ _ ⟨?v, ?w⟩ ?F ?U (Raised.mono ?R ?S)
    (case R => assumption)
    (case F => assumption)
    (case U => assumption)
    (case S => tb_rel)
    (case v => omega)
    (case w => omega)
  · refine' hret _ _ _ _ ⟨rfl, ?v2, ⟨_, rfl⟩⟩ ?F2 ?N2
    (case F2 => assumption)
    (case N2 => assumption)
    (case v2 => omega)
def quoteAt (T : Str) (k : Int) : Str := Txt.slice T (some k) (some (k + 1))
def quoteB (T : Str) (k : Int) : Bool := !(quoteAt T k != Str.ofString "\"" && quoteAt T k != Str.ofString "'")
def quoteEnd (T : Str) (k : Int) : Int := Txt.find3 T (quoteAt T k) (k + 1)
def quoteOut (T : Str) (k : Int) : Int := quoteEnd T k + (quoteAt T k).length
abbrev pairObj (v1 v2 : Value) : Obj := { cls := .type "tuple", data := .seq #[v1, v2] }
theorem quote_is {T : Str} {k : Int} (h : quoteB T k = true) : quoteAt T k = ⟨#[34]⟩ ∨ quoteAt T k = ⟨#[39]⟩ := by
  unfold quoteB at h
  have e1 : Str.ofString "\"" = ⟨#[34]⟩ := rfl
  have e2 : Str.ofString "'" = ⟨#[39]⟩ := rfl
  rw [e1, e2] at h
  by_cases a : quoteAt T k = ⟨#[34]⟩
  · exact .inl a
  · by_cases b : quoteAt T k = ⟨#[39]⟩
    · exact .inr b
    · simp [a, b] at h
theorem quote_bounds {T : Str} {k : Int} (h : quoteB T k = true) (h0 : 0 ≤ k) (h1 : 0 ≤ quoteEnd T k) : k + 1 ≤ quoteEnd T k ∧ quoteOut T k = quoteEnd T k + 1 ∧ quoteEnd T k + 1 ≤ T.length := by
  have main : ∀ c, quoteAt T k = ⟨#[c]⟩ → k + 1 ≤ quoteEnd T k ∧ quoteOut T k = quoteEnd T k + 1 ∧ quoteEnd T k + 1 ≤ T.length := by
    intro c hc
    have hl : (quoteAt T k).length = 1 := by rw [hc]; rfl
    refine ⟨?_, ?_, ?_⟩
    · unfold quoteEnd at h1 ⊢
      rw [hc] at h1 ⊢
      have hk : k + 1 ≤ T.length := by
        unfold quoteAt at hl; rw [len_slice h0 (by omega)] at hl; omega
      rcases StrLaws.find3_spec T c (k + 1) with ⟨e, -⟩ | ⟨j, e, hj, -⟩
      · rw [e] at h1; omega
      · rw [e]
        have : fromIndex T.length (k + 1) = (k + 1).toNat := by unfold fromIndex; omega
        rw [this] at hj; omega
    · unfold quoteOut; rw [hl]; rfl
    · unfold quoteEnd at h1 ⊢
      rw [hc] at h1 ⊢
      rcases StrLaws.find3_spec T c (k + 1) with ⟨e, -⟩ | ⟨j, e, -, hj, -⟩
      · rw [e] at h1; omega
      · rw [e]; omega
  rcases quote_is h with e | e
  · exact main _ e
  · exact main _ e
theorem s_quoted (hcd : c ≠ d) (hne : ∀ p ∈ rest, p.1 ≠ d) (hk0 : 0 ≤ k) (hkT : k ≤ T.length) (hT : T.length < 1000000) : Spec w mean mg mb 6 265 [.ref c] (curLed c d h1 h2 t1 t2 T tt k ti rest) rest
     (fun v l => (quoteB T k = true ∧ 0 ≤ quoteEnd T k) ∧ ∃ q t ta tb, v = .ref q ∧ AllLt q (curLed c d h1 h2 t1 t2 T tt (quoteOut T k) t rest) ∧ l = (q, pairObj (.str (Txt.slice T (some (k + 1)) (some (quoteEnd T k))) ta) (.int (k + 1) tb)) :: curLed c d h1 h2 t1 t2 T tt (quoteOut T k) t rest)
     (fun p => (quoteB T k = false ∧ p = k) ∨ (quoteB T k = true ∧ quoteEnd T k < 0 ∧ p = k + 1)) := by
  (k_with "call ref" => (k_here; (with_reducible show wpAny _ _ (call (Value.ref 187) _) _ _ _); k_dflt (refine' Spec.use (s_peek _ _ _ _ _ _ _ _ _ _ _ _ _ _ _ ?zqp1 ?zqp2 ?zqp3 ?zqp4) ?zqB ?zqF ?zqX ?zqN ?zqT ?zqf ?zqk ?zqd ?zqu ?_ ?zqexc; (case zqf => first | exact rfl | assumption); (case zqB => k_asm); (case zqF => k_asm); (case zqX => k_asm); (case zqN => first | assumption | exact front1 (by assumption) | exact front2 (by assumption) | exact front3 (by assumption)); (case zqT => k_asm); (case zqk => first | exact rfl | assumption); (case zqd => ktr_room); (case zqu => ktr_room); (case zqp1 => assumption); (case zqp2 => omega); (case zqp3 => omega); (case zqp4 => omega); (case zqexc => (intro kZ eZ dxZ gZ h'Z tk'Z h1Z h2Z t1Z t2Z nZ v1Z uZ hEZ; exact hEZ.elim)); (intro vZ lZ h'Z tk'Z hRZ F'Z N'Z; (try dsimp only at hRZ); obtain ⟨⟨_, e1Z⟩, e2Z⟩ := hRZ; subst e1Z; subst e2Z; (try k_sweep); (try dsimp only)))))
  (k_with "call ref" => (k_here; (with_reducible show wpAny _ _ (call (Value.ref 230) _) _ _ _); k_dflt (refine' Spec.use (s_until _ _ _ _ _ _ _ _ _ _ _ _ _ _ _ _ _ ?zqp1 ?zqp2 ?zqp3 ?zqp4 ?zqp5 ?zqp6) ?zqB ?zqF ?zqX ?zqN ?zqT ?zqf ?zqk ?zqd ?zqu ?_ ?_; (case zqf => first | exact rfl | assumption); (case zqB => k_asm); (case zqF => k_asm); (case zqX => k_asm); (case zqN => first | assumption | exact front1 (by assumption) | exact front2 (by assumption) | exact front3 (by assumption)); (case zqT => k_asm); (case zqk => first | exact rfl | assumption); (case zqd => ktr_room); (case zqu => ktr_room); (case zqp1 => assumption); (case zqp2 => assumption); (case zqp3 => omega); (case zqp5 => assumption); (case zqp4 => first | exact q_fits (x := Str.ofString "'") (by assumption) rfl (by assumption) | exact q_fits (x := Str.ofString "\"") (by assumption) rfl (by assumption)); (case zqp6 => first | exact lt_thousand (q_len (x := Str.ofString "'") (by assumption) rfl (by assumption)) | exact lt_thousand (q_len (x := Str.ofString "\"") (by assumption) rfl (by assumption))); rotate_left; (intro kZ eZ dxZ gZ h'Z tk'Z h1Z h2Z t1Z t2Z nZ v1Z uZ hEZ F'Z U'Z R'Z; (try dsimp only at hEZ); obtain ⟨hfZ, e1Z⟩ := hEZ; subst e1Z; (try k_sweep); (try dsimp only)); rotate_right; (intro vZ lZ h'Z tk'Z hRZ F'Z N'Z; (try dsimp only at hRZ); obtain ⟨hfZ, ⟨_, e1Z⟩, _, e2Z⟩ := hRZ; subst e1Z; subst e2Z; (try k_sweep); (try dsimp only)))))
  unfold Spec
  k_fill
  intro dp un gd env outer A₀ base h₀ L m s Q E B F X N TP hf hk hdp hun hret hexc
  dsimp only [curLed] at N
  refine wpAny_call ?_
  k_dflt cell_enter
  k_steps
  · (rename (_ != Str.ofString "\"") = _ => q1)
    (rename (_ != Str.ofString "'") = _ => q2)
    refine' hexc _ _ _ _ _ _ _ _ _ _ _ _ _ (.inl ⟨?v, rfl⟩) ?F ?U (Raised.mono ?R ?S)
    (case R => assumption)
    (case F => assumption)
    (case U => assumption)
    (case S => tb_rel)
    (case v => (unfold quoteB quoteAt; rw [q1, q2]; rfl))
  · (rename (_ != Str.ofString "\"") = _ => q1)
    (rename (_ != Str.ofString "'") = _ => q2)
    have qb : quoteB T k = true := by unfold quoteB quoteAt; rw [q1, q2]; rfl
    (rename 0 ≤ Txt.find3 _ _ _ => hf)
    refine' hret _ _ _ _ ⟨⟨qb, hf⟩, _, _, _, _, rfl, ?fr2, ?l2⟩ ?F2 ?N2
    (case F2 => assumption)
    (case N2 => assumption)
    (case l2 => rfl)
    (case fr2 => assumption)
  · (rename (_ != Str.ofString "\"") = _ => q1)
    (rename (_ != Str.ofString "'") = _ => q2)
    have qb : quoteB T k = true := by unfold quoteB quoteAt; rw [q1, q2]; rfl
    (rename Txt.find3 _ _ _ < 0 => hf)
    refine' hexc _ _ _ _ _ _ _ _ _ _ _ _ _ (.inr ⟨qb, hf, rfl⟩) ?F3 ?U3 (Raised.mono ?R3 ?S3)
    (case R3 => assumption)
    (case F3 => assumption)
    (case U3 => assumption)
    (case S3 => tb_rel)
  · (rename (_ != Str.ofString "\"") = _ => q1)
    have qb : quoteB T k = true := by unfold quoteB quoteAt; rw [q1]; rfl
    (rename 0 ≤ Txt.find3 _ _ _ => hf)
    refine' hret _ _ _ _ ⟨⟨qb, hf⟩, _, _, _, _, rfl, ?fr4, ?l4⟩ ?F4 ?N4
    (case F4 => assumption)
    (case N4 => assumption)
    (case l4 => rfl)
    (case fr4 => assumption)
  · (rename (_ != Str.ofString "\"") = _ => q1)
    have qb : quoteB T k = true := by unfold quoteB quoteAt; rw [q1]; rfl
    (rename Txt.find3 _ _ _ < 0 => hf)
    refine' hexc _ _ _ _ _ _ _ _ _ _ _ _ _ (.inr ⟨qb, hf, rfl⟩) ?F5 ?U5 (Raised.mono ?R5 ?S5)
    (case R5 => assumption)
    (case F5 => assumption)
    (case U5 => assumption)
    (case S5 => tb_rel)
end
end Mine
end
section
open PySem PySem.Spec PySem.Calls PyProof.Rows PySem.W
namespace Mine
open PyProof.V
section
variable {prog : Program} {w : World} {A : Around} {E : Value → Shared → Prop} {s : Shared} {env : Env} {h₀ : Heap} {x : Str} {body : List Stmt} {Q : Flow → Shared → Prop}
/-- behind a turn of a range's loop that changes no ledger -/
def RngTurn (h₀ : Heap) (L : Addr) (mm : Str → Option Value) (x : Str) (news own : Led) (P : Prop) (s : Shared) (Q : Flow → Shared → Prop) (f : Flow) (s₂ : Shared) : Prop :=
  match f with
  | .ret v => Q (.ret v) s₂
  | .brk => Q .next s₂
  | _ => ∃ h' tk' m', s₂ = { s with heap := h', toks := tk' } ∧ Fr h₀ L h' m' ∧ (∀ z, z ≠ x → m' z = mm z) ∧ News h₀ L h' (news ++ own) ∧ P
theorem range_led {r : Addr} {a₀ b₀ : Int} {t₀ u₀ v₀ : Tok} {mm : Str → Option Value} {news : Led} (J : Int → Prop)
    (hh : A.handled = none) (hr : IsRange s.heap r a₀ b₀ 1 t₀ u₀ v₀) (ha : -1000000000 ≤ a₀) (hab : a₀ ≤ b₀) (hb : b₀ ≤ 1000000000) (F : Fr h₀ env.locals s.heap mm) (N : News h₀ env.locals s.heap news) (hJ : J a₀)
    (turn : ∀ k t h tk own, a₀ ≤ k → k < b₀ → J k → Fr h₀ env.locals h (fun y => if y = x then some (.int k t) else mm y) → News h₀ env.locals h (news ++ own) →
      wpAny (model prog w) A (execs body env) (RngTurn h₀ env.locals mm x news own (J (k + 1)) { s with heap := h, toks := tk } Q) E { s with heap := h, toks := tk })
    (done : ∀ ov h tk, J b₀ → Fr h₀ env.locals h (fun y => if y = x then ov else mm y) → News h₀ env.locals h news → Q .next { s with heap := h, toks := tk }) :
    wpAny (model prog w) A (pyIter (.ref r)) (fun it s₂ => LoopAtV prog w A h₀ env x body Q E it s₂) E s := by
  obtain ⟨n, hn⟩ : ∃ n : Nat, b₀ = a₀ + n := ⟨(b₀ - a₀).toNat, by omega⟩
  have hsz : Builtin.Range.rangeSize a₀ b₀ 1 = (n : Int) := by rw [rangeSize_nat]; omega
  refine wpAny_pyIter_range hr (small_one (by omega) (by omega) (by omega) (by omega)) ?_
  have W : Walks prog w A s.heap.objs.size [s.heap.objs.size] [s.heap.objs.size] n (fun i v => i < n ∧ ∃ t, v = .int (a₀ + i * 1) t)
      (fun i h => IsRangeIter h s.heap.objs.size (a₀ + (i : Nat) * 1) ((n : Int) - (i : Nat)) 1) := (Walks.range hh _ a₀ 1 n).bound
  refine loop_invN (s := { s with heap := s.heap.push _ }) (fun i m nx => nx = news ∧ J (a₀ + (i : Int)) ∧ ∀ z, z ≠ x → m z = mm z) W ?_ ?_ ?_ ?_ (by show IsRangeIter _ _ _ _ _; rw [hsz]; simpa using Heap.get?_push_size _ rfl) (F.push _) (fun p hp => ⟨Heap.get?_push_of_some _ (N p hp).1, (N p hp).2⟩) ⟨rfl, by simpa using hJ, fun _ _ => rfl⟩ ?_ ?_
  · intro hm
    exact absurd F.ns.lt ((List.mem_singleton.mp hm) ▸ Nat.lt_irrefl _)
  · intro b hb
    rw [List.mem_singleton.mp hb]
    exact next_is_new F
  · intro p hp hI
    exact absurd (Heap.lt_size (N p hp).1) ((List.mem_singleton.mp hI) ▸ Nat.lt_irrefl _)
  · intro p hp hI
    exact absurd (Heap.lt_size (N p hp).1) ((List.mem_singleton.mp hI) ▸ Nat.lt_irrefl _)
  · rintro i v m₁ nx h tk own hi ⟨_, t, rfl⟩ _ _ ⟨rfl, hJ', hm⟩ F' N'
    have hmm : (fun y => if y = x then some (Value.int (a₀ + (i : Int) * 1) t) else m₁ y) = (fun y => if y = x then some (Value.int (a₀ + (i : Int) * 1) t) else mm y) := by
      funext y; by_cases hy : y = x
      · simp [hy]
      · simp [hy, hm y hy]
    rw [hmm] at F'
    refine wpAny_mono (turn (a₀ + (i : Int) * 1) t h tk own (by omega) (by omega) (by simpa using hJ') F' N') (fun f s₂ p => ?_) fun _ _ e => e
    have fin : (∃ h' tk' m', s₂ = { s with heap := h', toks := tk' } ∧ Fr h₀ env.locals h' m' ∧ (∀ z, z ≠ x → m' z = mm z) ∧ News h₀ env.locals h' (nx ++ own) ∧ J (a₀ + (i : Int) * 1 + 1)) →
        InvEndN h₀ env.locals ((fun i m nx' => nx' = nx ∧ J (a₀ + (i : Int)) ∧ ∀ z, z ≠ x → m z = mm z) (i + 1)) own (nx.map (·.1)) { s with heap := h, toks := tk } s₂ := by
      rintro ⟨h', tk', m', rfl, F₂, hm₂, N₂, hJ₂⟩
      exact ⟨h', tk', m', nx ++ own, nx, rfl, F₂, N₂, fun p hp => List.mem_append.mpr (.inl hp), fun p hp => List.mem_append.mpr (.inr hp), rfl, rfl, by
        have : a₀ + ((i + 1 : Nat) : Int) = a₀ + (i : Int) * 1 + 1 := by push_cast; omega
        show J (a₀ + ((i + 1 : Nat) : Int)); rw [this]; exact hJ₂, hm₂⟩
    cases f with
    | ret v => exact p
    | brk => exact p
    | next => exact fin p
    | cont => exact fin p
  · rintro m₁ nx h tk ⟨rfl, hJ', hm⟩ F' N'
    have hmm : m₁ = (fun y => if y = x then m₁ x else mm y) := by
      funext y; by_cases hy : y = x
      · simp [hy]
      · simp [hy, hm y hy]
    rw [hmm] at F'
    exact done (m₁ x) h tk (by rw [hn]; exact hJ') F' N'
end
end Mine
end
section
open PySem PySem.Spec PySem.Calls PyProof.Rows PySem.W
namespace Mine
section
variable {prog : Program} {w : World} {A : Around} {E : Value → Shared → Prop} {s : Shared} {K : Frag} {x C : Addr} {ox : Obj} {od : Option Obj} {name : Str} {expr : Bool} {Q : Value → Shared → Prop}
theorem exc_attr {v : Value} (X : K.In s.heap) (I : W.InstAt s.heap x ox C od) (hga : findIn K (.ref C) "__getattribute__" = some (some (.builtin "BaseException.__getattribute__"))) (hgn : findIn K (.ref C) "__getattr__" = some none)
    (hsub : mroIn K C (.type "BaseException") = some true) (hf : findObj K C od name = some (.value v)) (hh : handedIn v = true) (h : Q v { s with toks := s.toks + 1 }) : wpAny (model prog w) A (getAttr (.ref x) name expr) Q E s := by
  obtain ⟨hp, g, d, t, os⟩ := s
  have L0 := I.type (M := model prog w)
  have L1 := looks_findIn (M := model prog w) X hga
  have L2 := looks_findIn (M := model prog w) X hgn
  have L3 := looks_find (M := model prog w) X I hf
  have L4 := looks_mroIn (M := model prog w) X hsub
  unfold getAttr getAttrBy
  refine wpAny_bind (wpAny_mkText (wpAny_holding (wpAny_bind (L0.at (wpAny_bind (L1.at ?_))))))
  have hx2 : (Value.builtin "BaseException.__getattribute__" == Value.builtin "object.__getattribute__") = false := by decide +kernel
  have hx1 : (onTheHeap (Value.ref C) && Value.builtin "BaseException.__getattribute__" == Value.builtin "object.__getattribute__") = false := by rw [hx2]; rfl
  dsimp only
  rw [hx1, if_neg Bool.false_ne_true]
  unfold getAttrByItsOwn hookBefore
  refine wpAny_bind ?_
  rw [if_pos (show onTheHeap (Value.ref C) = true from rfl)]
  have hx0 : (expr && onTheHeap (Value.builtin "BaseException.__getattribute__")) = false := by cases expr <;> rfl
  have FB := F.attrBase_Exception
  have f3 := FB.ga.bind (.ref x)
  have hk : builtinKind "BaseException.__getattribute__" = some .slot := by decide +kernel
  have hsplit : splitId "BaseException.__getattribute__" = some ("BaseException", "__getattribute__") := by decide +kernel
  have main : ∀ (A : Around) (R : Result → Shared → Prop), R (.ok (.ret v)) ⟨hp, g, d, t + 1, os⟩ → codeAny (model prog w) A (.call (.builtin "BaseException.__getattribute__") ⟨[.ref x, .str name t], []⟩) R ⟨hp, g, d, t + 1, os⟩ := by
    intro A R hR
    refine codeAny_call_builtin FB.ga.plain F.entry_bexc_ga ?_
    have ha := F.args_bexc_ga (.ref x) (.str name t)
    simp only [checkBuiltinCall, hk, hsplit]
    refine wpAny_bind ?_
    unfold isInstance
    refine wpAny_bind (L0.at (L4.at ?_))
    refine wpAny_pure ?_
    refine wpAny_bind (wpAny_pure ?_)
    refine wpAny_bind (wpAny_pure (wpAny_bind (L0.at (wpAny_bind (L3.at ?_)))))
    exact wpAny_pure hR
  refine L2.at ?_
  repeat (any_goals (first | assumption | with_reducible refine main _ _ ?_ | wp_step))
  refine main _ _ ?_
  show wpAny _ _ (handedOut v) _ _ _
  rw [handedOut_of hh]; exact wpAny_pure h
end
end Mine
end
theorem Mine.resetYChk : True := by w_top off; k_with_none; exact trivial
section
open PySem PySem.Spec PySem.Calls PyProof.Rows PySem.W
namespace Mine
def badAt (ok : Nat → Bool) (x : Str) : Option Nat := x.cps.toList.findIdx? (fun c => !ok c)
theorem code_get {T : Str} {k : Int} (h0 : 0 ≤ k) (h1 : k.toNat < T.cps.toList.length) : (Txt.charAt T k).getD 0 = T.cps.toList[k.toNat] := by
  have := item_get h0 h1
  unfold Txt.item at this
  simpa using this
theorem bad_none {ok : Nat → Bool} {x : Str} (h : ∀ j : Int, 0 ≤ j → j < x.length → ok ((Txt.charAt x j).getD 0) = true) : badAt ok x = none := by
  unfold badAt
  rw [List.findIdx?_eq_none_iff]
  intro c hc
  obtain ⟨i, hi, rfl⟩ := List.mem_iff_getElem.mp hc
  have hl : x.length = x.cps.toList.length := by simp [Str.length]
  have := h (i : Int) (by omega) (by omega)
  rw [code_get (by omega) (by simpa using hi)] at this
  simp at this
  simp [this]
theorem bad_some {ok : Nat → Bool} {x : Str} {k : Int} (h0 : 0 ≤ k) (h1 : k < x.length) (h : ∀ j : Int, 0 ≤ j → j < k → ok ((Txt.charAt x j).getD 0) = true) (hk : ok ((Txt.charAt x k).getD 0) = false) : badAt ok x = some k.toNat := by
  have hl : x.length = x.cps.toList.length := by simp [Str.length]
  unfold badAt
  rw [List.findIdx?_eq_some_iff_getElem]
  refine ⟨by omega, ?_, fun j hj => ?_⟩
  · rw [code_get h0 (by omega)] at hk
    simp only [hk]; rfl
  · have := h (j : Int) (by omega) (by omega)
    rw [code_get (by omega) (by omega)] at this
    simp at this
    simp [this]
theorem subApp {l r : Led} : ∀ q ∈ l, q ∈ l ++ r := fun q h => List.mem_append.mpr (.inl h)
theorem subIntoApp {p : Addr × Obj} {l r : Led} : ∀ q ∈ p :: l, q ∈ p :: (l ++ r) := fun q h => (List.mem_cons.mp h).elim (fun e => e ▸ .head _) fun h => .tail _ (subApp q h)
set_option maxRecDepth 100000
set_option maxHeartbeats 8000000
section
variable (w : World) (mean : ExcName → Option Value) (mg mb : Str → Option Value) (news : Led)
theorem s_check (x : Str) (t : Tok) (p : Int) (u : Tok) (hx : x.length < 1000000) : Spec w mean mg mb 7 131 [.str x t, .int p u] news news
     (fun v l => badAt charB x = none ∧ v = .none ∧ l = news) (fun q => ∃ i, badAt charB x = some i ∧ q = p + (i : Int)) := by
  k_with_none
  (k_with "ktr_room" => (simp only [depth_under_make, depth_under_kw, depth_in1, depth_deeper, depth_caller, units_in1, units_deeper, Around.mark_units, units_caller] at *; dsimp only [around, aroundE] at *; (try simp only [recursionLimit, cLine] at *); omega))
  (k_with "exec Raise some none" => (k_here; k_dflt (refine' raise_made ?zqX ?zqq ?zqhh ?_; (case zqX => k_asm); (case zqq => kts_isx); (case zqhh => exact rfl); k_whole)))
  (k_with "call ref" => (k_here; (with_reducible show wpAny _ _ (call (Value.ref 122) _) _ _ _); k_dflt (refine' fault_in ?zqB ?zqF ?zqX ?zqN ?zqT ?zqf ?zqk ?zqd ?zqu ?_; (case zqf => first | exact rfl | assumption); (case zqB => k_asm); (case zqF => k_asm); (case zqX => k_asm); (case zqN => k_asm); (case zqT => k_asm); (case zqk => first | exact rfl | assumption); (case zqd => ktr_room); (case zqu => ktr_room); k_whole); intro e'Z dx'Z tu'Z h'Z tk'Z h1'Z h2'Z t1'Z t2'Z n'Z F'Z N'Z ne'Z; (try k_sweep)))
  (k_with "Thrown" => (k_here; k_dflt (refine' thrown_ ?zqF ?zqX ?zqN ?zqm ?_; (case zqF => k_asm); (case zqX => k_asm); (case zqN => k_asm); (case zqm => k_mem); k_whole)))
  (k_with "leaving ref" => (k_here; k_dflt (refine' raise_leaves ?zqK ?zqF ?zqN ?zqne ?zqc ?zqx ?zqd ?zqo ?_ ?zqk; (case zqF => assumption); (case zqN => assumption); (case zqK => assumption); (case zqne => assumption); (case zqc => exact rfl); (case zqx => exact rfl); (case zqd => exact rfl); (case zqo => exact rfl); (case zqk => exact rfl); k_whole); intro h'Z R'Z U'Z; (try dsimp only at R'Z U'Z ⊢)))
  (k_with "cell_enter" => (refine' code_def ?zqk1 ?zqk2 ?zqk3 ?zqk4 ?zqk5 ?zqkA ?zqkF ?zqkK ?zqk6 ?zqk7 ?zqk8 ?zqk9 ?zqkB ?_ ?zqc2 ?zqc3 ?zqc4 ?zqc5; (case zqkA => exact rfl); (case zqkF => first | exact rfl | assumption); (case zqkK => assumption); (case zqk1 => k_asm); (case zqk2 => k_asm); (case zqk3 => k_asm); (case zqk4 => k_asm); (case zqk5 => k_asm); (case zqk6 => k_is); (case zqk7 => k_is); (case zqk8 => ktr_room); (case zqk9 => first | exact BindsTo.of_eq rfl | exact binds_K (by k_in) rfl (by k_is) rfl rfl rfl); (case zqc5 => decide); (case zqkB => exact locs rfl); (case zqc2 => exact rfl); (case zqc3 => exact rfl); (case zqc4 => exact rfl); k_whole; intro g'Z L'Z h'Z FG'Z F'Z N'Z B'Z X'Z T'Z; (try dsimp only); (try k_lift B'Z); (try k_fold)))
  (k_with "leaving ref" => (k_here; k_dflt (refine' pass_leaves ?zqK ?zqF ?zqR ?zqU ?_; (case zqR => assumption); (case zqF => assumption); (case zqK => assumption); (case zqU => assumption); k_whole); intro h'Z R'Z U'Z; (try dsimp only at R'Z U'Z ⊢)))
  (k_with "tb_rel" => first | exact subSelf | exact subNil | (refine subCons ?zqa ?zqb; (case zqa => k_mem); (case zqb => tb_rel)) | (refine subInto ?_; tb_rel))
  (k_with "kts_go" => (refine' code_defS ?zqk1 ?zqk2 ?zqk3 ?zqk4 ?zqk5 ?zqXB ?zqTB ?zqD ?zqT0 ?zqkA ?zqk6 ?zqk7 ?zqk8 ?zqk9 ?zqkB ?_ ?zqcK ?zqc2 ?zqc3 ?zqc4 ?zqc5; (case zqkA => exact rfl); (case zqk2 => k_asm); (case zqk1 => k_asm); (case zqXB => assumption); (case zqTB => assumption); (case zqD => assumption); (case zqT0 => first | assumption | exact KtsTurn.refl); (case zqk3 => k_asm); (case zqk4 => k_asm); (case zqk5 => k_asm); (case zqk6 => k_is); (case zqk7 => k_is); (case zqk8 => ktr_room); (case zqk9 => first | exact BindsTo.of_eq rfl | exact binds_K (by k_in) rfl (by k_is) rfl rfl rfl | fail "kts_go: no rule for these arguments"); (case zqkB => exact locs rfl); (case zqcK => assumption); (case zqc2 => exact rfl); (case zqc3 => exact rfl); (case zqc4 => exact rfl); (case zqc5 => decide); k_whole; intro g'Z L'Z h'Z FG'Z F'Z N'Z B'Z X'Z T'Z D'Z; (try dsimp only); (try k_lift B'Z); (try k_fold)))
  (k_with "noteFrame ref" => (k_here; k_dflt (refine' caught_as ?zqR ?zqF ?zqK ?zqU ?zqXB ?zqTB ?zqD ?zqT0 ?zqex ?zqq ?_; (case zqR => assumption); (case zqF => assumption); (case zqK => assumption); (case zqU => assumption); (case zqXB => assumption); (case zqTB => assumption); (case zqD => assumption); (case zqT0 => first | assumption | exact KtsTurn.refl); (case zqq => kts_isx); (case zqex => k_is); k_whole); intro h'Z g'Z oeZ vsZ tk'Z T'Z F'Z hcZ hxZ hdZ N'Z K'Z X'Z P'Z D'Z; (try k_lift K'Z); (try k_sweep)))
  (k_with "pyIter ref" => refine halt ?_)
  (k_with "call ref" => (k_here; (with_reducible show wpAny _ _ (call (Value.ref 63) _) _ _ _); k_dflt (refine' Spec.use (s_is_char _ _ _ _ _ _ _) ?zqB ?zqF ?zqX ?zqN ?zqT ?zqf ?zqk ?zqd ?zqu ?_ ?zqexc; (case zqf => first | exact rfl | assumption); (case zqB => k_asm); (case zqF => k_asm); (case zqX => k_asm); (case zqN => first | assumption | exact front1 (by assumption) | exact front2 (by assumption) | exact front3 (by assumption)); (case zqT => k_asm); (case zqk => first | exact rfl | assumption); (case zqd => ktr_room); (case zqu => ktr_room); (case zqexc => (intro kZ eZ dxZ gZ h'Z tk'Z h1Z h2Z t1Z t2Z nZ v1Z uZ hEZ; exact hEZ.elim)); (intro vZ lZ h'Z tk'Z hRZ F'Z N'Z; (try dsimp only at hRZ); obtain ⟨e1Z, e2Z⟩ := hRZ; subst e1Z; subst e2Z; (try k_sweep); (try dsimp only)))))
  unfold Spec
  k_fill
  intro dp un gd env outer A₀ base h₀ L m s Q E B F X N TP hf hk hdp hun hret hexc
  refine wpAny_call ?_
  k_dflt cell_enter
  k_steps
  unfold Halt
  (rename IsRange _ _ _ _ _ _ _ _ => hr)
  refine' range_led (fun k => ∀ j : Int, 0 ≤ j → j < k → charB ((Txt.charAt x j).getD 0) = true) ?hh hr ?ha ?hab ?hb ?F ?N ?J ?turn ?done
  (case hh => exact rfl)
  (case ha => omega)
  (case hab => omega)
  (case hb => omega)
  (case F => assumption)
  (case N => assumption)
  (case J => (intro j h1 h2; omega))
  · intro k tt h tk own hk0 hkx hJ F1 N1
    dsimp only
    k_steps
    · (rename charB _ = true => hc)
      refine' ⟨_, _, _, rfl, ?F1, ?m1, ?N1, ?J1⟩
      (case F1 => assumption)
      (case N1 => assumption)
      (case m1 => (intro z hz; simp only [if_neg hz]))
      (case J1 => (intro j h1 h2; by_cases e : j = k; (· rw [e]; exact hc); exact hJ j h1 (by omega)))
    · (rename charB _ = false => hc)
      refine' hexc _ _ _ _ _ _ _ _ _ _ _ _ _ ⟨_, bad_some hk0 hkx hJ hc, ?v⟩ ?F ?U (Raised.mono ?R ?S)
      (case R => assumption)
      (case F => assumption)
      (case U => assumption)
      (case S => exact subIntoApp)
      (case v => (rw [Int.toNat_of_nonneg hk0]))
  · intro ov h tk hJ F1 N1
    dsimp only
    k_steps
    refine' hret _ _ _ _ ⟨bad_none hJ, rfl, rfl⟩ ?F2 ?N2
    (case F2 => assumption)
    (case N2 => assumption)
end
end Mine
end
theorem Mine.resetYSys : True := by w_top off; k_with_none; exact trivial
section
open PySem PySem.Spec PySem.Calls PyProof.Rows PySem.W
namespace Mine
def quoteTxt (T : Str) (k : Int) : Str := Txt.slice T (some (k + 1)) (some (quoteEnd T k))
def readFault (ok : Nat → Bool) (T : Str) (k : Int) : Option Int :=
  if quoteB T k then if 0 ≤ quoteEnd T k then (badAt ok (quoteTxt T k)).map (fun i : Nat => k + 1 + (i : Int)) else some (k + 1) else some k
theorem rf_quote {ok : Nat → Bool} {T : Str} {k p : Int} (h : (quoteB T k = false ∧ p = k) ∨ (quoteB T k = true ∧ quoteEnd T k < 0 ∧ p = k + 1)) : readFault ok T k = some p := by
  unfold readFault
  rcases h with ⟨h1, rfl⟩ | ⟨h1, h2, rfl⟩
  · rw [h1]; rfl
  · rw [h1, if_pos rfl, if_neg (by omega)]
theorem rf_bad {ok : Nat → Bool} {T : Str} {k p : Int} (h1 : quoteB T k = true) (h2 : 0 ≤ quoteEnd T k) (h : ∃ i, badAt ok (quoteTxt T k) = some i ∧ p = k + 1 + (i : Int)) : readFault ok T k = some p := by
  obtain ⟨i, h3, rfl⟩ := h
  unfold readFault
  rw [h1, if_pos rfl, if_pos h2, h3]; rfl
theorem rf_none {ok : Nat → Bool} {T : Str} {k : Int} (h1 : quoteB T k = true) (h2 : 0 ≤ quoteEnd T k) (h : badAt ok (quoteTxt T k) = none) : readFault ok T k = none := by
  unfold readFault
  rw [h1, if_pos rfl, if_pos h2, h]; rfl
theorem rf_inv {ok : Nat → Bool} {T : Str} {k : Int} (h : readFault ok T k = none) : quoteB T k = true ∧ 0 ≤ quoteEnd T k ∧ badAt ok (quoteTxt T k) = none := by
  unfold readFault at h
  split at h
  · split at h
    · refine ⟨by assumption, by assumption, Option.map_eq_none_iff.mp h⟩
    · cases h
  · cases h
set_option maxRecDepth 100000
set_option maxHeartbeats 8000000
section
variable (w : World) (mean : ExcName → Option Value) (mg mb : Str → Option Value) (c d : Addr) (h1 h2 : Int) (t1 t2 tt ti : Tok) (T : Str) (k : Int) (rest : Led)
theorem s_system (hcd : c ≠ d) (hne : ∀ p ∈ rest, p.1 ≠ d) (hk0 : 0 ≤ k) (hkT : k ≤ T.length) (hT : T.length < 1000000) : Spec w mean mg mb 5 150 [.ref c] (curLed c d h1 h2 t1 t2 T tt k ti rest) rest
     (fun v l => readFault charB T k = none ∧ (∃ t, v = .str (quoteTxt T k) t) ∧ ∃ t, l = curLed c d h1 h2 t1 t2 T tt (quoteOut T k) t rest)
     (fun p => readFault charB T k = some p) := by
  k_with_none
  (k_with "ktr_room" => (simp only [depth_under_make, depth_under_kw, depth_in1, depth_deeper, depth_caller, units_in1, units_deeper, Around.mark_units, units_caller] at *; dsimp only [around, aroundE] at *; (try simp only [recursionLimit, cLine] at *); omega))
  (k_with "exec Raise some none" => (k_here; k_dflt (refine' raise_made ?zqX ?zqq ?zqhh ?_; (case zqX => k_asm); (case zqq => kts_isx); (case zqhh => exact rfl); k_whole)))
  (k_with "call ref" => (k_here; (with_reducible show wpAny _ _ (call (Value.ref 122) _) _ _ _); k_dflt (refine' fault_in ?zqB ?zqF ?zqX ?zqN ?zqT ?zqf ?zqk ?zqd ?zqu ?_; (case zqf => first | exact rfl | assumption); (case zqB => k_asm); (case zqF => k_asm); (case zqX => k_asm); (case zqN => k_asm); (case zqT => k_asm); (case zqk => first | exact rfl | assumption); (case zqd => ktr_room); (case zqu => ktr_room); k_whole); intro e'Z dx'Z tu'Z h'Z tk'Z h1'Z h2'Z t1'Z t2'Z n'Z F'Z N'Z ne'Z; (try k_sweep)))
  (k_with "Thrown" => (k_here; k_dflt (refine' thrown_ ?zqF ?zqX ?zqN ?zqm ?_; (case zqF => k_asm); (case zqX => k_asm); (case zqN => k_asm); (case zqm => k_mem); k_whole)))
  (k_with "leaving ref" => (k_here; k_dflt (refine' raise_leaves ?zqK ?zqF ?zqN ?zqne ?zqc ?zqx ?zqd ?zqo ?_ ?zqk; (case zqF => assumption); (case zqN => assumption); (case zqK => assumption); (case zqne => assumption); (case zqc => exact rfl); (case zqx => exact rfl); (case zqd => exact rfl); (case zqo => exact rfl); (case zqk => exact rfl); k_whole); intro h'Z R'Z U'Z; (try dsimp only at R'Z U'Z ⊢)))
  (k_with "cell_enter" => (refine' code_def ?zqk1 ?zqk2 ?zqk3 ?zqk4 ?zqk5 ?zqkA ?zqkF ?zqkK ?zqk6 ?zqk7 ?zqk8 ?zqk9 ?zqkB ?_ ?zqc2 ?zqc3 ?zqc4 ?zqc5; (case zqkA => exact rfl); (case zqkF => first | exact rfl | assumption); (case zqkK => assumption); (case zqk1 => k_asm); (case zqk2 => k_asm); (case zqk3 => k_asm); (case zqk4 => k_asm); (case zqk5 => k_asm); (case zqk6 => k_is); (case zqk7 => k_is); (case zqk8 => ktr_room); (case zqk9 => first | exact BindsTo.of_eq rfl | exact binds_K (by k_in) rfl (by k_is) rfl rfl rfl); (case zqc5 => decide); (case zqkB => exact locs rfl); (case zqc2 => exact rfl); (case zqc3 => exact rfl); (case zqc4 => exact rfl); k_whole; intro g'Z L'Z h'Z FG'Z F'Z N'Z B'Z X'Z T'Z; (try dsimp only); (try k_lift B'Z); (try k_fold)))
  (k_with "leaving ref" => (k_here; k_dflt (refine' pass_leaves ?zqK ?zqF ?zqR ?zqU ?_; (case zqR => assumption); (case zqF => assumption); (case zqK => assumption); (case zqU => assumption); k_whole); intro h'Z R'Z U'Z; (try dsimp only at R'Z U'Z ⊢)))
  (k_with "tb_rel" => first | exact subSelf | exact subNil | (refine subCons ?zqa ?zqb; (case zqa => k_mem); (case zqb => tb_rel)) | (refine subInto ?_; tb_rel))
  (k_with "kts_go" => (refine' code_defS ?zqk1 ?zqk2 ?zqk3 ?zqk4 ?zqk5 ?zqXB ?zqTB ?zqD ?zqT0 ?zqkA ?zqk6 ?zqk7 ?zqk8 ?zqk9 ?zqkB ?_ ?zqcK ?zqc2 ?zqc3 ?zqc4 ?zqc5; (case zqkA => exact rfl); (case zqk2 => k_asm); (case zqk1 => k_asm); (case zqXB => assumption); (case zqTB => assumption); (case zqD => assumption); (case zqT0 => first | assumption | exact KtsTurn.refl); (case zqk3 => k_asm); (case zqk4 => k_asm); (case zqk5 => k_asm); (case zqk6 => k_is); (case zqk7 => k_is); (case zqk8 => ktr_room); (case zqk9 => first | exact BindsTo.of_eq rfl | exact binds_K (by k_in) rfl (by k_is) rfl rfl rfl | fail "kts_go: no rule for these arguments"); (case zqkB => exact locs rfl); (case zqcK => assumption); (case zqc2 => exact rfl); (case zqc3 => exact rfl); (case zqc4 => exact rfl); (case zqc5 => decide); k_whole; intro g'Z L'Z h'Z FG'Z F'Z N'Z B'Z X'Z T'Z D'Z; (try dsimp only); (try k_lift B'Z); (try k_fold)))
  (k_with "noteFrame ref" => (k_here; k_dflt (refine' caught_as ?zqR ?zqF ?zqK ?zqU ?zqXB ?zqTB ?zqD ?zqT0 ?zqex ?zqq ?_; (case zqR => assumption); (case zqF => assumption); (case zqK => assumption); (case zqU => assumption); (case zqXB => assumption); (case zqTB => assumption); (case zqD => assumption); (case zqT0 => first | assumption | exact KtsTurn.refl); (case zqq => kts_isx); (case zqex => k_is); k_whole); intro h'Z g'Z oeZ vsZ tk'Z T'Z F'Z hcZ hxZ hdZ N'Z K'Z X'Z P'Z D'Z; (try k_lift K'Z); (try k_sweep)))
  (k_with "call ref" => (k_here; (with_reducible show wpAny _ _ (call (Value.ref 131) _) _ _ _); k_dflt (refine' Spec.use (s_check _ _ _ _ _ _ _ _ _ ?zqp1) ?zqB ?zqF ?zqX ?zqN ?zqT ?zqf ?zqk ?zqd ?zqu ?_ ?_; (case zqf => first | exact rfl | assumption); (case zqB => k_asm); (case zqF => k_asm); (case zqX => k_asm); (case zqN => first | assumption | exact front1 (by assumption) | exact front2 (by assumption) | exact front3 (by assumption)); (case zqT => k_asm); (case zqk => first | exact rfl | assumption); (case zqd => ktr_room); (case zqu => ktr_room); (case zqp1 => exact Nat.lt_of_le_of_lt (Txt.slice_le _ _ _) (by assumption)); rotate_left; (intro kZ eZ dxZ gZ h'Z tk'Z h1Z h2Z t1Z t2Z nZ v1Z uZ hEZ F'Z U'Z R'Z; (try k_sweep); (try dsimp only)); rotate_right; (intro vZ lZ h'Z tk'Z hRZ F'Z N'Z; (try dsimp only at hRZ); obtain ⟨hbZ, e1Z, e2Z⟩ := hRZ; subst e1Z; subst e2Z; (try k_sweep); (try dsimp only)))))
  (k_with "call ref" => (k_here; (with_reducible show wpAny _ _ (call (Value.ref 265) _) _ _ _); k_dflt (refine' Spec.use (s_quoted _ _ _ _ _ _ _ _ _ _ _ _ _ _ _ ?zqp1 ?zqp2 ?zqp3 ?zqp4 ?zqp5) ?zqB ?zqF ?zqX ?zqN ?zqT ?zqf ?zqk ?zqd ?zqu ?_ ?_; (case zqf => first | exact rfl | assumption); (case zqB => k_asm); (case zqF => k_asm); (case zqX => k_asm); (case zqN => first | assumption | exact front1 (by assumption) | exact front2 (by assumption) | exact front3 (by assumption)); (case zqT => k_asm); (case zqk => first | exact rfl | assumption); (case zqd => ktr_room); (case zqu => ktr_room); (case zqp1 => assumption); (case zqp2 => assumption); (case zqp3 => assumption); (case zqp4 => assumption); (case zqp5 => assumption); rotate_left; (intro kZ eZ dxZ gZ h'Z tk'Z h1Z h2Z t1Z t2Z nZ v1Z uZ hEZ F'Z U'Z R'Z; (try k_sweep); (try dsimp only)); rotate_right; (intro vZ lZ h'Z tk'Z hRZ F'Z N'Z; (try dsimp only at hRZ); obtain ⟨⟨hq1Z, hq2Z⟩, qZ, _, _, _, e1Z, hltZ, e2Z⟩ := hRZ; subst e1Z; subst e2Z; (try k_sweep); (try dsimp only)))))
  unfold Spec
  k_fill
  intro dp un gd env outer A₀ base h₀ L m s Q E B F X N TP hf hk hdp hun hret hexc
  dsimp only [curLed] at N
  refine wpAny_call ?_
  k_dflt cell_enter
  k_steps
  · (rename badAt _ _ = none => hb)
    (rename quoteB _ _ = true => q1)
    (rename 0 ≤ quoteEnd _ _ => q2)
    refine' hret _ _ _ _ ⟨rf_none q1 q2 hb, ⟨_, rfl⟩, ⟨_, rfl⟩⟩ ?F ?N
    (case F => assumption)
    (case N => exact cb_drop (by assumption) (by tb_rel))
  · (rename ∃ i, badAt _ _ = some i ∧ _ => hb)
    (rename quoteB _ _ = true => q1)
    (rename 0 ≤ quoteEnd _ _ => q2)
    refine' hexc _ _ _ _ _ _ _ _ _ _ _ _ _ (rf_bad q1 q2 hb) ?F2 ?U2 (Raised.mono ?R2 ?S2)
    (case R2 => assumption)
    (case F2 => assumption)
    (case U2 => assumption)
    (case S2 => tb_rel)
  · (rename _ ∨ _ => hb)
    refine' hexc _ _ _ _ _ _ _ _ _ _ _ _ _ (rf_quote hb) ?F3 ?U3 (Raised.mono ?R3 ?S3)
    (case R3 => assumption)
    (case F3 => assumption)
    (case U3 => assumption)
    (case S3 => tb_rel)
end
end Mine
end
theorem Mine.resetYPub : True := by w_top off; k_with_none; exact trivial
section
open PySem PySem.Spec PySem.Calls PyProof.Rows PySem.W
namespace Mine
def publicC (c : Nat) : Bool := publicB (Str.mk #[c])
set_option maxRecDepth 100000
set_option maxHeartbeats 8000000
theorem replace_le (x y z : Str) : (Txt.replace x y z).length ≤ x.length + (x.length + 1) * z.length := by
  unfold Txt.replace
  split
  · omega
  · have h1 := StrLaws.occ_length_le x y 0 x.length (x.length + 1)
    have hy : (Builtin.Str.glued y (Builtin.Str.partsBetween x (Builtin.Str.occurrences x y 0 x.length (x.length + 1)) y.length)).length = x.length := by rw [StrLaws.glued_between_self]
    rw [size_glued, length_partsBetween, Nat.add_sub_cancel] at hy
    rw [size_glued, length_partsBetween, Nat.add_sub_cancel]
    have h2 : (Builtin.Str.occurrences x y 0 x.length (x.length + 1)).length * z.length ≤ (x.length + 1) * z.length := Nat.mul_le_mul_right _ h1
    omega
theorem replace_fits {x y z : Str} (hx : x.length < 1000000) (hz : z.length = 1) : (Txt.replace x y z).length + 2 ≤ sizeLine := by
  have h1 := replace_le x y z
  rw [hz, Nat.mul_one] at h1
  have : sizeLine = 16777216 := sizeLine_eq
  omega
theorem split_len (x y : Str) : (Txt.split x y).length ≤ x.length + 2 := by
  unfold Txt.split
  split
  · simp
  · split
    · simp
    · rw [length_partsBetween]
      have := StrLaws.occ_length_le x y 0 x.length (x.length + 1)
      omega
theorem split_sum (x y : Str) : ((Txt.split x y).map (·.length)).sum ≤ x.length := by
  unfold Txt.split
  split
  · simp
  · split
    · simp
    · have hy : (Builtin.Str.glued y (Builtin.Str.partsBetween x (Builtin.Str.occurrences x y 0 x.length (x.length + 1)) y.length)).length = x.length := by rw [StrLaws.glued_between_self]
      rw [size_glued] at hy
      omega
theorem filter_sum (p : Str → Bool) : ∀ l : List Str, ((l.filter p).map (·.length)).sum ≤ (l.map (·.length)).sum
  | [] => by simp
  | a :: l => by
    have := filter_sum p l
    rw [List.filter_cons]
    split
    · simp only [List.map_cons, List.sum_cons]; omega
    · simp only [List.map_cons, List.sum_cons]; omega
def normF (Y : Str) : Str := Txt.join (Str.ofString " ") ((Txt.split (Txt.replace Y (Str.ofString "\n") (Str.ofString " ")) (Str.ofString " ")).filter (· != Str.ofString ""))
theorem norm_fits {Y : Str} (hx : Y.length < 1000000) (p : Str → Bool) : (((Txt.split (Txt.replace Y (Str.ofString "\n") (Str.ofString " ")) (Str.ofString " ")).filter p).map (·.length)).sum + ((Txt.split (Txt.replace Y (Str.ofString "\n") (Str.ofString " ")) (Str.ofString " ")).filter p).length * (Str.ofString " ").length ≤ 16777216 := by
  have h1 := filter_sum p (Txt.split (Txt.replace Y (Str.ofString "\n") (Str.ofString " ")) (Str.ofString " "))
  have h2 := split_sum (Txt.replace Y (Str.ofString "\n") (Str.ofString " ")) (Str.ofString " ")
  have h3 := split_len (Txt.replace Y (Str.ofString "\n") (Str.ofString " ")) (Str.ofString " ")
  have h4 := List.length_filter_le p (Txt.split (Txt.replace Y (Str.ofString "\n") (Str.ofString " ")) (Str.ofString " "))
  have h5 := replace_le Y (Str.ofString "\n") (Str.ofString " ")
  have h6 : (Str.ofString " ").length = 1 := rfl
  rw [h6] at h5 ⊢
  omega
theorem subDeep {p a1 a2 a3 : Addr × Obj} {l r : Led} : ∀ q ∈ p :: l, q ∈ p :: ((a1 :: a2 :: a3 :: l) ++ r) := fun q h => (List.mem_cons.mp h).elim (fun e => e ▸ .head _) fun h => .tail _ (List.mem_append.mpr (.inl (.tail _ (.tail _ (.tail _ h)))))
theorem plain_strs : ∀ {ys : List Value} {l : List Str}, CarriedAll ys (l.map PyData.str) → StrsAre ys l := fun {ys l} h => by
  have := CarriedAll.strsOf (f := fun a : Str => a) h
  simpa using this
section
variable (w : World) (mean : ExcName → Option Value) (mg mb : Str → Option Value) (c d : Addr) (h1 h2 : Int) (t1 t2 tt ti : Tok) (T : Str) (k : Int) (rest : Led)
theorem s_public (hcd : c ≠ d) (hne : ∀ p ∈ rest, p.1 ≠ d) (hk0 : 0 ≤ k) (hkT : k ≤ T.length) (hT : T.length < 1000000) : Spec w mean mg mb 5 143 [.ref c] (curLed c d h1 h2 t1 t2 T tt k ti rest) rest
     (fun v l => readFault publicC T k = none ∧ (∃ t, v = .str (normF (quoteTxt T k)) t) ∧ ∃ t, l = curLed c d h1 h2 t1 t2 T tt (quoteOut T k) t rest)
     (fun p => readFault publicC T k = some p) := by
  k_with_none
  (k_with "ktr_room" => first | ((try simp only [depth_under_make, depth_under_kw, depth_in1, depth_deeper, depth_caller, units_in1, units_deeper, Around.mark_units, units_caller]); (try dsimp only [around, aroundE]); (try simp only [recursionLimit, cLine]); omega) | (simp only [depth_under_make, depth_under_kw, depth_in1, depth_deeper, depth_caller, units_in1, units_deeper, Around.mark_units, units_caller] at *; dsimp only [around, aroundE] at *; (try simp only [recursionLimit, cLine] at *); omega))
  (k_with "exec Raise some none" => (k_here; k_dflt (refine' raise_made ?zqX ?zqq ?zqhh ?_; (case zqX => k_asm); (case zqq => kts_isx); (case zqhh => exact rfl); k_whole)))
  (k_with "call ref" => (k_here; (with_reducible show wpAny _ _ (call (Value.ref 122) _) _ _ _); k_dflt (refine' fault_in ?zqB ?zqF ?zqX ?zqN ?zqT ?zqf ?zqk ?zqd ?zqu ?_; (case zqf => first | exact rfl | assumption); (case zqB => k_asm); (case zqF => k_asm); (case zqX => k_asm); (case zqN => k_asm); (case zqT => k_asm); (case zqk => first | exact rfl | assumption); (case zqd => ktr_room); (case zqu => ktr_room); k_whole); intro e'Z dx'Z tu'Z h'Z tk'Z h1'Z h2'Z t1'Z t2'Z n'Z F'Z N'Z ne'Z; (try k_sweep)))
  (k_with "Thrown" => (k_here; k_dflt (refine' thrown_ ?zqF ?zqX ?zqN ?zqm ?_; (case zqF => k_asm); (case zqX => k_asm); (case zqN => k_asm); (case zqm => k_mem); k_whole)))
  (k_with "leaving ref" => (k_here; k_dflt (refine' raise_leaves ?zqK ?zqF ?zqN ?zqne ?zqc ?zqx ?zqd ?zqo ?_ ?zqk; (case zqF => assumption); (case zqN => assumption); (case zqK => assumption); (case zqne => assumption); (case zqc => exact rfl); (case zqx => exact rfl); (case zqd => exact rfl); (case zqo => exact rfl); (case zqk => exact rfl); k_whole); intro h'Z R'Z U'Z; (try dsimp only at R'Z U'Z ⊢)))
  (k_with "cell_enter" => (refine' code_def ?zqk1 ?zqk2 ?zqk3 ?zqk4 ?zqk5 ?zqkA ?zqkF ?zqkK ?zqk6 ?zqk7 ?zqk8 ?zqk9 ?zqkB ?_ ?zqc2 ?zqc3 ?zqc4 ?zqc5; (case zqkA => exact rfl); (case zqkF => first | exact rfl | assumption); (case zqkK => assumption); (case zqk1 => k_asm); (case zqk2 => k_asm); (case zqk3 => k_asm); (case zqk4 => k_asm); (case zqk5 => k_asm); (case zqk6 => k_is); (case zqk7 => k_is); (case zqk8 => ktr_room); (case zqk9 => first | exact BindsTo.of_eq rfl | exact binds_K (by k_in) rfl (by k_is) rfl rfl rfl); (case zqc5 => decide); (case zqkB => exact locs rfl); (case zqc2 => exact rfl); (case zqc3 => exact rfl); (case zqc4 => exact rfl); k_whole; intro g'Z L'Z h'Z FG'Z F'Z N'Z B'Z X'Z T'Z; (try dsimp only); (try k_lift B'Z); (try k_fold)))
  (k_with "leaving ref" => (k_here; k_dflt (refine' pass_leaves ?zqK ?zqF ?zqR ?zqU ?_; (case zqR => assumption); (case zqF => assumption); (case zqK => assumption); (case zqU => assumption); k_whole); intro h'Z R'Z U'Z; (try dsimp only at R'Z U'Z ⊢)))
  (k_with "tb_rel" => first | exact subSelf | exact subNil | (refine subCons ?zqa ?zqb; (case zqa => k_mem); (case zqb => tb_rel)) | (refine subInto ?_; tb_rel))
  (k_with "kts_go" => (refine' code_defS ?zqk1 ?zqk2 ?zqk3 ?zqk4 ?zqk5 ?zqXB ?zqTB ?zqD ?zqT0 ?zqkA ?zqk6 ?zqk7 ?zqk8 ?zqk9 ?zqkB ?_ ?zqcK ?zqc2 ?zqc3 ?zqc4 ?zqc5; (case zqkA => exact rfl); (case zqk2 => k_asm); (case zqk1 => k_asm); (case zqXB => assumption); (case zqTB => assumption); (case zqD => assumption); (case zqT0 => first | assumption | exact KtsTurn.refl); (case zqk3 => k_asm); (case zqk4 => k_asm); (case zqk5 => k_asm); (case zqk6 => k_is); (case zqk7 => k_is); (case zqk8 => ktr_room); (case zqk9 => first | exact BindsTo.of_eq rfl | exact binds_K (by k_in) rfl (by k_is) rfl rfl rfl | fail "kts_go: no rule for these arguments"); (case zqkB => exact locs rfl); (case zqcK => assumption); (case zqc2 => exact rfl); (case zqc3 => exact rfl); (case zqc4 => exact rfl); (case zqc5 => decide); k_whole; intro g'Z L'Z h'Z FG'Z F'Z N'Z B'Z X'Z T'Z D'Z; (try dsimp only); (try k_lift B'Z); (try k_fold)))
  (k_with "noteFrame ref" => (k_here; k_dflt (refine' caught_as ?zqR ?zqF ?zqK ?zqU ?zqXB ?zqTB ?zqD ?zqT0 ?zqex ?zqq ?_; (case zqR => assumption); (case zqF => assumption); (case zqK => assumption); (case zqU => assumption); (case zqXB => assumption); (case zqTB => assumption); (case zqD => assumption); (case zqT0 => first | assumption | exact KtsTurn.refl); (case zqq => kts_isx); (case zqex => k_is); k_whole); intro h'Z g'Z oeZ vsZ tk'Z T'Z F'Z hcZ hxZ hdZ N'Z K'Z X'Z P'Z D'Z; (try k_lift K'Z); (try k_sweep)))
  (k_with "pyIter ref" => ((with_reducible show wpAny _ _ (pyIter (Value.ref _)) (fun it s₂ => LoopAtV _ _ _ _ _ _ _ _ _ it s₂) _ _); refine halt ?_))
  (k_with "call builtin:str.join" => refine halt ?_)
  (k_with "call builtin:str.split" => (k_here; (with_reducible show wpAny _ _ (call (Value.builtin "str.split") [Value.str (Txt.replace _ _ _) _, _]) _ _ _); (refine KSpl.split1 (by k_asm) (by k_asm) (by decide) ?_ (replace_fits (by assumption) (by rfl))); (intro D'Z l'Z h'Z k'Z e'Z a'Z F'Z N'Z l1Z)))
  (k_with "call ref" => (k_here; (with_reducible show wpAny _ _ (call (Value.ref 138) _) _ _ _); k_dflt (refine' Spec.use (s_is_public _ _ _ _ _ _ _) ?zqB ?zqF ?zqX ?zqN ?zqT ?zqf ?zqk ?zqd ?zqu ?_ ?zqexc; (case zqf => first | exact rfl | assumption); (case zqB => k_asm); (case zqF => k_asm); (case zqX => k_asm); (case zqN => first | assumption | exact front1 (by assumption) | exact front2 (by assumption) | exact front3 (by assumption) | exact sf1 (by assumption) | exact sf2 (by assumption) | exact sf3 (by assumption) | exact sf4 (by assumption) | exact sf5 (by assumption) | exact sf6 (by assumption) | exact sf7 (by assumption) | exact one_led (by assumption) (by k_mem)); (case zqT => k_asm); (case zqk => first | exact rfl | assumption); (case zqd => ktr_room); (case zqu => ktr_room); (case zqexc => (intro kZ eZ dxZ gZ h'Z tk'Z h1Z h2Z t1Z t2Z nZ v1Z uZ hEZ; exact hEZ.elim)); (intro vZ lZ h'Z tk'Z hRZ F'Z N'Z; (try dsimp only at hRZ); obtain ⟨e1Z, e2Z⟩ := hRZ; subst e1Z; subst e2Z; (try k_sweep); (try dsimp only)))))
  (k_with "call ref" => (k_here; (with_reducible show wpAny _ _ (call (Value.ref 265) _) _ _ _); k_dflt (refine' Spec.use (s_quoted _ _ _ _ _ _ _ _ _ _ _ _ _ _ _ ?zqp1 ?zqp2 ?zqp3 ?zqp4 ?zqp5) ?zqB ?zqF ?zqX ?zqN ?zqT ?zqf ?zqk ?zqd ?zqu ?_ ?_; (case zqf => first | exact rfl | assumption); (case zqB => k_asm); (case zqF => k_asm); (case zqX => k_asm); (case zqN => first | assumption | exact front1 (by assumption) | exact front2 (by assumption) | exact front3 (by assumption) | exact sf1 (by assumption) | exact sf2 (by assumption) | exact sf3 (by assumption) | exact sf4 (by assumption) | exact sf5 (by assumption) | exact sf6 (by assumption) | exact sf7 (by assumption) | exact one_led (by assumption) (by k_mem)); (case zqT => k_asm); (case zqk => first | exact rfl | assumption); (case zqd => ktr_room); (case zqu => ktr_room); (case zqp1 => assumption); (case zqp2 => assumption); (case zqp3 => assumption); (case zqp4 => assumption); (case zqp5 => assumption); rotate_left; (intro kZ eZ dxZ gZ h'Z tk'Z h1Z h2Z t1Z t2Z nZ v1Z uZ hEZ F'Z U'Z R'Z; (try k_sweep); (try dsimp only)); rotate_right; (intro vZ lZ h'Z tk'Z hRZ F'Z N'Z; (try dsimp only at hRZ); obtain ⟨⟨hq1Z, hq2Z⟩, qZ, _, _, _, e1Z, hltZ, e2Z⟩ := hRZ; subst e1Z; subst e2Z; (try k_sweep); (try dsimp only)))))
  unfold Spec
  k_fill
  intro dp un gd env outer A₀ base h₀ L m s Q E B F X N TP hf hk hdp hun hret hexc
  dsimp only [curLed] at N
  refine wpAny_call ?_
  k_dflt cell_enter
  have hx : (Txt.slice T (some (k + 1)) (some (quoteEnd T k))).length < 1000000 := Nat.lt_of_le_of_lt (Txt.slice_le T _ _) hT
  k_steps
  · unfold Halt
    (rename IsRange _ _ _ _ _ _ _ _ => hr)
    (rename quoteB _ _ = true => hq1)
    (rename 0 ≤ quoteEnd _ _ => hq2)
    generalize hY : Txt.slice T (some (k + 1)) (some (quoteEnd T k)) = Y at *
    refine' range_led (fun k => ∀ j : Int, 0 ≤ j → j < k → publicC ((Txt.charAt Y j).getD 0) = true) ?hh hr ?ha ?hab ?hb ?F ?N ?J ?turn ?done
    (case hh => exact rfl)
    (case ha => omega)
    (case hab => omega)
    (case hb => omega)
    (case F => assumption)
    (case N => assumption)
    (case J => (intro j h1 h2; omega))
    · intro i tt h tk own hk0 hkx hJ F1 N1
      dsimp only
      k_steps
      · (rename publicB _ = true => hc)
        refine' ⟨_, _, _, rfl, ?F1, ?m1, ?N1, ?J1⟩
        (case F1 => assumption)
        (case N1 => assumption)
        (case m1 => (intro z hz; simp only [if_neg hz]))
        (case J1 => (intro j h1 h2; by_cases e : j = i; (· rw [e]; exact hc); exact hJ j h1 (by omega)))
      · (rename publicB _ = false => hc)
        subst hY
        refine' hexc _ _ _ _ _ _ _ _ _ _ _ _ _ (rf_bad hq1 hq2 ⟨_, bad_some hk0 hkx hJ hc, ?v⟩) ?F ?U (Raised.mono ?R ?S)
        (case R => assumption)
        (case F => assumption)
        (case U => assumption)
        (case S => exact subDeep)
        (case v => (rw [Int.toNat_of_nonneg hk0]))
    · intro ov h tk hJ F1 N1
      dsimp only
      have hz := replace_fits (y := Str.ofString "\n") (z := Str.ofString " ") hx rfl
      k_steps
      unfold Halt
      (rename CarriedAll _ _ => hC)
      (rename List.map _ _ = Txt.split _ _ => he)
      rw [he] at hC
      refine join_list (by assumption) (plain_strs hC) (norm_fits hx _) ?_
      intro t' k'
      k_steps
      subst hY
      refine' hret _ _ _ _ ⟨rf_none hq1 hq2 (bad_none hJ), ⟨_, rfl⟩, ⟨_, rfl⟩⟩ ?F2 ?N2
      (case F2 => assumption)
      (case N2 => exact cb_drop (by assumption) (by tb_rel))
  · (rename _ ∨ _ => hb)
    refine' hexc _ _ _ _ _ _ _ _ _ _ _ _ _ (rf_quote hb) ?F3 ?U3 (Raised.mono ?R3 ?S3)
    (case R3 => assumption)
    (case F3 => assumption)
    (case U3 => assumption)
    (case S3 => tb_rel)
end
end Mine
end
theorem Mine.resetYOuter : True := by w_top off; k_with_none; exact trivial
section
open PySem PySem.Spec PySem.Calls PyProof.Rows PySem.W
namespace Mine
def skipAt (T w : Str) (k : Int) : Int := if Txt.startswith3 T w k then k + w.length else k
theorem skip_at {T w : Str} {k : Int} (h0 : 0 ≤ k) (h1 : k ≤ T.length) : 0 ≤ skipAt T w k ∧ skipAt T w k ≤ T.length := by
  unfold skipAt
  split
  · rename_i h
    unfold Txt.startswith3 at h
    simp only [Bool.and_eq_true, decide_eq_true_eq] at h
    have : fromIndex T.length k = k.toNat := by unfold fromIndex; omega
    omega
  · exact ⟨h0, h1⟩
inductive Out where
  | fault (p : Int)
  | sys (x : Str) (k : Int)
  | pub (p x : Str) (k : Int)
  | no (k : Int)
def sysF (T : Str) (k : Int) : Out := match readFault charB T k with | some p => .fault p | none => .sys (quoteTxt T k) (quoteOut T k)
def needF (T : Str) (k : Int) (f : Int → Out) : Out := if spEnd T k = k then .fault k else f (spEnd T k)
def pubF (T : Str) (k : Int) : Out := match readFault publicC T k with
  | some p => .fault p
  | none => needF T (quoteOut T k) fun k' => match readFault charB T k' with | some p => .fault p | none => .pub (normF (quoteTxt T k)) (quoteTxt T k') (quoteOut T k')
def outerF (T : Str) (k : Int) : Out :=
  if Txt.startswith3 T (Str.ofString "SYSTEM") k then needF T (skipAt T (Str.ofString "SYSTEM") k) (sysF T)
  else if Txt.startswith3 T (Str.ofString "PUBLIC") (skipAt T (Str.ofString "SYSTEM") k) then needF T (skipAt T (Str.ofString "PUBLIC") (skipAt T (Str.ofString "SYSTEM") k)) (pubF T)
  else .no (skipAt T (Str.ofString "PUBLIC") (skipAt T (Str.ofString "SYSTEM") k))
def OutRet (cl : Int → Tok → Led) (o : Out) (v : Value) (l : Led) : Prop := match o with
  | .fault _ => False
  | .sys x k => ∃ q t ti, v = .ref q ∧ AllLt q (cl k ti) ∧ l = (q, pairObj .none (.str x t)) :: cl k ti
  | .pub p x k => ∃ q t u ti, v = .ref q ∧ AllLt q (cl k ti) ∧ l = (q, pairObj (.str p u) (.str x t)) :: cl k ti
  | .no k => ∃ q ti, v = .ref q ∧ AllLt q (cl k ti) ∧ l = (q, pairObj .none .none) :: cl k ti
section
variable {T : Str} {k p : Int}
theorem o_sys (a : Txt.startswith3 T (Str.ofString "SYSTEM") k = true) (b : spEnd T (skipAt T (Str.ofString "SYSTEM") k) ≠ skipAt T (Str.ofString "SYSTEM") k) (c : readFault charB T (spEnd T (skipAt T (Str.ofString "SYSTEM") k)) = none) :
   outerF T k = .sys (quoteTxt T (spEnd T (skipAt T (Str.ofString "SYSTEM") k))) (quoteOut T (spEnd T (skipAt T (Str.ofString "SYSTEM") k))) := by
  unfold outerF; rw [if_pos a]; unfold needF; rw [if_neg b]; unfold sysF; rw [c]
theorem o_sysF (a : Txt.startswith3 T (Str.ofString "SYSTEM") k = true) (b : spEnd T (skipAt T (Str.ofString "SYSTEM") k) ≠ skipAt T (Str.ofString "SYSTEM") k) (c : readFault charB T (spEnd T (skipAt T (Str.ofString "SYSTEM") k)) = some p) : outerF T k = .fault p := by
  unfold outerF; rw [if_pos a]; unfold needF; rw [if_neg b]; unfold sysF; rw [c]
theorem o_sysN (a : Txt.startswith3 T (Str.ofString "SYSTEM") k = true) (b : spEnd T (skipAt T (Str.ofString "SYSTEM") k) = skipAt T (Str.ofString "SYSTEM") k) : outerF T k = .fault (skipAt T (Str.ofString "SYSTEM") k) := by
  unfold outerF; rw [if_pos a]; unfold needF; rw [if_pos b]
theorem o_no (a : Txt.startswith3 T (Str.ofString "SYSTEM") k = false) (b : Txt.startswith3 T (Str.ofString "PUBLIC") (skipAt T (Str.ofString "SYSTEM") k) = false) : outerF T k = .no (skipAt T (Str.ofString "PUBLIC") (skipAt T (Str.ofString "SYSTEM") k)) := by
  unfold outerF; rw [if_neg (by rw [a]; decide), if_neg (by rw [b]; decide)]
theorem o_pubN (a : Txt.startswith3 T (Str.ofString "SYSTEM") k = false) (b : Txt.startswith3 T (Str.ofString "PUBLIC") (skipAt T (Str.ofString "SYSTEM") k) = true) (c : spEnd T (skipAt T (Str.ofString "PUBLIC") (skipAt T (Str.ofString "SYSTEM") k)) = skipAt T (Str.ofString "PUBLIC") (skipAt T (Str.ofString "SYSTEM") k)) : outerF T k = .fault (skipAt T (Str.ofString "PUBLIC") (skipAt T (Str.ofString "SYSTEM") k)) := by
  unfold outerF; rw [if_neg (by rw [a]; decide), if_pos b]; unfold needF; rw [if_pos c]
variable (a : Txt.startswith3 T (Str.ofString "SYSTEM") k = false) (b : Txt.startswith3 T (Str.ofString "PUBLIC") (skipAt T (Str.ofString "SYSTEM") k) = true) (c : spEnd T (skipAt T (Str.ofString "PUBLIC") (skipAt T (Str.ofString "SYSTEM") k)) ≠ skipAt T (Str.ofString "PUBLIC") (skipAt T (Str.ofString "SYSTEM") k))
include a b c
theorem o_pubF (d : readFault publicC T (spEnd T (skipAt T (Str.ofString "PUBLIC") (skipAt T (Str.ofString "SYSTEM") k))) = some p) : outerF T k = .fault p := by
  unfold outerF; rw [if_neg (by rw [a]; decide), if_pos b]; unfold needF; rw [if_neg c]; unfold pubF; rw [d]
variable (d : readFault publicC T (spEnd T (skipAt T (Str.ofString "PUBLIC") (skipAt T (Str.ofString "SYSTEM") k))) = none)
include d
theorem o_pubM (e : spEnd T (quoteOut T (spEnd T (skipAt T (Str.ofString "PUBLIC") (skipAt T (Str.ofString "SYSTEM") k)))) = quoteOut T (spEnd T (skipAt T (Str.ofString "PUBLIC") (skipAt T (Str.ofString "SYSTEM") k)))) : outerF T k = .fault (quoteOut T (spEnd T (skipAt T (Str.ofString "PUBLIC") (skipAt T (Str.ofString "SYSTEM") k)))) := by
  unfold outerF; rw [if_neg (by rw [a]; decide), if_pos b]; unfold needF; rw [if_neg c]; unfold pubF; rw [d]; show needF _ _ _ = _; unfold needF; rw [if_pos e]
variable (e : spEnd T (quoteOut T (spEnd T (skipAt T (Str.ofString "PUBLIC") (skipAt T (Str.ofString "SYSTEM") k)))) ≠ quoteOut T (spEnd T (skipAt T (Str.ofString "PUBLIC") (skipAt T (Str.ofString "SYSTEM") k))))
include e
theorem o_pubS (f : readFault charB T (spEnd T (quoteOut T (spEnd T (skipAt T (Str.ofString "PUBLIC") (skipAt T (Str.ofString "SYSTEM") k))))) = some p) : outerF T k = .fault p := by
  unfold outerF; rw [if_neg (by rw [a]; decide), if_pos b]; unfold needF; rw [if_neg c]; unfold pubF; rw [d]; show needF _ _ _ = _; unfold needF; rw [if_neg e]; dsimp only; rw [f]
theorem o_pub (f : readFault charB T (spEnd T (quoteOut T (spEnd T (skipAt T (Str.ofString "PUBLIC") (skipAt T (Str.ofString "SYSTEM") k))))) = none) :
    outerF T k = .pub (normF (quoteTxt T (spEnd T (skipAt T (Str.ofString "PUBLIC") (skipAt T (Str.ofString "SYSTEM") k))))) (quoteTxt T (spEnd T (quoteOut T (spEnd T (skipAt T (Str.ofString "PUBLIC") (skipAt T (Str.ofString "SYSTEM") k)))))) (quoteOut T (spEnd T (quoteOut T (spEnd T (skipAt T (Str.ofString "PUBLIC") (skipAt T (Str.ofString "SYSTEM") k)))))) := by
  unfold outerF; rw [if_neg (by rw [a]; decide), if_pos b]; unfold needF; rw [if_neg c]; unfold pubF; rw [d]; show needF _ _ _ = _; unfold needF; rw [if_neg e]; dsimp only; rw [f]
end
set_option maxRecDepth 100000
set_option maxHeartbeats 8000000
section
variable (w : World) (mean : ExcName → Option Value) (mg mb : Str → Option Value) (c d : Addr) (h1 h2 : Int) (t1 t2 tt ti : Tok) (T : Str) (k : Int) (rest : Led)
theorem s_skip2 (word : Str) (tm : Tok) (hcd : c ≠ d) (hne : ∀ p ∈ rest, p.1 ≠ d) (hk0 : 0 ≤ k) (hkT : k ≤ T.length) (hT : T.length < 1000000) (hw : word.length < 1000) :
   Spec w mean mg mb 7 216 [.ref c, .str word tm] (curLed c d h1 h2 t1 t2 T tt k ti rest) rest
     (fun v l => v = .bool (Txt.startswith3 T word k) ∧ (0 ≤ skipAt T word k ∧ skipAt T word k ≤ T.length) ∧ ∃ t, l = curLed c d h1 h2 t1 t2 T tt (skipAt T word k) t rest) (fun _ => False) :=
  (s_skip w mean mg mb c d h1 h2 t1 t2 tt ti T k rest word tm hcd hne hk0 hkT hT hw).mono (fun v l ⟨a, b⟩ => ⟨a, skip_at hk0 hkT, b⟩) fun _ h => h
theorem s_need2 (hcd : c ≠ d) (hne : ∀ p ∈ rest, p.1 ≠ d) (hk0 : 0 ≤ k) (hkT : k ≤ T.length) (hT : T.length < 1000000) : Spec w mean mg mb 6 251 [.ref c] (curLed c d h1 h2 t1 t2 T tt k ti rest) rest
     (fun v l => (spEnd T k ≠ k ∧ 0 ≤ spEnd T k ∧ spEnd T k ≤ T.length) ∧ v = .none ∧ ∃ t, l = curLed c d h1 h2 t1 t2 T tt (spEnd T k) t rest) (fun p => spEnd T k = k ∧ p = k) :=
  (s_need w mean mg mb c d h1 h2 t1 t2 tt ti T k rest hcd hne hk0 hkT hT).mono (fun v l ⟨a, b, e⟩ => ⟨⟨b, Int.le_trans hk0 spEnd_ge, spEnd_le hk0 hkT⟩, a, e⟩) fun _ h => h
theorem s_system2 (hcd : c ≠ d) (hne : ∀ p ∈ rest, p.1 ≠ d) (hk0 : 0 ≤ k) (hkT : k ≤ T.length) (hT : T.length < 1000000) : Spec w mean mg mb 5 150 [.ref c] (curLed c d h1 h2 t1 t2 T tt k ti rest) rest
     (fun v l => (readFault charB T k = none ∧ 0 ≤ quoteOut T k ∧ quoteOut T k ≤ T.length) ∧ ∃ t, v = .str (quoteTxt T k) t ∧ ∃ t, l = curLed c d h1 h2 t1 t2 T tt (quoteOut T k) t rest)
     (fun p => readFault charB T k = some p) :=
  (s_system w mean mg mb c d h1 h2 t1 t2 tt ti T k rest hcd hne hk0 hkT hT).mono (fun v l ⟨a, ⟨t, b⟩, e⟩ => ⟨⟨a, by
    obtain ⟨q1, q2, -⟩ := rf_inv a
    have := quote_bounds q1 hk0 q2
    omega⟩, t, b, e⟩) fun _ h => h
theorem s_public2 (hcd : c ≠ d) (hne : ∀ p ∈ rest, p.1 ≠ d) (hk0 : 0 ≤ k) (hkT : k ≤ T.length) (hT : T.length < 1000000) : Spec w mean mg mb 5 143 [.ref c] (curLed c d h1 h2 t1 t2 T tt k ti rest) rest
     (fun v l => (readFault publicC T k = none ∧ 0 ≤ quoteOut T k ∧ quoteOut T k ≤ T.length) ∧ ∃ t, v = .str (normF (quoteTxt T k)) t ∧ ∃ t, l = curLed c d h1 h2 t1 t2 T tt (quoteOut T k) t rest)
     (fun p => readFault publicC T k = some p) :=
  (s_public w mean mg mb c d h1 h2 t1 t2 tt ti T k rest hcd hne hk0 hkT hT).mono (fun v l ⟨a, ⟨t, b⟩, e⟩ => ⟨⟨a, by
    obtain ⟨q1, q2, -⟩ := rf_inv a
    have := quote_bounds q1 hk0 q2
    omega⟩, t, b, e⟩) fun _ h => h
theorem s_outer (hcd : c ≠ d) (hne : ∀ p ∈ rest, p.1 ≠ d) (hk0 : 0 ≤ k) (hkT : k ≤ T.length) (hT : T.length < 1000000) : Spec w mean mg mb 4 157 [.ref c] (curLed c d h1 h2 t1 t2 T tt k ti rest) rest
     (fun v l => OutRet (fun k ti => curLed c d h1 h2 t1 t2 T tt k ti rest) (outerF T k) v l) (fun p => outerF T k = .fault p) := by
  k_with_none
  (k_with "ktr_room" => (simp only [depth_under_make, depth_under_kw, depth_in1, depth_deeper, depth_caller, units_in1, units_deeper, Around.mark_units, units_caller] at *; dsimp only [around, aroundE] at *; (try simp only [recursionLimit, cLine] at *); omega))
  (k_with "exec Raise some none" => (k_here; k_dflt (refine' raise_made ?zqX ?zqq ?zqhh ?_; (case zqX => k_asm); (case zqq => kts_isx); (case zqhh => exact rfl); k_whole)))
  (k_with "call ref" => (k_here; (with_reducible show wpAny _ _ (call (Value.ref 122) _) _ _ _); k_dflt (refine' fault_in ?zqB ?zqF ?zqX ?zqN ?zqT ?zqf ?zqk ?zqd ?zqu ?_; (case zqf => first | exact rfl | assumption); (case zqB => k_asm); (case zqF => k_asm); (case zqX => k_asm); (case zqN => k_asm); (case zqT => k_asm); (case zqk => first | exact rfl | assumption); (case zqd => ktr_room); (case zqu => ktr_room); k_whole); intro e'Z dx'Z tu'Z h'Z tk'Z h1'Z h2'Z t1'Z t2'Z n'Z F'Z N'Z ne'Z; (try k_sweep)))
  (k_with "Thrown" => (k_here; k_dflt (refine' thrown_ ?zqF ?zqX ?zqN ?zqm ?_; (case zqF => k_asm); (case zqX => k_asm); (case zqN => k_asm); (case zqm => k_mem); k_whole)))
  (k_with "leaving ref" => (k_here; k_dflt (refine' raise_leaves ?zqK ?zqF ?zqN ?zqne ?zqc ?zqx ?zqd ?zqo ?_ ?zqk; (case zqF => assumption); (case zqN => assumption); (case zqK => assumption); (case zqne => assumption); (case zqc => exact rfl); (case zqx => exact rfl); (case zqd => exact rfl); (case zqo => exact rfl); (case zqk => exact rfl); k_whole); intro h'Z R'Z U'Z; (try dsimp only at R'Z U'Z ⊢)))
  (k_with "cell_enter" => (refine' code_def ?zqk1 ?zqk2 ?zqk3 ?zqk4 ?zqk5 ?zqkA ?zqkF ?zqkK ?zqk6 ?zqk7 ?zqk8 ?zqk9 ?zqkB ?_ ?zqc2 ?zqc3 ?zqc4 ?zqc5; (case zqkA => exact rfl); (case zqkF => first | exact rfl | assumption); (case zqkK => assumption); (case zqk1 => k_asm); (case zqk2 => k_asm); (case zqk3 => k_asm); (case zqk4 => k_asm); (case zqk5 => k_asm); (case zqk6 => k_is); (case zqk7 => k_is); (case zqk8 => ktr_room); (case zqk9 => first | exact BindsTo.of_eq rfl | exact binds_K (by k_in) rfl (by k_is) rfl rfl rfl); (case zqc5 => decide); (case zqkB => exact locs rfl); (case zqc2 => exact rfl); (case zqc3 => exact rfl); (case zqc4 => exact rfl); k_whole; intro g'Z L'Z h'Z FG'Z F'Z N'Z B'Z X'Z T'Z; (try dsimp only); (try k_lift B'Z); (try k_fold)))
  (k_with "leaving ref" => (k_here; k_dflt (refine' pass_leaves ?zqK ?zqF ?zqR ?zqU ?_; (case zqR => assumption); (case zqF => assumption); (case zqK => assumption); (case zqU => assumption); k_whole); intro h'Z R'Z U'Z; (try dsimp only at R'Z U'Z ⊢)))
  (k_with "tb_rel" => first | exact subSelf | exact subNil | (refine subCons ?zqa ?zqb; (case zqa => k_mem); (case zqb => tb_rel)) | (refine subInto ?_; tb_rel))
  (k_with "kts_go" => (refine' code_defS ?zqk1 ?zqk2 ?zqk3 ?zqk4 ?zqk5 ?zqXB ?zqTB ?zqD ?zqT0 ?zqkA ?zqk6 ?zqk7 ?zqk8 ?zqk9 ?zqkB ?_ ?zqcK ?zqc2 ?zqc3 ?zqc4 ?zqc5; (case zqkA => exact rfl); (case zqk2 => k_asm); (case zqk1 => k_asm); (case zqXB => assumption); (case zqTB => assumption); (case zqD => assumption); (case zqT0 => first | assumption | exact KtsTurn.refl); (case zqk3 => k_asm); (case zqk4 => k_asm); (case zqk5 => k_asm); (case zqk6 => k_is); (case zqk7 => k_is); (case zqk8 => ktr_room); (case zqk9 => first | exact BindsTo.of_eq rfl | exact binds_K (by k_in) rfl (by k_is) rfl rfl rfl | fail "kts_go: no rule for these arguments"); (case zqkB => exact locs rfl); (case zqcK => assumption); (case zqc2 => exact rfl); (case zqc3 => exact rfl); (case zqc4 => exact rfl); (case zqc5 => decide); k_whole; intro g'Z L'Z h'Z FG'Z F'Z N'Z B'Z X'Z T'Z D'Z; (try dsimp only); (try k_lift B'Z); (try k_fold)))
  (k_with "noteFrame ref" => (k_here; k_dflt (refine' caught_as ?zqR ?zqF ?zqK ?zqU ?zqXB ?zqTB ?zqD ?zqT0 ?zqex ?zqq ?_; (case zqR => assumption); (case zqF => assumption); (case zqK => assumption); (case zqU => assumption); (case zqXB => assumption); (case zqTB => assumption); (case zqD => assumption); (case zqT0 => first | assumption | exact KtsTurn.refl); (case zqq => kts_isx); (case zqex => k_is); k_whole); intro h'Z g'Z oeZ vsZ tk'Z T'Z F'Z hcZ hxZ hdZ N'Z K'Z X'Z P'Z D'Z; (try k_lift K'Z); (try k_sweep)))
  (k_with "call ref" => (k_here; (with_reducible show wpAny _ _ (call (Value.ref 216) _) _ _ _); k_dflt (refine' Spec.use (s_skip2 _ _ _ _ _ _ _ _ _ _ _ _ _ _ _ _ _ ?zqp1 ?zqp2 ?zqp3 ?zqp4 ?zqp5 ?zqp6) ?zqB ?zqF ?zqX ?zqN ?zqT ?zqf ?zqk ?zqd ?zqu ?_ ?zqexc; (case zqf => first | exact rfl | assumption); (case zqB => k_asm); (case zqF => k_asm); (case zqX => k_asm); (case zqN => first | assumption | exact front1 (by assumption) | exact front2 (by assumption) | exact front3 (by assumption)); (case zqT => k_asm); (case zqk => first | exact rfl | assumption); (case zqd => ktr_room); (case zqu => ktr_room); (case zqp1 => assumption); (case zqp2 => assumption); (case zqp3 => assumption); (case zqp4 => assumption); (case zqp5 => assumption); (case zqp6 => decide); (case zqexc => (intro kZ eZ dxZ gZ h'Z tk'Z h1Z h2Z t1Z t2Z nZ v1Z uZ hEZ; exact hEZ.elim)); (intro vZ lZ h'Z tk'Z hRZ F'Z N'Z; (try dsimp only at hRZ); obtain ⟨e1Z, ⟨hb1Z, hb2Z⟩, _, e2Z⟩ := hRZ; subst e1Z; subst e2Z; (try k_sweep); (try dsimp only)))))
  (k_with "call ref" => (k_here; (with_reducible show wpAny _ _ (call (Value.ref 251) _) _ _ _); k_dflt (refine' Spec.use (s_need2 _ _ _ _ _ _ _ _ _ _ _ _ _ _ _ ?zqp1 ?zqp2 ?zqp3 ?zqp4 ?zqp5) ?zqB ?zqF ?zqX ?zqN ?zqT ?zqf ?zqk ?zqd ?zqu ?_ ?_; (case zqf => first | exact rfl | assumption); (case zqB => k_asm); (case zqF => k_asm); (case zqX => k_asm); (case zqN => first | assumption | exact front1 (by assumption) | exact front2 (by assumption) | exact front3 (by assumption)); (case zqT => k_asm); (case zqk => first | exact rfl | assumption); (case zqd => ktr_room); (case zqu => ktr_room); (case zqp1 => assumption); (case zqp2 => assumption); (case zqp3 => assumption); (case zqp4 => assumption); (case zqp5 => assumption); rotate_left; (intro kZ eZ dxZ gZ h'Z tk'Z h1Z h2Z t1Z t2Z nZ v1Z uZ hEZ F'Z U'Z R'Z; (try dsimp only at hEZ); obtain ⟨hxZ, e1Z⟩ := hEZ; subst e1Z; (try k_sweep); (try dsimp only)); rotate_right; (intro vZ lZ h'Z tk'Z hRZ F'Z N'Z; (try dsimp only at hRZ); obtain ⟨⟨hb0Z, hb1Z, hb2Z⟩, e1Z, _, e2Z⟩ := hRZ; subst e1Z; subst e2Z; (try k_sweep); (try dsimp only)))))
  (k_with "call ref" => (k_here; (with_reducible show wpAny _ _ (call (Value.ref 150) _) _ _ _); k_dflt (refine' Spec.use (s_system2 _ _ _ _ _ _ _ _ _ _ _ _ _ _ _ ?zqp1 ?zqp2 ?zqp3 ?zqp4 ?zqp5) ?zqB ?zqF ?zqX ?zqN ?zqT ?zqf ?zqk ?zqd ?zqu ?_ ?_; (case zqf => first | exact rfl | assumption); (case zqB => k_asm); (case zqF => k_asm); (case zqX => k_asm); (case zqN => first | assumption | exact front1 (by assumption) | exact front2 (by assumption) | exact front3 (by assumption)); (case zqT => k_asm); (case zqk => first | exact rfl | assumption); (case zqd => ktr_room); (case zqu => ktr_room); (case zqp1 => assumption); (case zqp2 => assumption); (case zqp3 => assumption); (case zqp4 => assumption); (case zqp5 => assumption); rotate_left; (intro kZ eZ dxZ gZ h'Z tk'Z h1Z h2Z t1Z t2Z nZ v1Z uZ hEZ F'Z U'Z R'Z; (try k_sweep); (try dsimp only)); rotate_right; (intro vZ lZ h'Z tk'Z hRZ F'Z N'Z; (try dsimp only at hRZ); obtain ⟨⟨hb0Z, hb1Z, hb2Z⟩, _, e1Z, _, e2Z⟩ := hRZ; subst e1Z; subst e2Z; (try k_sweep); (try dsimp only)))))
  (k_with "call ref" => (k_here; (with_reducible show wpAny _ _ (call (Value.ref 143) _) _ _ _); k_dflt (refine' Spec.use (s_public2 _ _ _ _ _ _ _ _ _ _ _ _ _ _ _ ?zqp1 ?zqp2 ?zqp3 ?zqp4 ?zqp5) ?zqB ?zqF ?zqX ?zqN ?zqT ?zqf ?zqk ?zqd ?zqu ?_ ?_; (case zqf => first | exact rfl | assumption); (case zqB => k_asm); (case zqF => k_asm); (case zqX => k_asm); (case zqN => first | assumption | exact front1 (by assumption) | exact front2 (by assumption) | exact front3 (by assumption)); (case zqT => k_asm); (case zqk => first | exact rfl | assumption); (case zqd => ktr_room); (case zqu => ktr_room); (case zqp1 => assumption); (case zqp2 => assumption); (case zqp3 => assumption); (case zqp4 => assumption); (case zqp5 => assumption); rotate_left; (intro kZ eZ dxZ gZ h'Z tk'Z h1Z h2Z t1Z t2Z nZ v1Z uZ hEZ F'Z U'Z R'Z; (try k_sweep); (try dsimp only)); rotate_right; (intro vZ lZ h'Z tk'Z hRZ F'Z N'Z; (try dsimp only at hRZ); obtain ⟨⟨hb0Z, hb1Z, hb2Z⟩, _, e1Z, _, e2Z⟩ := hRZ; subst e1Z; subst e2Z; (try k_sweep); (try dsimp only)))))
  unfold Spec
  k_fill
  intro dp un gd env outer A₀ base h₀ L m s Q E B F X N TP hf hk hdp hun hret hexc
  dsimp only [curLed] at N
  refine wpAny_call ?_
  k_dflt cell_enter
  k_steps
  · refine' hret _ _ _ _ ?g1 ?F1 ?N1
    (case F1 => assumption)
    (case N1 => assumption)
    (case g1 => (rw [o_sys (by assumption) (by assumption) (by assumption)]; exact ⟨_, _, _, rfl, by assumption, rfl⟩))
  · refine' hexc _ _ _ _ _ _ _ _ _ _ _ _ _ (o_sysF (by assumption) (by assumption) (by assumption)) ?F2 ?U2 (Raised.mono ?R2 ?S2)
    (case R2 => assumption)
    (case F2 => assumption)
    (case U2 => assumption)
    (case S2 => tb_rel)
  · refine' hexc _ _ _ _ _ _ _ _ _ _ _ _ _ (o_sysN (by assumption) (by assumption)) ?F3 ?U3 (Raised.mono ?R3 ?S3)
    (case R3 => assumption)
    (case F3 => assumption)
    (case U3 => assumption)
    (case S3 => tb_rel)
  · refine' hret _ _ _ _ ?g4 ?F4 ?N4
    (case F4 => assumption)
    (case N4 => assumption)
    (case g4 => (rw [o_pub (by assumption) (by assumption) (by assumption) (by assumption) (by assumption) (by assumption)]; exact ⟨_, _, _, _, rfl, by assumption, rfl⟩))
  · refine' hexc _ _ _ _ _ _ _ _ _ _ _ _ _ (o_pubS (by assumption) (by assumption) (by assumption) (by assumption) (by assumption) (by assumption)) ?F5 ?U5 (Raised.mono ?R5 ?S5)
    (case R5 => assumption)
    (case F5 => assumption)
    (case U5 => assumption)
    (case S5 => tb_rel)
  · refine' hexc _ _ _ _ _ _ _ _ _ _ _ _ _ (o_pubM (by assumption) (by assumption) (by assumption) (by assumption) (by assumption)) ?F6 ?U6 (Raised.mono ?R6 ?S6)
    (case R6 => assumption)
    (case F6 => assumption)
    (case U6 => assumption)
    (case S6 => tb_rel)
  · refine' hexc _ _ _ _ _ _ _ _ _ _ _ _ _ (o_pubF (by assumption) (by assumption) (by assumption) (by assumption)) ?F7 ?U7 (Raised.mono ?R7 ?S7)
    (case R7 => assumption)
    (case F7 => assumption)
    (case U7 => assumption)
    (case S7 => tb_rel)
  · refine' hexc _ _ _ _ _ _ _ _ _ _ _ _ _ (o_pubN (by assumption) (by assumption) (by assumption)) ?F8 ?U8 (Raised.mono ?R8 ?S8)
    (case R8 => assumption)
    (case F8 => assumption)
    (case U8 => assumption)
    (case S8 => tb_rel)
  · refine' hret _ _ _ _ ?g9 ?F9 ?N9
    (case F9 => assumption)
    (case N9 => assumption)
    (case g9 => (rw [o_no (by assumption) (by assumption)]; exact ⟨_, _, rfl, by assumption, rfl⟩))
end
end Mine
end
theorem Mine.resetYHeard : True := by w_top off; k_with_none; exact trivial
section
open PySem PySem.Spec PySem.Calls PyProof.Rows PySem.W
namespace Mine
theorem exc_get {prog : Program} {w : World} {A : Around} {E : Value → Shared → Prop} {s : Shared} {K : Frag} {x C L : Addr} {ox : Obj} {name : Str} {expr : Bool} {Q : Value → Shared → Prop} {h₀ : Heap} {m : Str → Option Value} {attr : Option Value} {es : List DictEntry} {n : Nat} {v : Value}
   (F : Fr h₀ L s.heap m) (X₀ : K.In h₀) (I : W.InstAt s.heap x ox C (some (dictOf es n))) (hga : findIn K (.ref C) "__getattribute__" = some (some (.builtin "BaseException.__getattribute__"))) (hgn : findIn K (.ref C) "__getattr__" = some none)
    (hsub : mroIn K C (.type "BaseException") = some true) (hh : hasDictIn K C = true) (ha : findIn K (.ref C) name = some attr) (hn : noGet K attr = true) (hl : getL name es = some (some v)) (hv : handedIn v = true) (h : Q v { s with toks := s.toks + 1 }) :
    wpAny (model prog w) A (getAttr (.ref x) name expr) Q E s := exc_attr (X₀.keeps F.keep) I hga hgn hsub (findObj_own hh ha hn hl) hv h
theorem exc_inst {h₀ h : Heap} {L e dx C : Addr} {oe od : Obj} {vs : Array Value} {rest : Led} (N : News h₀ L h ((e, oe) :: (dx, od) :: rest)) (hc : oe.cls = .ref C) (hx : oe.dict = some dx) (hd : oe.data = .fields vs) : W.InstAt h e oe C (some od) := by
  refine ⟨(N _ (.head _)).1, hc, ?_, ?_⟩
  · unfold notCls; rw [hd]
  · rw [hx]; exact (N _ (.tail _ (.head _))).1
def SpecT (w : World) (mean : ExcName → Option Value) (mg mb : Str → Option Value) (lv : Nat) (f : Addr) (vs : List Value) (news : Led) (Ret : Value → Led → Prop) : Prop :=
  ∀ (dp un : Nat) (gd : Option (List Code)) (cn : Str) (cs : Scope) (a : Addr) (ccd : Value) (outer : List Env) (A₀ : Around) (base g₀ h₀ : Heap) (L : Addr) (m : Str → Option Value) (s : Shared) (Q E : Value → Shared → Prop),
    Below A₀ base outer h₀ → Fr h₀ L s.heap m → (hd.heap_1 w.params).In h₀ → News h₀ L s.heap news → Top viewQ (looseW viewQ [Str.ofString "SyntaxFault"]) mean mg mb h₀ →
    (hd.heap_1 w.params).In base → Top viewQ (looseW viewQ [Str.ofString "SyntaxFault"]) mean mg mb base → KtsDicts (outer.filterMap (·.frame)) h₀ → KtsTurn (outer.filterMap (·.frame)) g₀ h₀ →
    cs.kind = .function → dp ≤ 310 + 10 * lv → un ≤ 40 + 30 * lv →
    (∀ v news' h' tk' h₀', KtsTurn (outer.filterMap (·.frame)) g₀ h₀' → Ret v news' → Fr h₀' L h' m → News h₀' L h' news' → Below A₀ base outer h₀' → (hd.heap_1 w.params).In h₀' → Top viewQ (looseW viewQ [Str.ofString "SyntaxFault"]) mean mg mb h₀' → KtsDicts (outer.filterMap (·.frame)) h₀' → Q v { s with heap := h', toks := tk' }) →
    wpAny (model PySem.Challenge.rw_xw0204_01.row.prog w) (around dp un gd cn cs L a ccd outer) (call (.ref f) vs) Q E s
theorem ne_below {rest : Led} {d : Addr} (h : ∀ p ∈ rest, p.1 < d) : ∀ p ∈ rest, p.1 ≠ d := fun p hp => Nat.ne_of_lt (h p hp)
theorem ne_above {d x : Addr} (h : d < x) : x ≠ d := Nat.ne_of_gt h
def HeardRet (rest : Led) (mk : Tok → Tok → Obj) (v : Value) (l : Led) : Prop := ∃ q t u, v = .ref q ∧ AllLt q rest ∧ l = (q, mk t u) :: rest
def FaultRet (rest : Led) (p : Int) (v : Value) (l : Led) : Prop := HeardRet rest (fun t u => pairObj (.str (Str.ofString "fault") t) (.int p u)) v l
def TextRet (rest : Led) (x : Str) (k : Int) (v : Value) (l : Led) : Prop := HeardRet rest (fun t u => pairObj (.str x t) (.int k u)) v l
def OutObj (o : Out) (k' : Int) (ov : Obj) : Prop := match o with
  | .fault _ => False
  | .sys x k => k' = k ∧ ∃ t, ov = pairObj .none (.str x t)
  | .pub p x k => k' = k ∧ ∃ t u, ov = pairObj (.str p u) (.str x t)
  | .no k => k' = k ∧ ov = pairObj .none .none
theorem outObj_of {cl : Int → Tok → Led} {o : Out} {v : Value} {l : Led} (h : OutRet cl o v l) : ∃ q ov k' ti, OutObj o k' ov ∧ v = .ref q ∧ AllLt q (cl k' ti) ∧ l = (q, ov) :: cl k' ti := by
  cases o with
  | fault p => exact h.elim
  | sys x k => obtain ⟨q, t, ti, rfl, a, rfl⟩ := h; exact ⟨q, _, k, ti, ⟨rfl, _, rfl⟩, rfl, a, rfl⟩
  | pub p x k => obtain ⟨q, t, u, ti, rfl, a, rfl⟩ := h; exact ⟨q, _, k, ti, ⟨rfl, _, _, rfl⟩, rfl, a, rfl⟩
  | no k => obtain ⟨q, ti, rfl, a, rfl⟩ := h; exact ⟨q, _, k, ti, ⟨rfl, rfl⟩, rfl, a, rfl⟩
def HeardOut (rest : Led) (o : Out) (v : Value) (l : Led) : Prop := (∃ p, o = .fault p ∧ FaultRet rest p v l) ∨
  ∃ q q2 ov k' u, OutObj o k' ov ∧ v = .ref q ∧ q2 < q ∧ AllLt q rest ∧ AllLt q2 rest ∧ l = (q, pairObj (.ref q2) (.int k' u)) :: (q2, ov) :: rest
def HeardText (rest : Led) (f : Option Int) (x : Str) (k : Int) (v : Value) (l : Led) : Prop := match f with
  | some p => FaultRet rest p v l
  | none => TextRet rest x k v l
theorem allLt_below {q d : Addr} : ∀ {rest : Led}, d < q → (∀ p ∈ rest, p.1 < d) → AllLt q rest := fun hq h => allLt_of fun p hp => Nat.lt_trans (h p hp) hq
theorem allLt_any {q : Addr} {rest : Led} (h : ∀ p ∈ rest, p.1 < q) : AllLt q rest := allLt_of h
section
variable {h₀ h : Heap} {L q q2 : Addr} {p1 p2 p3 p4 p5 : Addr × Obj} {rest : Led} {f : Option Int} {x y : Str} {k j : Int} {t u t2 : Tok}
theorem allLt_rest {p1 p2 : Addr × Obj} {rest : Led} {q : Addr} (h : AllLt q (p1 :: p2 :: rest)) : AllLt q rest := h.2.2
theorem end_text (hf : f = none) (N : News h₀ L h ((q, pairObj (.str x t) (.int k u)) :: p1 :: p2 :: rest)) (a : AllLt q (p1 :: p2 :: rest)) :
    HeardText rest f x k (.ref q) ((q, pairObj (.str x t) (.int k u)) :: rest) ∧ News h₀ L h ((q, pairObj (.str x t) (.int k u)) :: rest) := by
  subst hf
  exact ⟨⟨_, _, _, rfl, a.2.2, rfl⟩, cb_drop N (by intro p hp; simp only [List.mem_cons] at hp ⊢; grind)⟩
theorem end_fault (hf : f = some j) (N : News h₀ L h ((q, pairObj (.str (Str.ofString "fault") t) (.int j u)) :: p1 :: p2 :: rest)) (a : AllLt q (p1 :: p2 :: rest)) :
    HeardText rest f x k (.ref q) ((q, pairObj (.str (Str.ofString "fault") t) (.int j u)) :: rest) ∧ News h₀ L h ((q, pairObj (.str (Str.ofString "fault") t) (.int j u)) :: rest) := by
  subst hf
  exact ⟨⟨_, _, _, rfl, a.2.2, rfl⟩, cb_drop N (by intro p hp; simp only [List.mem_cons] at hp ⊢; grind)⟩
theorem end_outF {o : Out} (hf : o = .fault j) (N : News h₀ L h ((q, pairObj (.str (Str.ofString "fault") t) (.int j u)) :: p1 :: p2 :: rest)) (a : AllLt q (p1 :: p2 :: rest)) :
    HeardOut rest o (.ref q) ((q, pairObj (.str (Str.ofString "fault") t) (.int j u)) :: rest) ∧ News h₀ L h ((q, pairObj (.str (Str.ofString "fault") t) (.int j u)) :: rest) :=
  ⟨.inl ⟨_, hf, _, _, _, rfl, a.2.2, rfl⟩, cb_drop N (by intro p hp; simp only [List.mem_cons] at hp ⊢; grind)⟩
theorem end_outP {o : Out} {ov : Obj} (hf : OutObj o k ov) (N : News h₀ L h ((q, pairObj (.ref q2) (.int k u)) :: (q2, ov) :: p1 :: p2 :: rest)) (a : AllLt q ((q2, ov) :: p1 :: p2 :: rest)) (b : AllLt q2 (p1 :: p2 :: rest)) :
    HeardOut rest o (.ref q) ((q, pairObj (.ref q2) (.int k u)) :: (q2, ov) :: rest) ∧ News h₀ L h ((q, pairObj (.ref q2) (.int k u)) :: (q2, ov) :: rest) :=
  ⟨.inr ⟨_, _, _, _, _, hf, rfl, a.1, a.2.2.2, b.2.2, rfl⟩, cb_drop N (by intro p hp; simp only [List.mem_cons] at hp ⊢; grind)⟩
end
set_option maxRecDepth 100000
set_option maxHeartbeats 8000000
section
variable (w : World) (mean : ExcName → Option Value) (mg mb : Str → Option Value) (T : Str) (k : Int) (rest : Led) (tt ti : Tok)
theorem s_heard_sys (tw : Tok) (hk0 : 0 ≤ k) (hkT : k ≤ T.length) (hT : T.length < 1000000) :
   SpecT w mean mg mb 3 307 [.str T tt, .int k ti, .str (Str.ofString "system") tw] rest (fun v l => HeardText rest (readFault charB T k) (quoteTxt T k) (quoteOut T k) v l) := by
  k_with_none
  (k_with "ktr_room" => first | ((try simp only [depth_under_make, depth_under_kw, depth_in1, depth_deeper, depth_caller, units_in1, units_deeper, Around.mark_units, units_caller]); (try dsimp only [around, aroundE]); (try simp only [recursionLimit, cLine]); omega) | (simp only [depth_under_make, depth_under_kw, depth_in1, depth_deeper, depth_caller, units_in1, units_deeper, Around.mark_units, units_caller] at *; dsimp only [around, aroundE] at *; (try simp only [recursionLimit, cLine] at *); omega))
  (k_with "exec Raise some none" => (k_here; k_dflt (refine' raise_made ?zqX ?zqq ?zqhh ?_; (case zqX => k_asm); (case zqq => kts_isx); (case zqhh => exact rfl); k_whole)))
  (k_with "call ref" => (k_here; (with_reducible show wpAny _ _ (call (Value.ref 122) _) _ _ _); k_dflt (refine' fault_in ?zqB ?zqF ?zqX ?zqN ?zqT ?zqf ?zqk ?zqd ?zqu ?_; (case zqf => first | exact rfl | assumption); (case zqB => k_asm); (case zqF => k_asm); (case zqX => k_asm); (case zqN => k_asm); (case zqT => k_asm); (case zqk => first | exact rfl | assumption); (case zqd => ktr_room); (case zqu => ktr_room); k_whole); intro e'Z dx'Z tu'Z h'Z tk'Z h1'Z h2'Z t1'Z t2'Z n'Z F'Z N'Z ne'Z; (try k_sweep)))
  (k_with "Thrown" => (k_here; k_dflt (refine' thrown_ ?zqF ?zqX ?zqN ?zqm ?_; (case zqF => k_asm); (case zqX => k_asm); (case zqN => k_asm); (case zqm => k_mem); k_whole)))
  (k_with "leaving ref" => (k_here; k_dflt (refine' raise_leaves ?zqK ?zqF ?zqN ?zqne ?zqc ?zqx ?zqd ?zqo ?_ ?zqk; (case zqF => assumption); (case zqN => assumption); (case zqK => assumption); (case zqne => assumption); (case zqc => exact rfl); (case zqx => exact rfl); (case zqd => exact rfl); (case zqo => exact rfl); (case zqk => exact rfl); k_whole); intro h'Z R'Z U'Z; (try dsimp only at R'Z U'Z ⊢)))
  (k_with "cell_enter" => (refine' code_def ?zqk1 ?zqk2 ?zqk3 ?zqk4 ?zqk5 ?zqkA ?zqkF ?zqkK ?zqk6 ?zqk7 ?zqk8 ?zqk9 ?zqkB ?_ ?zqc2 ?zqc3 ?zqc4 ?zqc5; (case zqkA => exact rfl); (case zqkF => first | exact rfl | assumption); (case zqkK => assumption); (case zqk1 => k_asm); (case zqk2 => k_asm); (case zqk3 => k_asm); (case zqk4 => k_asm); (case zqk5 => k_asm); (case zqk6 => k_is); (case zqk7 => k_is); (case zqk8 => ktr_room); (case zqk9 => first | exact BindsTo.of_eq rfl | exact binds_K (by k_in) rfl (by k_is) rfl rfl rfl); (case zqc5 => decide); (case zqkB => exact locs rfl); (case zqc2 => exact rfl); (case zqc3 => exact rfl); (case zqc4 => exact rfl); k_whole; intro g'Z L'Z h'Z FG'Z F'Z N'Z B'Z X'Z T'Z; (try dsimp only); (try k_lift B'Z); (try k_fold)))
  (k_with "leaving ref" => (k_here; k_dflt (refine' pass_leaves ?zqK ?zqF ?zqR ?zqU ?_; (case zqR => assumption); (case zqF => assumption); (case zqK => assumption); (case zqU => assumption); k_whole); intro h'Z R'Z U'Z; (try dsimp only at R'Z U'Z ⊢)))
  (k_with "tb_rel" => first | exact subSelf | exact subNil | (refine subCons ?zqa ?zqb; (case zqa => k_mem); (case zqb => tb_rel)) | (refine subInto ?_; tb_rel))
  (k_with "kts_go" => (refine' code_defS ?zqk1 ?zqk2 ?zqk3 ?zqk4 ?zqk5 ?zqXB ?zqTB ?zqD ?zqT0 ?zqkA ?zqk6 ?zqk7 ?zqk8 ?zqk9 ?zqkB ?_ ?zqcK ?zqc2 ?zqc3 ?zqc4 ?zqc5; (case zqkA => exact rfl); (case zqk2 => k_asm); (case zqk1 => k_asm); (case zqXB => assumption); (case zqTB => assumption); (case zqD => assumption); (case zqT0 => first | assumption | exact KtsTurn.refl); (case zqk3 => k_asm); (case zqk4 => k_asm); (case zqk5 => k_asm); (case zqk6 => k_is); (case zqk7 => k_is); (case zqk8 => ktr_room); (case zqk9 => first | exact BindsTo.of_eq rfl | exact binds_K (by k_in) rfl (by k_is) rfl rfl rfl | fail "kts_go: no rule for these arguments"); (case zqkB => exact locs rfl); (case zqcK => assumption); (case zqc2 => exact rfl); (case zqc3 => exact rfl); (case zqc4 => exact rfl); (case zqc5 => decide); k_whole; intro g'Z L'Z h'Z FG'Z F'Z N'Z B'Z X'Z T'Z D'Z; (try dsimp only); (try k_lift B'Z); (try k_fold)))
  (k_with "noteFrame ref" => (k_here; k_dflt (refine' caught_as ?zqR ?zqF ?zqK ?zqU ?zqXB ?zqTB ?zqD ?zqT0 ?zqex ?zqq ?_; (case zqR => assumption); (case zqF => assumption); (case zqK => assumption); (case zqU => assumption); (case zqXB => assumption); (case zqTB => assumption); (case zqD => assumption); (case zqT0 => first | assumption | exact KtsTurn.refl); (case zqq => kts_isx); (case zqex => k_is); k_whole); intro h'Z g'Z oeZ vsZ tk'Z T'Z F'Z hcZ hxZ hdZ N'Z K'Z X'Z P'Z D'Z; (try k_lift K'Z); (try k_sweep)))
  (k_with "getAttr ref" => (k_here; k_dflt (refine' exc_get ?zqk1 ?zqk2 ?zqk3 ?zqk4 ?zqk5 ?zqk6 ?zqk7 ?zqk8 ?zqk9 ?zqk10 ?zqk11 ?_; (case zqk1 => k_asm); (case zqk2 => k_asm); (case zqk3 => exact exc_inst (by k_asm) (by assumption) (by assumption) (by assumption)); (case zqk4 => k_is); (case zqk5 => k_is); (case zqk6 => k_is); (case zqk7 => k_is); (case zqk8 => k_is); (case zqk9 => k_is); (case zqk10 => k_get); (case zqk11 => k_handed); k_whole)))
  (k_with "call ref" => (k_here; (with_reducible show wpAny _ _ (call (Value.ref 143) _) _ _ _); k_dflt (refine' Spec.use (s_public2 _ _ _ _ _ _ _ _ _ _ _ _ _ _ _ ?zqp1 ?zqp2 ?zqp3 ?zqp4 ?zqp5) ?zqB ?zqF ?zqX ?zqN ?zqT ?zqf ?zqk ?zqd ?zqu ?_ ?_; (case zqf => first | exact rfl | assumption); (case zqB => k_asm); (case zqF => k_asm); (case zqX => k_asm); (case zqN => first | assumption | exact front1 (by assumption) | exact front2 (by assumption) | exact front3 (by assumption) | exact sf1 (by assumption) | exact sf2 (by assumption) | exact sf3 (by assumption) | exact sf4 (by assumption) | exact sf5 (by assumption) | exact sf6 (by assumption) | exact sf7 (by assumption) | exact one_led (by assumption) (by k_mem)); (case zqT => k_asm); (case zqk => first | exact rfl | assumption); (case zqd => ktr_room); (case zqu => ktr_room); (case zqp1 => exact ne_above (by assumption)); (case zqp2 => exact ne_below (by assumption)); (case zqp3 => assumption); (case zqp4 => assumption); (case zqp5 => assumption); rotate_left; (intro kZ eZ dxZ gZ h'Z tk'Z h1Z h2Z t1Z t2Z nZ v1Z uZ hEZ F'Z U'Z R'Z; (try k_sweep); (try dsimp only)); rotate_right; (intro vZ lZ h'Z tk'Z hRZ F'Z N'Z; (try dsimp only at hRZ); obtain ⟨⟨hb0Z, hb1Z, hb2Z⟩, _, e1Z, _, e2Z⟩ := hRZ; subst e1Z; subst e2Z; (try k_sweep); (try dsimp only)))))
  (k_with "call ref" => (k_here; (with_reducible show wpAny _ _ (call (Value.ref 150) _) _ _ _); k_dflt (refine' Spec.use (s_system2 _ _ _ _ _ _ _ _ _ _ _ _ _ _ _ ?zqp1 ?zqp2 ?zqp3 ?zqp4 ?zqp5) ?zqB ?zqF ?zqX ?zqN ?zqT ?zqf ?zqk ?zqd ?zqu ?_ ?_; (case zqf => first | exact rfl | assumption); (case zqB => k_asm); (case zqF => k_asm); (case zqX => k_asm); (case zqN => first | assumption | exact front1 (by assumption) | exact front2 (by assumption) | exact front3 (by assumption) | exact sf1 (by assumption) | exact sf2 (by assumption) | exact sf3 (by assumption) | exact sf4 (by assumption) | exact sf5 (by assumption) | exact sf6 (by assumption) | exact sf7 (by assumption) | exact one_led (by assumption) (by k_mem)); (case zqT => k_asm); (case zqk => first | exact rfl | assumption); (case zqd => ktr_room); (case zqu => ktr_room); (case zqp1 => exact ne_above (by assumption)); (case zqp2 => exact ne_below (by assumption)); (case zqp3 => assumption); (case zqp4 => assumption); (case zqp5 => assumption); rotate_left; (intro kZ eZ dxZ gZ h'Z tk'Z h1Z h2Z t1Z t2Z nZ v1Z uZ hEZ F'Z U'Z R'Z; (try k_sweep); (try dsimp only)); rotate_right; (intro vZ lZ h'Z tk'Z hRZ F'Z N'Z; (try dsimp only at hRZ); obtain ⟨⟨hb0Z, hb1Z, hb2Z⟩, _, e1Z, _, e2Z⟩ := hRZ; subst e1Z; subst e2Z; (try k_sweep); (try dsimp only)))))
  unfold SpecT
  k_fill
  intro dp un gd cn cs a ccd outer A₀ base g₀ h₀ L m s Q E B F X N TP XB TB D T0 hk hdp hun hret
  refine wpAny_call ?_
  k_dflt kts_go
  k_steps
  · (rename readFault _ _ _ = none => hr)
    refine' hret _ _ _ _ _ ?T1 (end_text hr ?N1 ?A1).1 ?F1 (end_text hr ?N1 ?A1).2 ?B1 ?X1 ?P1 ?D1
    (case N1 => assumption)
    (case A1 => first | assumption | exact allLt_of (by assumption))
    (case F1 => assumption)
    (case T1 => first | assumption | exact KtsTurn.refl)
    (case B1 => assumption)
    (case X1 => assumption)
    (case P1 => assumption)
    (case D1 => assumption)
  · (rename readFault _ _ _ = some _ => hr)
    refine' hret _ _ _ _ _ ?T2 (end_fault (x := quoteTxt T k) (k := quoteOut T k) hr ?N2 ?A2).1 ?F2 (end_fault (x := quoteTxt T k) (k := quoteOut T k) hr ?N2 ?A2).2 ?B2 ?X2 ?P2 ?D2
    (case N2 => assumption)
    (case A2 => first | assumption | exact allLt_of (by assumption))
    (case F2 => assumption)
    (case T2 => first | assumption | exact KtsTurn.refl)
    (case B2 => assumption)
    (case X2 => assumption)
    (case P2 => assumption)
    (case D2 => assumption)
theorem s_heard_pub (tw : Tok) (hk0 : 0 ≤ k) (hkT : k ≤ T.length) (hT : T.length < 1000000) :
   SpecT w mean mg mb 3 307 [.str T tt, .int k ti, .str (Str.ofString "public") tw] rest (fun v l => HeardText rest (readFault publicC T k) (normF (quoteTxt T k)) (quoteOut T k) v l) := by
  unfold SpecT
  k_fill
  intro dp un gd cn cs a ccd outer A₀ base g₀ h₀ L m s Q E B F X N TP XB TB D T0 hk hdp hun hret
  refine wpAny_call ?_
  k_dflt kts_go
  k_steps
  · (rename readFault _ _ _ = none => hr)
    refine' hret _ _ _ _ _ ?T1 (end_text hr ?N1 ?A1).1 ?F1 (end_text hr ?N1 ?A1).2 ?B1 ?X1 ?P1 ?D1
    (case N1 => assumption)
    (case A1 => first | assumption | exact allLt_of (by assumption))
    (case F1 => assumption)
    (case T1 => first | assumption | exact KtsTurn.refl)
    (case B1 => assumption)
    (case X1 => assumption)
    (case P1 => assumption)
    (case D1 => assumption)
  · (rename readFault _ _ _ = some _ => hr)
    refine' hret _ _ _ _ _ ?T2 (end_fault (x := normF (quoteTxt T k)) (k := quoteOut T k) hr ?N2 ?A2).1 ?F2 (end_fault (x := normF (quoteTxt T k)) (k := quoteOut T k) hr ?N2 ?A2).2 ?B2 ?X2 ?P2 ?D2
    (case N2 => assumption)
    (case A2 => first | assumption | exact allLt_of (by assumption))
    (case F2 => assumption)
    (case T2 => first | assumption | exact KtsTurn.refl)
    (case B2 => assumption)
    (case X2 => assumption)
    (case P2 => assumption)
    (case D2 => assumption)
theorem s_outer3 (c d : Addr) (h1 h2 : Int) (t1 t2 : Tok) (hcd : c ≠ d) (hne : ∀ p ∈ rest, p.1 ≠ d) (hk0 : 0 ≤ k) (hkT : k ≤ T.length) (hT : T.length < 1000000) : Spec w mean mg mb 4 157 [.ref c] (curLed c d h1 h2 t1 t2 T tt k ti rest) rest
     (fun v l => ∃ q ov k' ti', OutObj (outerF T k) k' ov ∧ v = .ref q ∧ AllLt q (curLed c d h1 h2 t1 t2 T tt k' ti' rest) ∧ l = (q, ov) :: curLed c d h1 h2 t1 t2 T tt k' ti' rest) (fun p => outerF T k = .fault p) :=
  (s_outer w mean mg mb c d h1 h2 t1 t2 tt ti T k rest hcd hne hk0 hkT hT).mono (fun _ _ h => outObj_of h) fun _ h => h
theorem s_heard_out (tw : Tok) (hk0 : 0 ≤ k) (hkT : k ≤ T.length) (hT : T.length < 1000000) :
   SpecT w mean mg mb 3 307 [.str T tt, .int k ti, .str (Str.ofString "outer") tw] rest (fun v l => HeardOut rest (outerF T k) v l) := by
  (k_with "call ref" => (k_here; (with_reducible show wpAny _ _ (call (Value.ref 157) _) _ _ _); k_dflt (refine' Spec.use (s_outer3 _ _ _ _ _ _ _ _ _ _ _ _ _ _ _ ?zqp1 ?zqp2 ?zqp3 ?zqp4 ?zqp5) ?zqB ?zqF ?zqX ?zqN ?zqT ?zqf ?zqk ?zqd ?zqu ?_ ?_; (case zqf => first | exact rfl | assumption); (case zqB => k_asm); (case zqF => k_asm); (case zqX => k_asm); (case zqN => first | assumption | exact front1 (by assumption) | exact front2 (by assumption) | exact front3 (by assumption) | exact sf1 (by assumption) | exact sf2 (by assumption) | exact sf3 (by assumption) | exact sf4 (by assumption) | exact sf5 (by assumption) | exact sf6 (by assumption) | exact sf7 (by assumption) | exact one_led (by assumption) (by k_mem)); (case zqT => k_asm); (case zqk => first | exact rfl | assumption); (case zqd => ktr_room); (case zqu => ktr_room); (case zqp1 => exact ne_above (by assumption)); (case zqp2 => exact ne_below (by assumption)); (case zqp3 => assumption); (case zqp4 => assumption); (case zqp5 => assumption); rotate_left; (intro kZ eZ dxZ gZ h'Z tk'Z h1Z h2Z t1Z t2Z nZ v1Z uZ hEZ F'Z U'Z R'Z; (try k_sweep); (try dsimp only)); rotate_right; (intro vZ lZ h'Z tk'Z hRZ F'Z N'Z; (try dsimp only at hRZ); obtain ⟨_, _, _, _, hoZ, e1Z, hltZ, e2Z⟩ := hRZ; subst e1Z; subst e2Z; (try k_sweep); (try dsimp only)))))
  unfold SpecT
  k_fill
  intro dp un gd cn cs a ccd outer A₀ base g₀ h₀ L m s Q E B F X N TP XB TB D T0 hk hdp hun hret
  refine wpAny_call ?_
  k_dflt kts_go
  k_steps
  · (rename OutObj _ _ _ => hr)
    refine' hret _ _ _ _ _ ?T1 (end_outP hr ?N1 ?A1 ?A3).1 ?F1 (end_outP hr ?N1 ?A1 ?A3).2 ?B1 ?X1 ?P1 ?D1
    (case N1 => assumption)
    (case A1 => first | assumption | exact allLt_of (by assumption))
    (case A3 => first | assumption | exact allLt_of (by assumption))
    (case F1 => assumption)
    (case T1 => first | assumption | exact KtsTurn.refl)
    (case B1 => assumption)
    (case X1 => assumption)
    (case P1 => assumption)
    (case D1 => assumption)
  · (rename outerF _ _ = .fault _ => hr)
    refine' hret _ _ _ _ _ ?T2 (end_outF hr ?N2 ?A2).1 ?F2 (end_outF hr ?N2 ?A2).2 ?B2 ?X2 ?P2 ?D2
    (case N2 => assumption)
    (case A2 => first | assumption | exact allLt_of (by assumption))
    (case F2 => assumption)
    (case T2 => first | assumption | exact KtsTurn.refl)
    (case B2 => assumption)
    (case X2 => assumption)
    (case P2 => assumption)
    (case D2 => assumption)
end
end Mine
end
section
open PySem PySem.Spec PySem.Calls PyProof.Rows PySem.W
namespace Mine
section
variable {prog : Program} {w : World} {A A₀ : Around} {E : Value → Shared → Prop} {s : Shared} {env : Env} {target : PySem.Expr} {body : List Stmt} {Q : Flow → Shared → Prop} {base h₀ g₀ : Heap} {outer : List Env} {K : Frag} {p : Program} {loose : List Str} {mean : ExcName → Option Value} {mg mb : Str → Option Value}
def TurnT (A₀ : Around) (base : Heap) (outer : List Env) (K : Frag) (p : Program) (loose : List Str) (mean : ExcName → Option Value) (mg mb : Str → Option Value) (g₀ : Heap) (L : Addr) (news : Led) (s : Shared) (Q : Flow → Shared → Prop) (f : Flow) (s₂ : Shared) : Prop :=
  match f with
  | .ret v => Q (.ret v) s₂
  | .brk => Q .next s₂
  | _ => ∃ h' tk' g' m', s₂ = { s with heap := h', toks := tk' } ∧ KtsTurn (outer.filterMap (·.frame)) g₀ g' ∧ Fr g' L h' m' ∧ News g' L h' news ∧ Below A₀ base outer g' ∧ K.In g' ∧ Top p loose mean mg mb g' ∧ KtsDicts (outer.filterMap (·.frame)) g'
theorem for_turning {l : Addr} {n : Nat} {vs : List Value} {mm : Str → Option Value} {news : Led} (hh : A.handled = none) (hE : PassesOwn (model prog w) A env E)
    (F : Fr h₀ env.locals s.heap mm) (N : News h₀ env.locals s.heap news) (hl : (l, listOf vs.toArray n) ∈ news) (B : Below A₀ base outer h₀) (X : K.In h₀) (T : Top p loose mean mg mb h₀) (D : KtsDicts (outer.filterMap (·.frame)) h₀) (T0 : KtsTurn (outer.filterMap (·.frame)) g₀ h₀)
    (turn : ∀ (I : Addr) (io : Obj) (i : Nat) (v : Value) (h : Heap) (tk : Nat) (g : Heap) (m' : Str → Option Value), (∀ q ∈ news, q.1 < I) → vs[i]? = some v → KtsTurn (outer.filterMap (·.frame)) g₀ g → Fr g env.locals h m' → News g env.locals h ((I, io) :: news) → Below A₀ base outer g → K.In g → Top p loose mean mg mb g → KtsDicts (outer.filterMap (·.frame)) g →
      wpAny (model prog w) A (assign target env v) (fun _ s₃ => wpAny (model prog w) A (execs body env) (TurnT A₀ base outer K p loose mean mg mb g₀ env.locals ((I, io) :: news) { s with heap := h, toks := tk } Q) E s₃) E { s with heap := h, toks := tk })
    (done : ∀ h tk g m', KtsTurn (outer.filterMap (·.frame)) g₀ g → Fr g env.locals h m' → News g env.locals h news → Below A₀ base outer g → K.In g → Top p loose mean mg mb g → KtsDicts (outer.filterMap (·.frame)) g → Q .next { s with heap := h, toks := tk }) :
    wpAny (model prog w) A (pyIter (.ref l)) (fun it s₂ => codeAny (model prog w) A (.forLoop target it body [] env) (fun r s' => match r with | .ok f => Q f s' | .error e => cameBackBy (model prog w) A env E e s') s₂) E s := by
  have hls : s.heap.IsList l vs.toArray := ⟨_, (N _ hl).1, rfl, _, rfl⟩
  refine wpAny_pyIter_list hls ?_
  have hIh₀ : h₀.get? s.heap.objs.size = none := next_is_new F
  have hIL : s.heap.objs.size ≠ env.locals := fun e => absurd F.ns.lt (e ▸ Nat.lt_irrefl _)
  have hIn : ∀ q ∈ news, q.1 < s.heap.objs.size := fun q hq => Heap.lt_size (N q hq).1
  refine codeAny_forLoop_any
    (fun k s' => ∃ h' tk g m' i, s' = { s with heap := h', toks := tk } ∧ h'.IsListIter s.heap.objs.size l i ∧ KtsTurn (outer.filterMap (·.frame)) g₀ g ∧ Fr g env.locals h' m' ∧ News g env.locals h' news ∧ g.get? s.heap.objs.size = none ∧ Below A₀ base outer g ∧ K.In g ∧ Top p loose mean mg mb g ∧ KtsDicts (outer.filterMap (·.frame)) g ∧ i ≤ vs.length ∧ k = vs.length + 1 - i) ?_ (vs.length + 1)
    ⟨_, s.toks, h₀, mm, 0, rfl, ⟨_, Heap.get?_push_size _ rfl, rfl, rfl⟩, T0, F.push _, fun q hq => ⟨Heap.get?_push_of_some _ (N q hq).1, (N q hq).2⟩, hIh₀, B, X, T, D, Nat.zero_le _, rfl⟩
  rintro k s' ⟨h', tk, g, m', i, rfl, hit, T', F', N', hIg, B', X', P', D', hi, rfl⟩
  have hl' : h'.IsList l vs.toArray := ⟨_, (N' _ hl).1, rfl, _, rfl⟩
  have next : ∀ h₁ : Heap, Heap.ExtBut s.heap.objs.size h' h₁ → Fr g env.locals h₁ m' ∧ News g env.locals h₁ news := fun h₁ hk₁ =>
    ⟨⟨F'.ns.at' fun o e => hk₁ _ o (Ne.symm hIL) e, fun b o e => hk₁ b o (fun z => by rw [z, hIg] at e; cases e) (F'.keep b o e), F'.above⟩, fun q hq => ⟨hk₁ _ _ (Nat.ne_of_lt (hIn q hq)) (N' q hq).1, (N' q hq).2⟩⟩
  by_cases hlt : i < vs.length
  · refine wpAny_pyNext_list_item hit hl' (x := vs[i]) (by simp [hlt]) fun h₁ hit₁ hs₁ => ?_
    refine letGo_listiter hit₁ ?_
    obtain ⟨F₁, N₁⟩ := next h₁ hs₁.extBut
    obtain ⟨o, ho, hoc, hod⟩ := hit₁
    have N₂ : News g env.locals h₁ ((s.heap.objs.size, o) :: news) := fun q hq => by
      rcases List.mem_cons.mp hq with rfl | hq
      · exact ⟨ho, hIL, hIg⟩
      · exact N₁ q hq
    refine wpAny_mono (turn s.heap.objs.size o i vs[i] h₁ tk g m' hIn (by simp [hlt]) T' F₁ N₂ B' X' P' D') (fun _ s₂ h₂' => wpAny_mono h₂' (fun f s₃ h₃ => ?_) hE) hE
    have fin : (∃ h' tk' g' m', s₃ = { s with heap := h', toks := tk' } ∧ KtsTurn (outer.filterMap (·.frame)) g₀ g' ∧ Fr g' env.locals h' m' ∧ News g' env.locals h' ((s.heap.objs.size, o) :: news) ∧ Below A₀ base outer g' ∧ K.In g' ∧ Top p loose mean mg mb g' ∧ KtsDicts (outer.filterMap (·.frame)) g') →
        ∃ m, m < vs.length + 1 - i ∧ ∃ h' tk g m' i, s₃ = { s with heap := h', toks := tk } ∧ h'.IsListIter s.heap.objs.size l i ∧ KtsTurn (outer.filterMap (·.frame)) g₀ g ∧ Fr g env.locals h' m' ∧ News g env.locals h' news ∧ g.get? s.heap.objs.size = none ∧ Below A₀ base outer g ∧ K.In g ∧ Top p loose mean mg mb g ∧ KtsDicts (outer.filterMap (·.frame)) g ∧ i ≤ vs.length ∧ m = vs.length + 1 - i := by
      rintro ⟨h₄, tk₄, g₄, m₄, rfl, T₄, F₄, N₄, B₄, X₄, P₄, D₄⟩
      exact ⟨vs.length + 1 - (i + 1), by omega, h₄, tk₄, g₄, m₄, i + 1, rfl, ⟨o, (N₄ _ (.head _)).1, hoc, hod⟩, T₄, F₄, fun q hq => N₄ q (.tail _ hq), (N₄ _ (.head _)).2.2, B₄, X₄, P₄, D₄, by omega, rfl⟩
    cases f with
    | ret v => exact h₃
    | brk => exact h₃
    | cont => exact fin h₃
    | next => exact fin h₃
  · have hin : i = vs.length := by omega
    subst hin
    refine wpAny_pyNext_list_end hh hit hl' (by simp) fun h₁ hk₁ => wpAny_execs_nil ?_
    obtain ⟨F₁, N₁⟩ := next h₁ hk₁
    exact done h₁ tk g m' T' F₁ N₁ B' X' P' D'
end
end Mine
end
section
open PySem PySem.Spec PySem.Calls PyProof.Rows PySem.W
namespace Mine
theorem SpecT.use {w : World} {mean : ExcName → Option Value} {mg mb : Str → Option Value} {lv : Nat} {f : Addr} {vs : List Value} {news : Led} {Ret : Value → Led → Prop} (S : SpecT w mean mg mb lv f vs news Ret)
    {dp un : Nat} {gd : Option (List Code)} {cn : Str} {cs : Scope} {a : Addr} {ccd : Value} {outer : List Env} {A₀ : Around} {base g₀ h₀ : Heap} {L : Addr} {m : Str → Option Value} {s : Shared} {Q E : Value → Shared → Prop}
    (B : Below A₀ base outer h₀) (F : Fr h₀ L s.heap m) (X : (hd.heap_1 w.params).In h₀) (N : News h₀ L s.heap news) (T : Top viewQ (looseW viewQ [Str.ofString "SyntaxFault"]) mean mg mb h₀)
    (XB : (hd.heap_1 w.params).In base) (TB : Top viewQ (looseW viewQ [Str.ofString "SyntaxFault"]) mean mg mb base) (D : KtsDicts (outer.filterMap (·.frame)) h₀) (T0 : KtsTurn (outer.filterMap (·.frame)) g₀ h₀)
    (hk : cs.kind = .function) (hdp : dp ≤ 310 + 10 * lv) (hun : un ≤ 40 + 30 * lv)
    (ret : ∀ v news' h' tk' h₀', KtsTurn (outer.filterMap (·.frame)) g₀ h₀' → Ret v news' → Fr h₀' L h' m → News h₀' L h' news' → Below A₀ base outer h₀' → (hd.heap_1 w.params).In h₀' → Top viewQ (looseW viewQ [Str.ofString "SyntaxFault"]) mean mg mb h₀' → KtsDicts (outer.filterMap (·.frame)) h₀' → Q v { s with heap := h', toks := tk' }) :
    wpAny (model PySem.Challenge.rw_xw0204_01.row.prog w) (around dp un gd cn cs L a ccd outer) (call (.ref f) vs) Q E s := S _ _ _ _ _ _ _ _ _ _ _ _ _ _ _ _ _ B F X N T XB TB D T0 hk hdp hun ret
theorem heardOut_fault {rest : Led} {j : Int} {v : Value} {l : Led} {o : Out} (e : o = .fault j) (h : HeardOut rest o v l) : FaultRet rest j v l := by
  subst e
  rcases h with ⟨p, e, h⟩ | ⟨q, q2, ov, k', u, h, _⟩
  · cases e; exact h
  · exact h.elim
theorem heardOut_sys {rest : Led} {x : Str} {k : Int} {v : Value} {l : Led} {o : Out} (e : o = .sys x k) (h : HeardOut rest o v l) : ∃ q q2 t u, v = .ref q ∧ q2 < q ∧ AllLt q rest ∧ AllLt q2 rest ∧ l = (q, pairObj (.ref q2) (.int k u)) :: (q2, pairObj .none (.str x t)) :: rest := by
  subst e
  rcases h with ⟨p, e, h⟩ | ⟨q, q2, ov, k', u, ⟨rfl, t, rfl⟩, h⟩
  · cases e
  · exact ⟨q, q2, t, u, h⟩
theorem heardOut_pub {rest : Led} {p x : Str} {k : Int} {v : Value} {l : Led} {o : Out} (e : o = .pub p x k) (h : HeardOut rest o v l) : ∃ q q2 t t2 u, v = .ref q ∧ q2 < q ∧ AllLt q rest ∧ AllLt q2 rest ∧ l = (q, pairObj (.ref q2) (.int k u)) :: (q2, pairObj (.str p t2) (.str x t)) :: rest := by
  subst e
  rcases h with ⟨p, e, h⟩ | ⟨q, q2, ov, k', u, ⟨rfl, t, t2, rfl⟩, h⟩
  · cases e
  · exact ⟨q, q2, t, t2, u, h⟩
theorem heardOut_no {rest : Led} {k : Int} {v : Value} {l : Led} {o : Out} (e : o = .no k) (h : HeardOut rest o v l) : ∃ q q2 u, v = .ref q ∧ q2 < q ∧ AllLt q rest ∧ AllLt q2 rest ∧ l = (q, pairObj (.ref q2) (.int k u)) :: (q2, pairObj .none .none) :: rest := by
  subst e
  rcases h with ⟨p, e, h⟩ | ⟨q, q2, ov, k', u, ⟨rfl, rfl⟩, h⟩
  · cases e
  · exact ⟨q, q2, u, h⟩
theorem heardT_fault {rest : Led} {j k : Int} {x : Str} {v : Value} {l : Led} {f : Option Int} (e : f = some j) (h : HeardText rest f x k v l) : FaultRet rest j v l := by subst e; exact h
theorem heardT_ok {rest : Led} {k : Int} {x : Str} {v : Value} {l : Led} {f : Option Int} (e : f = none) (h : HeardText rest f x k v l) : TextRet rest x k v l := by subst e; exact h
theorem lead {h₀ h : Heap} {L : Addr} {p : Addr × Obj} {news : Led} (N : News h₀ L h news) (hp : p ∈ news) : News h₀ L h (p :: news) := fun q hq => (List.mem_cons.mp hq).elim (fun e => e ▸ N p hp) (N q)
set_option maxRecDepth 100000
theorem told0 : readFault publicC (Str.ofString "'-//A  b'>") 0 = none := by decide +kernel
theorem told0x : normF (quoteTxt (Str.ofString "'-//A  b'>") 0) = (Str.ofString "-//A b") := by kernel_rfl
theorem told0k : quoteOut (Str.ofString "'-//A  b'>") 0 = 9 := by decide +kernel
theorem told1 : readFault publicC (Str.ofString "\" a\nb \"") 0 = none := by decide +kernel
theorem told1x : normF (quoteTxt (Str.ofString "\" a\nb \"") 0) = (Str.ofString "a b") := by kernel_rfl
theorem told1k : quoteOut (Str.ofString "\" a\nb \"") 0 = 7 := by decide +kernel
theorem told2 : readFault publicC (Str.ofString "''") 0 = none := by decide +kernel
theorem told2x : normF (quoteTxt (Str.ofString "''") 0) = (Str.ofString "") := by kernel_rfl
theorem told2k : quoteOut (Str.ofString "''") 0 = 2 := by decide +kernel
theorem told3 : readFault publicC (Str.ofString "'a\tb'") 0 = some 2 := by decide +kernel
theorem told4 : readFault publicC (Str.ofString "a") 0 = some 0 := by decide +kernel
theorem told5 : readFault publicC (Str.ofString "'a") 0 = some 1 := by decide +kernel
theorem told6 : readFault charB (Str.ofString "'a <&>'x") 0 = none := by decide +kernel
theorem told6x : quoteTxt (Str.ofString "'a <&>'x") 0 = (Str.ofString "a <&>") := by kernel_rfl
theorem told6k : quoteOut (Str.ofString "'a <&>'x") 0 = 7 := by decide +kernel
theorem told7 : readFault charB (Str.ofString "'a\x07'") 0 = some 2 := by decide +kernel
theorem told8 : outerF (Str.ofString "SYSTEM 's'>") 0 = .sys (Str.ofString "s") 10 := by kernel_rfl
theorem told9 : outerF (Str.ofString "SYSTEM's'") 0 = .fault 6 := by kernel_rfl
theorem told10 : outerF (Str.ofString "PUBLIC 'p' 's'") 0 = .pub (Str.ofString "p") (Str.ofString "s") 14 := by kernel_rfl
theorem told11 : outerF (Str.ofString "PUBLIC'p'") 0 = .fault 6 := by kernel_rfl
theorem told12 : outerF (Str.ofString "PUBLIC 'p''s'") 0 = .fault 10 := by kernel_rfl
theorem told13 : outerF (Str.ofString "PUBLIC 'p' ") 0 = .fault 11 := by kernel_rfl
theorem told14 : outerF (Str.ofString "[") 0 = .no 0 := by kernel_rfl
theorem told15 : outerF (Str.ofString "") 0 = .no 0 := by kernel_rfl
end Mine
end
section
open PySem PySem.Spec PySem.Calls PyProof.Rows PySem.W
namespace Mine
theorem len_cps (T : Str) : T.length = T.cps.toList.length := by simp [Str.length]
theorem str_eq {a b : Str} (h : a.cps.toList = b.cps.toList) : a = b := Str.ext' (Array.toList_inj.mp h)
theorem getD_list (T : Str) (v : Nat) : T.cps.getD v 0 = T.cps.toList.getD v 0 := by simp
section
variable {T : Str} {A R B G : List Nat} {qc : Nat}
theorem quote_at (hT : T.cps.toList = A ++ qc :: B) : quoteAt T A.length = ⟨#[qc]⟩ := by
  apply str_eq
  unfold quoteAt
  rw [cps_slice (by omega) (by omega), hT]
  have e1 : ((A.length : Int) + 1).toNat = A.length + 1 := by omega
  have e2 : ((A.length : Int)).toNat = A.length := by omega
  rw [e1, e2]
  simp [List.take_append]
theorem quote_end (hT : T.cps.toList = A ++ qc :: (R ++ qc :: B)) (hR : qc ∉ R) : quoteEnd T A.length = A.length + 1 + R.length := by
  unfold quoteEnd
  rw [quote_at (B := R ++ qc :: B) hT]
  have hl : T.length = A.length + 1 + R.length + 1 + B.length := by rw [len_cps, hT]; simp; omega
  have hf : fromIndex T.length ((A.length : Int) + 1) = A.length + 1 := by unfold fromIndex; omega
  have hget : ∀ v, T.cps.getD v 0 = (A ++ qc :: (R ++ qc :: B)).getD v 0 := fun v => by rw [getD_list, hT]
  have hhit : T.cps.getD (A.length + 1 + R.length) 0 = qc := by
    rw [hget, List.getD_eq_getElem?_getD, List.getElem?_append_right (by omega), show A.length + 1 + R.length - A.length = R.length + 1 by omega]
    simp
  have hmiss : ∀ v, A.length + 1 ≤ v → v < A.length + 1 + R.length → T.cps.getD v 0 ≠ qc := by
    intro v h1 h2 e
    rw [hget, List.getD_eq_getElem?_getD, List.getElem?_append_right (by omega), show v - A.length = (v - A.length - 1) + 1 by omega, List.getElem?_cons_succ, List.getElem?_append_left (by omega), List.getElem?_eq_getElem (by omega)] at e
    exact hR (e ▸ List.getElem_mem _)
  rcases StrLaws.find3_spec T qc ((A.length : Int) + 1) with ⟨-, hn⟩ | ⟨j, e, hj, hlt, he, hn⟩
  · exact absurd hhit (hn _ (by omega) (by omega))
  · rw [e]
    rw [hf] at hj hn
    by_cases h1 : j < A.length + 1 + R.length
    · exact absurd he (hmiss j hj h1)
    · by_cases h2 : A.length + 1 + R.length < j
      · exact absurd hhit (hn _ (by omega) h2)
      · omega
theorem quote_end_none (hT : T.cps.toList = A ++ qc :: B) (hR : qc ∉ B) : quoteEnd T A.length = -1 := by
  unfold quoteEnd
  rw [quote_at hT]
  rcases StrLaws.find3_spec T qc ((A.length : Int) + 1) with ⟨e, -⟩ | ⟨j, e, hj, hlt, he, hn⟩
  · exact e
  · have hf : fromIndex T.length ((A.length : Int) + 1) = A.length + 1 := by
      have : T.length = A.length + 1 + B.length := by rw [len_cps, hT]; simp; omega
      unfold fromIndex; omega
    rw [hf] at hj
    have hl : T.length = A.length + 1 + B.length := by rw [len_cps, hT]; simp; omega
    rw [getD_list, hT, List.getD_eq_getElem?_getD, List.getElem?_append_right (by omega), show j - A.length = (j - A.length - 1) + 1 by omega, List.getElem?_cons_succ, List.getElem?_eq_getElem (by omega)] at he
    exact absurd (he ▸ List.getElem_mem _) hR
theorem quote_yes (hq : qc = 34 ∨ qc = 39) (hT : T.cps.toList = A ++ qc :: B) : quoteB T A.length = true := by
  unfold quoteB
  rw [quote_at hT]
  rcases hq with rfl | rfl <;> decide
theorem quote_read (hq : qc = 34 ∨ qc = 39) (hT : T.cps.toList = A ++ qc :: (R ++ qc :: B)) (hR : qc ∉ R) :
    quoteB T A.length = true ∧ quoteEnd T A.length = A.length + 1 + R.length ∧ (quoteTxt T A.length).cps.toList = R ∧ quoteOut T A.length = A.length + R.length + 2 := by
  have e := quote_end hT hR
  refine ⟨quote_yes hq hT, e, ?_, ?_⟩
  · unfold quoteTxt
    rw [e, cps_slice (by omega) (by omega), hT]
    rw [show ((A.length : Int) + 1 + R.length).toNat = A.length + (1 + R.length) by omega, show ((A.length : Int) + 1).toNat = A.length + 1 by omega]
    rw [List.take_append, List.take_of_length_le (by omega), List.drop_append, List.drop_of_length_le (by omega)]
    rw [show A.length + (1 + R.length) - A.length = R.length + 1 by omega, show A.length + 1 - A.length = 1 by omega]
    simp
  · unfold quoteOut
    rw [e, quote_at hT]
    show (A.length : Int) + 1 + R.length + ((1 : Nat) : Int) = _
    omega
theorem space_read {c : Nat} (hT : T.cps.toList = A ++ (G ++ c :: B)) (hG : ∀ x ∈ G, spaceB (Str.mk #[x]) = true) (hc : spaceB (Str.mk #[c]) = false) : spEnd T A.length = A.length + G.length := by
  unfold spEnd
  rw [hT, show ((A.length : Int)).toNat = A.length by omega, List.drop_left, List.takeWhile_append_of_pos (by simpa using hG), List.takeWhile_cons, hc]
  simp
theorem starts_read {W : Str} (hT : T.cps.toList = A ++ (W.cps.toList ++ B)) : Txt.startswith3 T W A.length = true := by
  unfold Txt.startswith3
  have hl : T.length = A.length + W.length + B.length := by rw [len_cps, len_cps W, hT]; simp; omega
  have hf : fromIndex T.length (A.length : Int) = A.length := by unfold fromIndex; omega
  rw [hf, StrLaws.subAt_eq, hT, List.drop_left, len_cps W, List.take_left]
  simp
  have e9 : W.length = W.cps.size := rfl
  omega
theorem starts_not {W : Str} {w : Nat} {W' : List Nat} {c : Nat} (hT : T.cps.toList = A ++ c :: B) (hW : W.cps.toList = w :: W') (hne : c ≠ w) : Txt.startswith3 T W A.length = false := by
  unfold Txt.startswith3
  have hl : T.length = A.length + 1 + B.length := by rw [len_cps, hT]; simp; omega
  have hf : fromIndex T.length (A.length : Int) = A.length := by unfold fromIndex; omega
  rw [hf, StrLaws.subAt_eq, hT, List.drop_left, hW, len_cps W, hW]
  simp [hne]
end
theorem bad_all {ok : Nat → Bool} {x : Str} (h : ∀ c ∈ x.cps.toList, ok c = true) : badAt ok x = none := by
  unfold badAt
  rw [List.findIdx?_eq_none_iff]
  intro c hc; rw [h c hc]; rfl
theorem bad_mid {ok : Nat → Bool} {x : Str} {P S : List Nat} {o : Nat} (hx : x.cps.toList = P ++ o :: S) (hP : ∀ c ∈ P, ok c = true) (ho : ok o = false) : badAt ok x = some P.length := by
  unfold badAt
  rw [hx, List.findIdx?_append, List.findIdx?_eq_none_iff.mpr (fun c hc => by rw [hP c hc]; rfl), List.findIdx?_cons, ho]
  simp
end Mine
end
section
open PySem PySem.Spec PySem.Calls PyProof.Rows PySem.W
namespace Mine
theorem idx_head (n : Nat) (hi : Option Int) : Builtin.Str.strSliceIndices none hi 1 n = Builtin.Str.strSliceIndices (some 0) hi 1 n := by
  unfold Builtin.Str.strSliceIndices
  simp only [show (1 : Int) > 0 by decide, if_true, show ¬ ((0 : Int) < 0) by decide, if_false]
  rw [show max 0 (min 0 (n : Int)) = 0 by omega]
theorem idx_tail (n : Nat) (lo : Option Int) : Builtin.Str.strSliceIndices lo none 1 n = Builtin.Str.strSliceIndices lo (some n) 1 n := by
  unfold Builtin.Str.strSliceIndices
  simp only [show (1 : Int) > 0 by decide, if_true, show ¬ ((n : Int) < 0) by omega, if_false]
  rw [show max 0 (min (n : Int) (n : Int)) = n by omega]
theorem slice_head {X : Str} {i : Int} (h0 : 0 ≤ i) : (Txt.slice X none (some i)).cps.toList = X.cps.toList.take i.toNat := by
  have e : Txt.slice X none (some i) = Txt.slice X (some 0) (some i) := by
    unfold Txt.slice
    rw [idx_head]
  rw [e, cps_slice (by omega) h0]
  simp
theorem slice_tail {X : Str} {i : Int} (h0 : 0 ≤ i) : (Txt.slice X (some i) none).cps.toList = X.cps.toList.drop i.toNat := by
  have e : Txt.slice X (some i) none = Txt.slice X (some i) (some X.length) := by
    unfold Txt.slice
    rw [idx_tail]
  rw [e, cps_slice h0 (by omega)]
  have : (X.length : Int).toNat = X.cps.toList.length := by rw [Int.toNat_natCast, len_cps]
  rw [this, List.take_length]
theorem odd_cps {X : Str} {i : Int} {o : Nat} (h0 : 0 ≤ i) : (Txt.slice X none (some i) ++ Str.mk #[o] ++ Txt.slice X (some i) none).cps.toList = X.cps.toList.take i.toNat ++ o :: X.cps.toList.drop i.toNat := by
  rw [Str.cps_append, Str.cps_append, Array.toList_append, Array.toList_append, slice_head h0, slice_tail h0]
  simp
theorem odd_len {X : Str} {i : Int} {o : Nat} (h0 : 0 ≤ i) (h1 : i ≤ X.length) : (Txt.slice X none (some i) ++ Str.mk #[o] ++ Txt.slice X (some i) none).length = X.length + 1 := by
  rw [len_cps, odd_cps h0]
  have : X.length = X.cps.toList.length := len_cps X
  simp only [List.length_append, List.length_cons, List.length_take, List.length_drop]
  omega
section
variable {ok : Nat → Bool} {T X : Str} {A R B G : List Nat} {qc : Nat}
theorem raw_ok (hq : qc = 34 ∨ qc = 39) (hT : T.cps.toList = A ++ qc :: (X.cps.toList ++ qc :: B)) (hX : ∀ c ∈ X.cps.toList, ok c = true ∧ c ≠ qc) :
    readFault ok T A.length = none ∧ quoteTxt T A.length = X ∧ quoteOut T A.length = A.length + X.length + 2 := by
  obtain ⟨h1, h2, h3, h4⟩ := quote_read hq hT (fun h => (hX _ h).2 rfl)
  have e := str_eq h3
  refine ⟨rf_none h1 (by omega) (by rw [e]; exact bad_all fun c hc => (hX c hc).1), e, ?_⟩
  rw [h4, len_cps X]
theorem raw_odd (hq : qc = 34 ∨ qc = 39) {i : Int} {o : Nat} (h0 : 0 ≤ i) (h1 : i ≤ X.length) (ho : ok o = false) (hoq : o ≠ qc) (hT : T.cps.toList = A ++ qc :: ((Txt.slice X none (some i) ++ Str.mk #[o] ++ Txt.slice X (some i) none).cps.toList ++ qc :: B)) (hX : ∀ c ∈ X.cps.toList, ok c = true ∧ c ≠ qc) :
    readFault ok T A.length = some (A.length + 1 + i) := by
  have hn : qc ∉ (Txt.slice X none (some i) ++ Str.mk #[o] ++ Txt.slice X (some i) none).cps.toList := by
    rw [odd_cps h0]
    intro h
    rcases List.mem_append.mp h with h | h
    · exact (hX _ (List.mem_of_mem_take h)).2 rfl
    · rcases List.mem_cons.mp h with h | h
      · exact hoq h.symm
      · exact (hX _ (List.mem_of_mem_drop h)).2 rfl
  obtain ⟨e1, e2, e3, e4⟩ := quote_read hq hT hn
  rw [odd_cps h0] at e3
  refine rf_bad e1 (by omega) ⟨_, bad_mid e3 (fun c hc => (hX c (List.mem_of_mem_take hc)).1) ho, ?_⟩
  have : X.length = X.cps.toList.length := len_cps X
  rw [List.length_take]
  omega
end
section
variable {T X Y raw plain : Str} {A B G M : List Nat} {qc oc : Nat}
theorem sys6 : (Str.ofString "SYSTEM").cps.toList = [83, 89, 83, 84, 69, 77] := by decide +kernel
theorem pub6 : (Str.ofString "PUBLIC").cps.toList = [80, 85, 66, 76, 73, 67] := by decide +kernel
theorem sys6l : (Str.ofString "SYSTEM").length = 6 := by decide +kernel
theorem pub6l : (Str.ofString "PUBLIC").length = 6 := by decide +kernel
theorem quote_noSpace (hq : qc = 34 ∨ qc = 39) : spaceB (Str.mk #[qc]) = false := by rcases hq with rfl | rfl <;> decide +kernel
theorem re_at {L1 L2 R : List Nat} (hT : T.cps.toList = L1 ++ (L2 ++ R)) : T.cps.toList = (L1 ++ L2) ++ R := by rw [hT, List.append_assoc]
theorem outer_sys {S : List Nat} (hT : T.cps.toList = A ++ ([83, 89, 83, 84, 69, 77] ++ (G ++ qc :: S))) (hq : qc = 34 ∨ qc = 39) (hG : ∀ x ∈ G, spaceB (Str.mk #[x]) = true) (hG0 : G ≠ []) :
    outerF T A.length = sysF T (A ++ [83, 89, 83, 84, 69, 77] ++ G).length := by
  have h1 : Txt.startswith3 T (Str.ofString "SYSTEM") A.length = true := starts_read (W := Str.ofString "SYSTEM") (B := G ++ qc :: S) (by rw [sys6]; exact hT)
  have h2 : skipAt T (Str.ofString "SYSTEM") A.length = (A ++ [83, 89, 83, 84, 69, 77]).length := by
    unfold skipAt; rw [if_pos h1, sys6l, List.length_append]; rfl
  have h3 : spEnd T (A ++ [83, 89, 83, 84, 69, 77]).length = (A ++ [83, 89, 83, 84, 69, 77]).length + G.length := space_read (re_at hT) hG (quote_noSpace hq)
  have hg : 0 < G.length := List.length_pos_iff.mpr hG0
  unfold outerF
  rw [if_pos h1, h2]
  unfold needF
  rw [h3, if_neg (by omega)]
  congr 1
  rw [List.length_append (as := A ++ _)]; omega
theorem outer_pub {S : List Nat} (hT : T.cps.toList = A ++ ([80, 85, 66, 76, 73, 67] ++ (G ++ qc :: S))) (hq : qc = 34 ∨ qc = 39) (hG : ∀ x ∈ G, spaceB (Str.mk #[x]) = true) (hG0 : G ≠ []) :
    outerF T A.length = pubF T (A ++ [80, 85, 66, 76, 73, 67] ++ G).length := by
  have h0 : Txt.startswith3 T (Str.ofString "SYSTEM") A.length = false := starts_not (c := 80) (B := [85, 66, 76, 73, 67] ++ (G ++ qc :: S)) (by rw [hT]; rfl) sys6 (by decide)
  have h1 : Txt.startswith3 T (Str.ofString "PUBLIC") A.length = true := starts_read (W := Str.ofString "PUBLIC") (B := G ++ qc :: S) (by rw [pub6]; exact hT)
  have h00 : skipAt T (Str.ofString "SYSTEM") A.length = A.length := by unfold skipAt; rw [if_neg (by rw [h0]; decide)]
  have h2 : skipAt T (Str.ofString "PUBLIC") A.length = (A ++ [80, 85, 66, 76, 73, 67]).length := by
    unfold skipAt; rw [if_pos h1, pub6l, List.length_append]; rfl
  have h3 : spEnd T (A ++ [80, 85, 66, 76, 73, 67]).length = (A ++ [80, 85, 66, 76, 73, 67]).length + G.length := space_read (re_at hT) hG (quote_noSpace hq)
  have hg : 0 < G.length := List.length_pos_iff.mpr hG0
  unfold outerF
  rw [if_neg (by rw [h0]; decide), h00, if_pos h1, h2]
  unfold needF
  rw [h3, if_neg (by omega)]
  congr 1
  rw [List.length_append (as := A ++ _)]; omega
end
theorem fault_sysF {T : Str} {k p : Int} (h : readFault charB T k = some p) : sysF T k = .fault p := by unfold sysF; rw [h]
theorem ok_sysF {T X : Str} {k p : Int} (h : readFault charB T k = none ∧ quoteTxt T k = X ∧ quoteOut T k = p) : sysF T k = .sys X p := by unfold sysF; rw [h.1, h.2.1, h.2.2]
theorem fault_pubF {T : Str} {k p : Int} (h : readFault publicC T k = some p) : pubF T k = .fault p := by unfold pubF; rw [h]
theorem gap_pubF {T X : Str} {k p : Int} (h : readFault publicC T k = none ∧ quoteTxt T k = X ∧ quoteOut T k = p) (hs : spEnd T p = p) : pubF T k = .fault p := by
  unfold pubF; rw [h.1, h.2.2]; show needF T p _ = _; unfold needF; rw [if_pos hs]
theorem late_pubF {T X : Str} {k p p2 r : Int} (h : readFault publicC T k = none ∧ quoteTxt T k = X ∧ quoteOut T k = p) (hs : spEnd T p = p2) (hp : p2 ≠ p) (h2 : readFault charB T p2 = some r) : pubF T k = .fault r := by
  unfold pubF; rw [h.1, h.2.2]; show needF T p _ = _; unfold needF; rw [hs, if_neg hp]; show (match readFault charB T p2 with | some p => Out.fault p | none => _) = _; rw [h2]
theorem ok_pubF {T X Y : Str} {k p p2 r : Int} (h : readFault publicC T k = none ∧ quoteTxt T k = X ∧ quoteOut T k = p) (hs : spEnd T p = p2) (hp : p2 ≠ p) (h2 : readFault charB T p2 = none ∧ quoteTxt T p2 = Y ∧ quoteOut T p2 = r) : pubF T k = .pub (normF X) Y r := by
  unfold pubF; rw [h.1, h.2.2]; show needF T p _ = _; unfold needF; rw [hs, if_neg hp]; show (match readFault charB T p2 with | some p => Out.fault p | none => _) = _; rw [h2.1, h2.2.1, h2.2.2, h.2.1]
end Mine
end
section
open PySem PySem.Spec PySem.Calls PyProof.Rows PySem.W
namespace Mine
section
open PySem.SeqAt
def SameV (v w : Value) : Prop := (v = w) ∨ ∃ x t t', v = .str x t ∧ w = .str x t'
theorem SameV.str {x : Str} {t t' : Tok} : SameV (.str x t) (.str x t') := .inr ⟨_, _, _, rfl, rfl⟩
theorem SameV.eq {A : Around} {s : Shared} {v w : Value} (h : SameV v w) : EqAt A s v w true := by
  rcases h with rfl | ⟨x, t, t', rfl, rfl⟩
  · exact EqAt.same _
  · have := EqAt.str_str (A := A) (s := s) x t x t'
    rwa [beq_self_eq_true] at this
theorem int_same {A : Around} {s : Shared} {k : Int} {u u' : Tok} : EqAt A s (.int k u) (.int k u') true := by
  have := EqAt.int_int (A := A) (s := s) k u k u'
  rwa [beq_self_eq_true] at this
variable {prog : Program} {w : World} {A : Around} {E : Value → Shared → Prop} {s : Shared} {a b a2 b2 L : Addr} {v1 v2 w1 w2 : Value} {Q : Value → Shared → Prop} {h₀ : Heap} {news : Led} {x : Str} {k : Int} {t t' u u' : Tok}
theorem isTup (h : s.heap.get? a = some (pairObj v1 v2)) : s.heap.IsTuple a #[v1, v2] := ⟨_, h, rfl, _, rfl⟩
theorem pair_items {P : Value → Value → Nat → Prop} (h1 : P v1 w1 0) (h2 : P v2 w2 1) : ∀ j (j1 : j < #[v1, v2].size) (j2 : j < #[w1, w2].size), P #[v1, v2][j] #[w1, w2][j] j := by
  intro j j1 j2
  match j, j1, j2 with
  | 0, _, _ => exact h1
  | 1, _, _ => exact h2
theorem pair_eqAt (hne : a ≠ b) (ha : s.heap.get? a = some (pairObj v1 v2)) (hb : s.heap.get? b = some (pairObj w1 w2)) (hu : A.units < cLine) (e1 : EqAt A.in1 s v1 w1 true) (e2 : EqAt A.in1 s v2 w2 true) : EqAt A s (.ref a) (.ref b) true :=
  EqAt.of_refs hne (RcAt.tuples (e := fun _ => true) (isTup ha) (isTup hb) hu (pair_items (P := fun v w _ => EqAt A.in1 s v w true) e1 e2))
theorem pair_eq_ (ha : s.heap.get? a = some (pairObj v1 v2)) (hb : s.heap.get? b = some (pairObj w1 w2)) (hu : A.units < cLine) (e1 : EqAt A.in1 s v1 w1 true) (e2 : EqAt A.in1 s v2 w2 true) (h : Q (.bool true) s) : wpAny (model prog w) A (compareOp .Eq (.ref a) (.ref b)) Q E s :=
  RcAt.tuples (e := fun _ => true) (isTup ha) (isTup hb) hu (pair_items (P := fun v w _ => EqAt A.in1 s v w true) e1 e2) prog w E Q h
theorem pair_ne_ (ha : s.heap.get? a = some (pairObj v1 v2)) (hb : s.heap.get? b = some (pairObj w1 w2)) (hu : A.units < cLine) (e1 : EqAt A.in1 s v1 w1 true) (e2 : EqAt A.in1 s v2 w2 true) (h : Q (.bool false) s) : wpAny (model prog w) A (compareOp .NotEq (.ref a) (.ref b)) Q E s :=
  RcNeAt.tuples (e := fun _ => true) (isTup ha) (isTup hb) hu (pair_items (P := fun v w _ => EqAt A.in1 s v w true) e1 e2) prog w E Q h
theorem room_out (hu : A.units + 64 < cLine) : A.units < cLine := Nat.lt_of_le_of_lt (Nat.le_add_right _ _) hu
theorem room_in (hu : A.units + 64 < cLine) : A.in1.units < cLine := by rw [units_in1]; omega
theorem ne_text (N : News h₀ L s.heap news) (ha : (a, pairObj (.str x t) (.int k u)) ∈ news) (hb : (b, pairObj (.str x t') (.int k u')) ∈ news) (hu : A.units + 64 < cLine) (h : Q (.bool false) s) : wpAny (model prog w) A (compareOp .NotEq (.ref a) (.ref b)) Q E s :=
  pair_ne_ (N _ ha).1 (N _ hb).1 (room_out hu) SameV.str.eq int_same h
theorem eq_text (N : News h₀ L s.heap news) (ha : (a, pairObj (.str x t) (.int k u)) ∈ news) (hb : (b, pairObj (.str x t') (.int k u')) ∈ news) (hu : A.units + 64 < cLine) (h : Q (.bool true) s) : wpAny (model prog w) A (compareOp .Eq (.ref a) (.ref b)) Q E s :=
  pair_eq_ (N _ ha).1 (N _ hb).1 (room_out hu) SameV.str.eq int_same h
theorem ne_deep (N : News h₀ L s.heap news) (ha : (a, pairObj (.ref a2) (.int k u)) ∈ news) (hb : (b, pairObj (.ref b2) (.int k u')) ∈ news) (ha2 : (a2, pairObj v1 v2) ∈ news) (hb2 : (b2, pairObj w1 w2) ∈ news) (hne : a2 ≠ b2) (e1 : SameV v1 w1) (e2 : SameV v2 w2) (hu : A.units + 64 < cLine) (h : Q (.bool false) s) : wpAny (model prog w) A (compareOp .NotEq (.ref a) (.ref b)) Q E s :=
  pair_ne_ (N _ ha).1 (N _ hb).1 (room_out hu) (pair_eqAt hne (N _ ha2).1 (N _ hb2).1 (room_in hu) e1.eq e2.eq) int_same h
theorem eq_deep (N : News h₀ L s.heap news) (ha : (a, pairObj (.ref a2) (.int k u)) ∈ news) (hb : (b, pairObj (.ref b2) (.int k u')) ∈ news) (ha2 : (a2, pairObj v1 v2) ∈ news) (hb2 : (b2, pairObj w1 w2) ∈ news) (hne : a2 ≠ b2) (e1 : SameV v1 w1) (e2 : SameV v2 w2) (hu : A.units + 64 < cLine) (h : Q (.bool true) s) : wpAny (model prog w) A (compareOp .Eq (.ref a) (.ref b)) Q E s :=
  pair_eq_ (N _ ha).1 (N _ hb).1 (room_out hu) (pair_eqAt hne (N _ ha2).1 (N _ hb2).1 (room_in hu) e1.eq e2.eq) int_same h
end
theorem SpecT.mono {w : World} {mean : ExcName → Option Value} {mg mb : Str → Option Value} {lv : Nat} {f : Addr} {vs : List Value} {news : Led} {R R' : Value → Led → Prop} (S : SpecT w mean mg mb lv f vs news R) (hr : ∀ v l, R v l → R' v l) : SpecT w mean mg mb lv f vs news R' := by
  intro dp un gd cn cs a ccd outer A₀ base g₀ h₀ L m s Q E B F X N TP XB TB D T0 hk hdp hun hret
  exact S.use B F X N TP XB TB D T0 hk hdp hun fun v l h' tk' g' T' hv => hret v l h' tk' g' T' (hr _ _ hv)
def TextR (x : Str) (k : Int) (rest : Led) (v : Value) (l : Led) : Prop := ∃ q t u, v = .ref q ∧ AllLt q rest ∧ l = (q, pairObj (.str x t) (.int k u)) :: rest
def SysR (x : Str) (k : Int) (rest : Led) (v : Value) (l : Led) : Prop := ∃ q q2 t u, v = .ref q ∧ q2 < q ∧ AllLt q rest ∧ AllLt q2 rest ∧ l = (q, pairObj (.ref q2) (.int k u)) :: (q2, pairObj .none (.str x t)) :: rest
def PubR (p x : Str) (k : Int) (rest : Led) (v : Value) (l : Led) : Prop := ∃ q q2 t t2 u, v = .ref q ∧ q2 < q ∧ AllLt q rest ∧ AllLt q2 rest ∧ l = (q, pairObj (.ref q2) (.int k u)) :: (q2, pairObj (.str p t2) (.str x t)) :: rest
def NoR (k : Int) (rest : Led) (v : Value) (l : Led) : Prop := ∃ q q2 u, v = .ref q ∧ q2 < q ∧ AllLt q rest ∧ AllLt q2 rest ∧ l = (q, pairObj (.ref q2) (.int k u)) :: (q2, pairObj .none .none) :: rest
def HeardAt (T : Str) (k : Int) (word : Str) (R : Led → Value → Led → Prop) : Prop := ∀ (w : World) (mean : ExcName → Option Value) (mg mb : Str → Option Value) (rest : Led) (tt ti tw : Tok), SpecT w mean mg mb 3 307 [.str T tt, .int k ti, .str word tw] rest (R rest)
def HTxt (T : Str) (j : Int) (word x : Str) (k : Int) : Prop := HeardAt T j word (TextR x k)
def HSys (T : Str) (j : Int) (word x : Str) (k : Int) : Prop := HeardAt T j word (SysR x k)
def HPub (T : Str) (j : Int) (word p x : Str) (k : Int) : Prop := HeardAt T j word (PubR p x k)
def HNo (T : Str) (j : Int) (word : Str) (k : Int) : Prop := HeardAt T j word (NoR k)
section
variable {T word x p : Str} {k j : Int}
theorem HTxt.use (h : HTxt T j word x k) (w : World) (mean : ExcName → Option Value) (mg mb : Str → Option Value) (rest : Led) (tt ti tw : Tok) : SpecT w mean mg mb 3 307 [.str T tt, .int j ti, .str word tw] rest (TextR x k rest) := h w mean mg mb rest tt ti tw
theorem HSys.use (h : HSys T j word x k) (w : World) (mean : ExcName → Option Value) (mg mb : Str → Option Value) (rest : Led) (tt ti tw : Tok) : SpecT w mean mg mb 3 307 [.str T tt, .int j ti, .str word tw] rest (SysR x k rest) := h w mean mg mb rest tt ti tw
theorem HPub.use (h : HPub T j word p x k) (w : World) (mean : ExcName → Option Value) (mg mb : Str → Option Value) (rest : Led) (tt ti tw : Tok) : SpecT w mean mg mb 3 307 [.str T tt, .int j ti, .str word tw] rest (PubR p x k rest) := h w mean mg mb rest tt ti tw
theorem HNo.use (h : HNo T j word k) (w : World) (mean : ExcName → Option Value) (mg mb : Str → Option Value) (rest : Led) (tt ti tw : Tok) : SpecT w mean mg mb 3 307 [.str T tt, .int j ti, .str word tw] rest (NoR k rest) := h w mean mg mb rest tt ti tw
variable (h0 : 0 ≤ j) (h1 : j ≤ T.length) (hT : T.length < 1000000)
include h0 h1 hT
theorem h_pub (e : readFault publicC T j = none) (ex : normF (quoteTxt T j) = x) (ek : quoteOut T j = k) : HTxt T j (Str.ofString "public") x k := fun w mean mg mb rest tt ti tw =>
  (s_heard_pub w mean mg mb T j rest tt ti tw h0 h1 hT).mono fun v l h => by subst ex; subst ek; exact heardT_ok e h
theorem h_pubF (e : readFault publicC T j = some k) : HTxt T j (Str.ofString "public") (Str.ofString "fault") k := fun w mean mg mb rest tt ti tw =>
  (s_heard_pub w mean mg mb T j rest tt ti tw h0 h1 hT).mono fun v l h => heardT_fault e h
theorem h_sys (e : readFault charB T j = none) (ex : quoteTxt T j = x) (ek : quoteOut T j = k) : HTxt T j (Str.ofString "system") x k := fun w mean mg mb rest tt ti tw =>
  (s_heard_sys w mean mg mb T j rest tt ti tw h0 h1 hT).mono fun v l h => by subst ex; subst ek; exact heardT_ok e h
theorem h_sysF (e : readFault charB T j = some k) : HTxt T j (Str.ofString "system") (Str.ofString "fault") k := fun w mean mg mb rest tt ti tw =>
  (s_heard_sys w mean mg mb T j rest tt ti tw h0 h1 hT).mono fun v l h => heardT_fault e h
theorem h_outF (e : outerF T j = .fault k) : HTxt T j (Str.ofString "outer") (Str.ofString "fault") k := fun w mean mg mb rest tt ti tw =>
  (s_heard_out w mean mg mb T j rest tt ti tw h0 h1 hT).mono fun v l h => heardOut_fault e h
theorem h_outS (e : outerF T j = .sys x k) : HSys T j (Str.ofString "outer") x k := fun w mean mg mb rest tt ti tw =>
  (s_heard_out w mean mg mb T j rest tt ti tw h0 h1 hT).mono fun v l h => heardOut_sys e h
theorem h_outP (e : outerF T j = .pub p x k) : HPub T j (Str.ofString "outer") p x k := fun w mean mg mb rest tt ti tw =>
  (s_heard_out w mean mg mb T j rest tt ti tw h0 h1 hT).mono fun v l h => heardOut_pub e h
theorem h_outN (e : outerF T j = .no k) : HNo T j (Str.ofString "outer") k := fun w mean mg mb rest tt ti tw =>
  (s_heard_out w mean mg mb T j rest tt ti tw h0 h1 hT).mono fun v l h => heardOut_no e h
end
end Mine
end
theorem Mine.resetYTold3 : True := by w_top off; k_with_none; exact trivial
section
open PySem PySem.Spec PySem.Calls PyProof.Rows PySem.W
namespace Mine
set_option maxRecDepth 100000
set_option maxHeartbeats 8000000
abbrev trip3 (v1 v2 v3 : Value) : Obj := { cls := .type "tuple", data := .seq #[v1, v2, v3] }
theorem ne_of_lt_mem {q b : Addr} {o : Obj} {led : Led} (h : AllLt q led) (hm : (b, o) ∈ led) : q ≠ b := by
  induction led with
  | nil => exact nomatch hm
  | cons p l ih =>
    rcases List.mem_cons.mp hm with e | hm
    · have := h.1; subst e; exact Nat.ne_of_gt this
    · exact ih h.2 hm
def RowT (led : Led) (v : Value) : Prop := ∃ r d T word x tT tw tx k tk, v = .ref r ∧ HTxt T 0 word x k ∧ (r, trip3 (.str T tT) (.str word tw) (.ref d)) ∈ led ∧ (d, pairObj (.str x tx) (.int k tk)) ∈ led
def RowS (led : Led) (v : Value) : Prop := ∃ r d d2 T word x tT tw tx k tk, v = .ref r ∧ HSys T 0 word x k ∧ (r, trip3 (.str T tT) (.str word tw) (.ref d)) ∈ led ∧ (d, pairObj (.ref d2) (.int k tk)) ∈ led ∧ (d2, pairObj .none (.str x tx)) ∈ led
def RowP (led : Led) (v : Value) : Prop := ∃ r d d2 T word p x tT tw tp tx k tk, v = .ref r ∧ HPub T 0 word p x k ∧ (r, trip3 (.str T tT) (.str word tw) (.ref d)) ∈ led ∧ (d, pairObj (.ref d2) (.int k tk)) ∈ led ∧ (d2, pairObj (.str p tp) (.str x tx)) ∈ led
def RowN (led : Led) (v : Value) : Prop := ∃ r d d2 T word tT tw k tk, v = .ref r ∧ HNo T 0 word k ∧ (r, trip3 (.str T tT) (.str word tw) (.ref d)) ∈ led ∧ (d, pairObj (.ref d2) (.int k tk)) ∈ led ∧ (d2, pairObj .none .none) ∈ led
def RowA (led : Led) (v : Value) : Prop := RowT led v ∨ RowS led v ∨ RowP led v ∨ RowN led v
theorem rowT {led : Led} {r d : Addr} {T word x : Str} {tT tw tx tk : Tok} {k : Int} (h : HTxt T 0 word x k) (m1 : (r, trip3 (.str T tT) (.str word tw) (.ref d)) ∈ led) (m2 : (d, pairObj (.str x tx) (.int k tk)) ∈ led) : RowA led (.ref r) := .inl ⟨_, _, _, _, _, _, _, _, _, _, rfl, h, m1, m2⟩
theorem rowS {led : Led} {r d d2 : Addr} {T word x : Str} {tT tw tx tk : Tok} {k : Int} (h : HSys T 0 word x k) (m1 : (r, trip3 (.str T tT) (.str word tw) (.ref d)) ∈ led) (m2 : (d, pairObj (.ref d2) (.int k tk)) ∈ led) (m3 : (d2, pairObj .none (.str x tx)) ∈ led) : RowA led (.ref r) := .inr (.inl ⟨_, _, _, _, _, _, _, _, _, _, _, rfl, h, m1, m2, m3⟩)
theorem rowP {led : Led} {r d d2 : Addr} {T word p x : Str} {tT tw tp tx tk : Tok} {k : Int} (h : HPub T 0 word p x k) (m1 : (r, trip3 (.str T tT) (.str word tw) (.ref d)) ∈ led) (m2 : (d, pairObj (.ref d2) (.int k tk)) ∈ led) (m3 : (d2, pairObj (.str p tp) (.str x tx)) ∈ led) : RowA led (.ref r) := .inr (.inr (.inl ⟨_, _, _, _, _, _, _, _, _, _, _, _, _, rfl, h, m1, m2, m3⟩))
theorem rowN {led : Led} {r d d2 : Addr} {T word : Str} {tT tw tk : Tok} {k : Int} (h : HNo T 0 word k) (m1 : (r, trip3 (.str T tT) (.str word tw) (.ref d)) ∈ led) (m2 : (d, pairObj (.ref d2) (.int k tk)) ∈ led) (m3 : (d2, pairObj .none .none) ∈ led) : RowA led (.ref r) := .inr (.inr (.inr ⟨_, _, _, _, _, _, _, _, _, rfl, h, m1, m2, m3⟩))
theorem RowA.mono {led led' : Led} {v : Value} (h : RowA led v) (hs : ∀ p ∈ led, p ∈ led') : RowA led' v := by
  rcases h with ⟨r, d, T, word, x, tT, tw, tx, k, tk, e0, hH, m1, m2⟩ | ⟨r, d, d2, T, word, x, tT, tw, tx, k, tk, e0, hH, m1, m2, m3⟩ | ⟨r, d, d2, T, word, p, x, tT, tw, tp, tx, k, tk, e0, hH, m1, m2, m3⟩ | ⟨r, d, d2, T, word, tT, tw, k, tk, e0, hH, m1, m2, m3⟩
  · subst e0; exact rowT hH (hs _ m1) (hs _ m2)
  · subst e0; exact rowS hH (hs _ m1) (hs _ m2) (hs _ m3)
  · subst e0; exact rowP hH (hs _ m1) (hs _ m2) (hs _ m3)
  · subst e0; exact rowN hH (hs _ m1) (hs _ m2) (hs _ m3)
theorem rows_cons {led : Led} {v : Value} {l : List Value} (h : RowA led v) (h2 : ∀ x ∈ l, RowA led x) : ∀ x ∈ v :: l, RowA led x := List.forall_mem_cons.mpr ⟨h, h2⟩
theorem add_rows {prog : Program} {w : World} {A : Around} {E : Value → Shared → Prop} {s : Shared} {h₀ : Heap} {L l l2 : Addr} {m : Str → Option Value} {led rest : Led} {vs vs2 : List Value} {n n2 : Nat} {Q : Value → Shared → Prop}
    (F : Fr h₀ L s.heap m) (N : News h₀ L s.heap led) (ha : (l, listOf vs.toArray n) ∈ led) (hb : (l2, listOf vs2.toArray n2) ∈ led) (ra : ∀ v ∈ vs, RowA led v) (rb : ∀ v ∈ vs2, RowA led v) (hz : vs.length + vs2.length ≤ sizeLine) (hs : ∀ p ∈ rest, p ∈ led)
    (h : ∀ (D : Addr) (led' : Led) (vs' : List Value) (h' : Heap), Fr h₀ L h' m → News h₀ L h' ((D, listOf vs'.toArray 0) :: led') → (∀ v ∈ vs', RowA led' v) → vs'.length = vs.length + vs2.length → (∀ p ∈ rest, p ∈ led') → Q (.ref D) { s with heap := h' }) :
    wpAny (model prog w) A (binaryOp .Add (.ref l) (.ref l2)) Q E s :=
  kmk_add_lit (its := vs.toArray) (its2 := vs2.toArray) F N ⟨_, (N _ ha).1, rfl, _, rfl⟩ ⟨_, (N _ hb).1, rfl, _, rfl⟩ rfl
    (fun D h' F' N' _ => h D led (vs ++ vs2) h' F' N' (fun v hv => (List.mem_append.mp hv).elim (ra v) (rb v)) List.length_append hs) hz
theorem leads2 {h₀ h : Heap} {L : Addr} {p q : Addr × Obj} {news : Led} (N : News h₀ L h news) (hp : p ∈ news) (hq : q ∈ news) : News h₀ L h (p :: q :: news) := lead (lead N hq) (.tail _ hp) |> fun N' => cb_drop N' (by intro x hx; simp only [List.mem_cons] at hx ⊢; grind)
theorem leads3 {h₀ h : Heap} {L : Addr} {p q r : Addr × Obj} {news : Led} (N : News h₀ L h news) (hp : p ∈ news) (hq : q ∈ news) (hr : r ∈ news) : News h₀ L h (p :: q :: r :: news) := cb_drop N (by intro x hx; simp only [List.mem_cons] at hx; grind)
theorem toldH0 : HTxt (Str.ofString "'-//A  b'>") 0 (Str.ofString "public") (Str.ofString "-//A b") 9 := h_pub (Int.le_refl 0) (by omega) (by decide +kernel) told0 told0x told0k
theorem toldH1 : HTxt (Str.ofString "\" a\nb \"") 0 (Str.ofString "public") (Str.ofString "a b") 7 := h_pub (Int.le_refl 0) (by omega) (by decide +kernel) told1 told1x told1k
theorem toldH2 : HTxt (Str.ofString "''") 0 (Str.ofString "public") (Str.ofString "") 2 := h_pub (Int.le_refl 0) (by omega) (by decide +kernel) told2 told2x told2k
theorem toldH3 : HTxt (Str.ofString "'a\tb'") 0 (Str.ofString "public") (Str.ofString "fault") 2 := h_pubF (Int.le_refl 0) (by omega) (by decide +kernel) told3
theorem toldH4 : HTxt (Str.ofString "a") 0 (Str.ofString "public") (Str.ofString "fault") 0 := h_pubF (Int.le_refl 0) (by omega) (by decide +kernel) told4
theorem toldH5 : HTxt (Str.ofString "'a") 0 (Str.ofString "public") (Str.ofString "fault") 1 := h_pubF (Int.le_refl 0) (by omega) (by decide +kernel) told5
theorem toldH6 : HTxt (Str.ofString "'a <&>'x") 0 (Str.ofString "system") (Str.ofString "a <&>") 7 := h_sys (Int.le_refl 0) (by omega) (by decide +kernel) told6 told6x told6k
theorem toldH7 : HTxt (Str.ofString "'a\x07'") 0 (Str.ofString "system") (Str.ofString "fault") 2 := h_sysF (Int.le_refl 0) (by omega) (by decide +kernel) told7
theorem toldH8 : HSys (Str.ofString "SYSTEM 's'>") 0 (Str.ofString "outer") (Str.ofString "s") 10 := h_outS (Int.le_refl 0) (by omega) (by decide +kernel) told8
theorem toldH9 : HTxt (Str.ofString "SYSTEM's'") 0 (Str.ofString "outer") (Str.ofString "fault") 6 := h_outF (Int.le_refl 0) (by omega) (by decide +kernel) told9
theorem toldH10 : HPub (Str.ofString "PUBLIC 'p' 's'") 0 (Str.ofString "outer") (Str.ofString "p") (Str.ofString "s") 14 := h_outP (Int.le_refl 0) (by omega) (by decide +kernel) told10
theorem toldH11 : HTxt (Str.ofString "PUBLIC'p'") 0 (Str.ofString "outer") (Str.ofString "fault") 6 := h_outF (Int.le_refl 0) (by omega) (by decide +kernel) told11
theorem toldH12 : HTxt (Str.ofString "PUBLIC 'p''s'") 0 (Str.ofString "outer") (Str.ofString "fault") 10 := h_outF (Int.le_refl 0) (by omega) (by decide +kernel) told12
theorem toldH13 : HTxt (Str.ofString "PUBLIC 'p' ") 0 (Str.ofString "outer") (Str.ofString "fault") 11 := h_outF (Int.le_refl 0) (by omega) (by decide +kernel) told13
theorem toldH14 : HNo (Str.ofString "[") 0 (Str.ofString "outer") 0 := h_outN (Int.le_refl 0) (by omega) (by decide +kernel) told14
theorem toldH15 : HNo (Str.ofString "") 0 (Str.ofString "outer") 0 := h_outN (Int.le_refl 0) (by omega) (by decide +kernel) told15
section
variable (w : World) (mean : ExcName → Option Value) (mg mb : Str → Option Value) (rest : Led)
theorem s_told : SpecT w mean mg mb 2 314 [] rest (fun v l => v = .bool true ∧ l = rest) := by
  k_with_none
  (k_with "ktr_room" => first | ((try simp only [depth_under_make, depth_under_kw, depth_in1, depth_deeper, depth_caller, units_in1, units_deeper, Around.mark_units, units_caller]); (try dsimp only [around, aroundE]); (try simp only [recursionLimit, cLine]); omega) | (simp only [depth_under_make, depth_under_kw, depth_in1, depth_deeper, depth_caller, units_in1, units_deeper, Around.mark_units, units_caller] at *; dsimp only [around, aroundE] at *; (try simp only [recursionLimit, cLine] at *); omega))
  (k_with "exec Raise some none" => (k_here; k_dflt (refine' raise_made ?zqX ?zqq ?zqhh ?_; (case zqX => k_asm); (case zqq => kts_isx); (case zqhh => exact rfl); k_whole)))
  (k_with "call ref" => (k_here; (with_reducible show wpAny _ _ (call (Value.ref 122) _) _ _ _); k_dflt (refine' fault_in ?zqB ?zqF ?zqX ?zqN ?zqT ?zqf ?zqk ?zqd ?zqu ?_; (case zqf => first | exact rfl | assumption); (case zqB => k_asm); (case zqF => k_asm); (case zqX => k_asm); (case zqN => k_asm); (case zqT => k_asm); (case zqk => first | exact rfl | assumption); (case zqd => ktr_room); (case zqu => ktr_room); k_whole); intro e'Z dx'Z tu'Z h'Z tk'Z h1'Z h2'Z t1'Z t2'Z n'Z F'Z N'Z ne'Z; (try k_sweep)))
  (k_with "Thrown" => (k_here; k_dflt (refine' thrown_ ?zqF ?zqX ?zqN ?zqm ?_; (case zqF => k_asm); (case zqX => k_asm); (case zqN => k_asm); (case zqm => k_mem); k_whole)))
  (k_with "leaving ref" => (k_here; k_dflt (refine' raise_leaves ?zqK ?zqF ?zqN ?zqne ?zqc ?zqx ?zqd ?zqo ?_ ?zqk; (case zqF => assumption); (case zqN => assumption); (case zqK => assumption); (case zqne => assumption); (case zqc => exact rfl); (case zqx => exact rfl); (case zqd => exact rfl); (case zqo => exact rfl); (case zqk => exact rfl); k_whole); intro h'Z R'Z U'Z; (try dsimp only at R'Z U'Z ⊢)))
  (k_with "cell_enter" => (refine' code_def ?zqk1 ?zqk2 ?zqk3 ?zqk4 ?zqk5 ?zqkA ?zqkF ?zqkK ?zqk6 ?zqk7 ?zqk8 ?zqk9 ?zqkB ?_ ?zqc2 ?zqc3 ?zqc4 ?zqc5; (case zqkA => exact rfl); (case zqkF => first | exact rfl | assumption); (case zqkK => assumption); (case zqk1 => k_asm); (case zqk2 => k_asm); (case zqk3 => k_asm); (case zqk4 => k_asm); (case zqk5 => k_asm); (case zqk6 => k_is); (case zqk7 => k_is); (case zqk8 => ktr_room); (case zqk9 => first | exact BindsTo.of_eq rfl | exact binds_K (by k_in) rfl (by k_is) rfl rfl rfl); (case zqc5 => decide); (case zqkB => exact locs rfl); (case zqc2 => exact rfl); (case zqc3 => exact rfl); (case zqc4 => exact rfl); k_whole; intro g'Z L'Z h'Z FG'Z F'Z N'Z B'Z X'Z T'Z; (try dsimp only); (try k_lift B'Z); (try k_fold)))
  (k_with "leaving ref" => (k_here; k_dflt (refine' pass_leaves ?zqK ?zqF ?zqR ?zqU ?_; (case zqR => assumption); (case zqF => assumption); (case zqK => assumption); (case zqU => assumption); k_whole); intro h'Z R'Z U'Z; (try dsimp only at R'Z U'Z ⊢)))
  (k_with "tb_rel" => first | exact subSelf | exact subNil | (refine subCons ?zqa ?zqb; (case zqa => k_mem); (case zqb => tb_rel)) | (refine subInto ?_; tb_rel))
  (k_with "kts_go" => (refine' code_defS ?zqk1 ?zqk2 ?zqk3 ?zqk4 ?zqk5 ?zqXB ?zqTB ?zqD ?zqT0 ?zqkA ?zqk6 ?zqk7 ?zqk8 ?zqk9 ?zqkB ?_ ?zqcK ?zqc2 ?zqc3 ?zqc4 ?zqc5; (case zqkA => exact rfl); (case zqk2 => k_asm); (case zqk1 => k_asm); (case zqXB => assumption); (case zqTB => assumption); (case zqD => assumption); (case zqT0 => first | assumption | exact KtsTurn.refl); (case zqk3 => k_asm); (case zqk4 => k_asm); (case zqk5 => k_asm); (case zqk6 => k_is); (case zqk7 => k_is); (case zqk8 => ktr_room); (case zqk9 => first | exact BindsTo.of_eq rfl | exact binds_K (by k_in) rfl (by k_is) rfl rfl rfl | fail "kts_go: no rule for these arguments"); (case zqkB => exact locs rfl); (case zqcK => assumption); (case zqc2 => exact rfl); (case zqc3 => exact rfl); (case zqc4 => exact rfl); (case zqc5 => decide); k_whole; intro g'Z L'Z h'Z FG'Z F'Z N'Z B'Z X'Z T'Z D'Z; (try dsimp only); (try k_lift B'Z); (try k_fold)))
  (k_with "noteFrame ref" => (k_here; k_dflt (refine' caught_as ?zqR ?zqF ?zqK ?zqU ?zqXB ?zqTB ?zqD ?zqT0 ?zqex ?zqq ?_; (case zqR => assumption); (case zqF => assumption); (case zqK => assumption); (case zqU => assumption); (case zqXB => assumption); (case zqTB => assumption); (case zqD => assumption); (case zqT0 => first | assumption | exact KtsTurn.refl); (case zqq => kts_isx); (case zqex => k_is); k_whole); intro h'Z g'Z oeZ vsZ tk'Z T'Z F'Z hcZ hxZ hdZ N'Z K'Z X'Z P'Z D'Z; (try k_lift K'Z); (try k_sweep)))
  (k_with "exec For Tuple BinOp cons nil" => (k_here; k_dflt (refine wpAny_For ?_)))
  (k_with "pyIter ref" => ((with_reducible show wpAny _ _ (pyIter (Value.ref _)) (fun it s₂ => codeAny _ _ _ _ _) _ _); refine halt ?_))
  (k_with "call ref" => (k_here; (with_reducible show wpAny _ _ (call (Value.ref 307) _) _ _ _); k_dflt (refine' SpecT.use (HNo.use ?zqhv _ _ _ _ _ _ _ _) ?zqB ?zqF ?zqX ?zqN ?zqT ?zqXB ?zqTB ?zqD ?zqT0 ?zqk ?zqd ?zqu ?_; (case zqhv => assumption); (case zqB => k_asm); (case zqF => k_asm); (case zqX => k_asm); (case zqN => k_asm); (case zqT => k_asm); (case zqXB => assumption); (case zqTB => assumption); (case zqD => assumption); (case zqT0 => first | assumption | exact KtsTurn.refl); (case zqk => first | exact rfl | assumption); (case zqd => ktr_room); (case zqu => ktr_room); (intro vZ lZ h'Z tk'Z g'Z T'Z hRZ F'Z N'Z B'Z X'Z P'Z D'Z; (try k_lift B'Z); obtain ⟨_, _, _, e1Z, hl0Z, hltZ, hl2Z, e2Z⟩ := hRZ; subst e1Z; subst e2Z; (try k_sweep); (try dsimp only)))))
  (k_with "call ref" => (k_here; (with_reducible show wpAny _ _ (call (Value.ref 307) _) _ _ _); k_dflt (refine' SpecT.use (HPub.use ?zqhv _ _ _ _ _ _ _ _) ?zqB ?zqF ?zqX ?zqN ?zqT ?zqXB ?zqTB ?zqD ?zqT0 ?zqk ?zqd ?zqu ?_; (case zqhv => assumption); (case zqB => k_asm); (case zqF => k_asm); (case zqX => k_asm); (case zqN => k_asm); (case zqT => k_asm); (case zqXB => assumption); (case zqTB => assumption); (case zqD => assumption); (case zqT0 => first | assumption | exact KtsTurn.refl); (case zqk => first | exact rfl | assumption); (case zqd => ktr_room); (case zqu => ktr_room); (intro vZ lZ h'Z tk'Z g'Z T'Z hRZ F'Z N'Z B'Z X'Z P'Z D'Z; (try k_lift B'Z); obtain ⟨_, _, _, _, _, e1Z, hl0Z, hltZ, hl2Z, e2Z⟩ := hRZ; subst e1Z; subst e2Z; (try k_sweep); (try dsimp only)))))
  (k_with "call ref" => (k_here; (with_reducible show wpAny _ _ (call (Value.ref 307) _) _ _ _); k_dflt (refine' SpecT.use (HSys.use ?zqhv _ _ _ _ _ _ _ _) ?zqB ?zqF ?zqX ?zqN ?zqT ?zqXB ?zqTB ?zqD ?zqT0 ?zqk ?zqd ?zqu ?_; (case zqhv => assumption); (case zqB => k_asm); (case zqF => k_asm); (case zqX => k_asm); (case zqN => k_asm); (case zqT => k_asm); (case zqXB => assumption); (case zqTB => assumption); (case zqD => assumption); (case zqT0 => first | assumption | exact KtsTurn.refl); (case zqk => first | exact rfl | assumption); (case zqd => ktr_room); (case zqu => ktr_room); (intro vZ lZ h'Z tk'Z g'Z T'Z hRZ F'Z N'Z B'Z X'Z P'Z D'Z; (try k_lift B'Z); obtain ⟨_, _, _, _, e1Z, hl0Z, hltZ, hl2Z, e2Z⟩ := hRZ; subst e1Z; subst e2Z; (try k_sweep); (try dsimp only)))))
  (k_with "call ref" => (k_here; (with_reducible show wpAny _ _ (call (Value.ref 307) _) _ _ _); k_dflt (refine' SpecT.use (HTxt.use ?zqhv _ _ _ _ _ _ _ _) ?zqB ?zqF ?zqX ?zqN ?zqT ?zqXB ?zqTB ?zqD ?zqT0 ?zqk ?zqd ?zqu ?_; (case zqhv => assumption); (case zqB => k_asm); (case zqF => k_asm); (case zqX => k_asm); (case zqN => k_asm); (case zqT => k_asm); (case zqXB => assumption); (case zqTB => assumption); (case zqD => assumption); (case zqT0 => first | assumption | exact KtsTurn.refl); (case zqk => first | exact rfl | assumption); (case zqd => ktr_room); (case zqu => ktr_room); (intro vZ lZ h'Z tk'Z g'Z T'Z hRZ F'Z N'Z B'Z X'Z P'Z D'Z; (try k_lift B'Z); obtain ⟨_, _, _, e1Z, hltZ, e2Z⟩ := hRZ; subst e1Z; subst e2Z; (try k_sweep); (try dsimp only)))))
  (k_with "compareOp NotEq ref ref" => (k_here; (with_reducible show wpAny _ _ (compareOp CmpOp.NotEq (Value.ref _) (Value.ref _)) _ _ _); k_dflt (first | (refine' ne_text ?zqN ?zqa ?zqb ?zqu ?_; (case zqN => k_asm); (case zqa => k_mem); (case zqb => k_mem); (case zqu => ke_room)) | (refine' ne_deep ?zqN ?zqa ?zqb ?zqa2 ?zqb2 ?zqne ?zqe1 ?zqe2 ?zqu ?_; (case zqN => k_asm); (case zqa => k_mem); (case zqb => k_mem); (case zqa2 => k_mem); (case zqb2 => k_mem); (case zqne => first | exact ne_of_lt_mem (by assumption) (by k_mem) | k_ne); (case zqe1 => first | exact SameV.str | exact .inl rfl); (case zqe2 => first | exact SameV.str | exact .inl rfl); (case zqu => ke_room))); k_whole))
  (k_with "row" => first | exact rowT toldH0 (by k_mem) (by k_mem) | exact rowT toldH1 (by k_mem) (by k_mem) | exact rowT toldH2 (by k_mem) (by k_mem) | exact rowT toldH3 (by k_mem) (by k_mem) | exact rowT toldH4 (by k_mem) (by k_mem) | exact rowT toldH5 (by k_mem) (by k_mem) | exact rowT toldH6 (by k_mem) (by k_mem) | exact rowT toldH7 (by k_mem) (by k_mem) | exact rowS toldH8 (by k_mem) (by k_mem) (by k_mem) | exact rowT toldH9 (by k_mem) (by k_mem) | exact rowP toldH10 (by k_mem) (by k_mem) (by k_mem) | exact rowT toldH11 (by k_mem) (by k_mem) | exact rowT toldH12 (by k_mem) (by k_mem) | exact rowT toldH13 (by k_mem) (by k_mem) | exact rowN toldH14 (by k_mem) (by k_mem) (by k_mem) | exact rowN toldH15 (by k_mem) (by k_mem) (by k_mem))
  (k_with "rows" => first | exact fun vZ hvZ => RowA.mono (hrZ vZ hvZ) (by tb_rel) | (repeat' first | exact List.forall_mem_nil _ | refine rows_cons ?_ ?_); all_goals k_extra "row")
  (k_with "binaryOp Add ref ref" => (k_here; (with_reducible show wpAny _ _ (binaryOp Operator.Add (Value.ref _) (Value.ref _)) _ _ _); k_dflt (refine' add_rows (rest := rest) ?zqF ?zqN ?zqha ?zqhb ?zqra ?zqrb ?zqhz ?zqhs ?_; (case zqF => k_asm); (case zqN => k_asm); (case zqha => k_mem); (case zqhb => k_mem); (case zqra => k_extra "rows"); (case zqrb => k_extra "rows"); (case zqhz => ((try rw [hlZ]); simp only [List.length_cons, List.length_nil, sizeLine_eq]; omega)); (case zqhs => first | (exact fun pZ hpZ => (show ∀ p ∈ _, p ∈ _ by tb_rel) _ (hsZ pZ hpZ)) | tb_rel)); (intro DZ ledZ vsZ h'Z F'Z N'Z hrY hlY hsY); (try simp only [List.length_cons, List.length_nil] at hlY); (try rw [hlZ] at hlY); (try clear hrZ hlZ hsZ); (have hrZ := hrY); (have hlZ := hlY); (have hsZ := hsY); clear hrY hlY hsY; (try k_sweep)))
  unfold SpecT
  k_fill
  intro dp un gd cn cs a ccd outer A₀ base g₀ h₀ L m s Q E B F X N TP XB TB D T0 hk hdp hun hret
  refine wpAny_call ?_
  k_dflt kts_go
  k_steps
  unfold Halt
  (rename News _ _ _ _ => N8)
  have hrow := hrZ
  have hsub := hsZ
  refine' for_turning ?hh ?hE ?F ?N ?hl ?B ?X ?T ?D ?T0 ?turn ?done
  (case hh => exact rfl)
  (case hE => first | passes_own | with_unfolding_all passes_own)
  (case F => assumption)
  (case N => exact N8)
  (case hl => exact .head _)
  (case B => assumption)
  (case X => assumption)
  (case T => assumption)
  (case D => assumption)
  (case T0 => exact KtsTurn.refl)
  · intro I io i v h tk g m' hI hv T1 F1 N1 B1 X1 P1 D1
    have hv := hrow v (List.mem_of_getElem? hv)
    dsimp only
    clear N8
    rcases hv with ⟨r, d, T, word, x, tT, tw, tx, k, tk', e0, hH, m1, m2⟩ | ⟨r, d, d2, T, word, x, tT, tw, tx, k, tk', e0, hH, m1, m2, m3⟩ | ⟨r, d, d2, T, word, p, x, tT, tw, tp, tx, k, tk', e0, hH, m1, m2, m3⟩ | ⟨r, d, d2, T, word, tT, tw, k, tk', e0, hH, m1, m2, m3⟩
    · subst e0
      have N2 := leads2 N1 (.tail _ (.tail _ m1)) (.tail _ (.tail _ m2))
      clear N1
      k_steps
      all_goals
        (refine' ⟨_, _, _, _, rfl, ?Tr0, ?Fr0, ?Nr0, ?Br0, ?Xr0, ?Pr0, ?Dr0⟩; (case Fr0 => assumption); (case Tr0 => assumption); (case Nr0 => exact cb_drop (by assumption) (by tb_rel)); (case Br0 => assumption); (case Xr0 => assumption); (case Pr0 => assumption); (case Dr0 => assumption))
    · subst e0
      have N2 := leads3 N1 (.tail _ (.tail _ m1)) (.tail _ (.tail _ m2)) (.tail _ (.tail _ m3))
      clear N1
      k_steps
      all_goals
        (refine' ⟨_, _, _, _, rfl, ?Tr1, ?Fr1, ?Nr1, ?Br1, ?Xr1, ?Pr1, ?Dr1⟩; (case Fr1 => assumption); (case Tr1 => assumption); (case Nr1 => exact cb_drop (by assumption) (by tb_rel)); (case Br1 => assumption); (case Xr1 => assumption); (case Pr1 => assumption); (case Dr1 => assumption))
    · subst e0
      have N2 := leads3 N1 (.tail _ (.tail _ m1)) (.tail _ (.tail _ m2)) (.tail _ (.tail _ m3))
      clear N1
      k_steps
      all_goals
        (refine' ⟨_, _, _, _, rfl, ?Tr2, ?Fr2, ?Nr2, ?Br2, ?Xr2, ?Pr2, ?Dr2⟩; (case Fr2 => assumption); (case Tr2 => assumption); (case Nr2 => exact cb_drop (by assumption) (by tb_rel)); (case Br2 => assumption); (case Xr2 => assumption); (case Pr2 => assumption); (case Dr2 => assumption))
    · subst e0
      have N2 := leads3 N1 (.tail _ (.tail _ m1)) (.tail _ (.tail _ m2)) (.tail _ (.tail _ m3))
      clear N1
      k_steps
      all_goals
        (refine' ⟨_, _, _, _, rfl, ?Tr3, ?Fr3, ?Nr3, ?Br3, ?Xr3, ?Pr3, ?Dr3⟩; (case Fr3 => assumption); (case Tr3 => assumption); (case Nr3 => exact cb_drop (by assumption) (by tb_rel)); (case Br3 => assumption); (case Xr3 => assumption); (case Pr3 => assumption); (case Dr3 => assumption))
  · intro h tk g m' T1 F1 N1 B1 X1 P1 D1
    dsimp only
    k_steps
    refine' hret _ _ _ _ _ ?T1 ⟨rfl, rfl⟩ ?F1 ?N1 ?B1 ?X1 ?P1 ?D1
    (case F1 => assumption)
    (case T1 => assumption)
    (case N1 => exact cb_drop (by assumption) (fun p hp => .tail _ (hsub p hp)))
    (case B1 => assumption)
    (case X1 => assumption)
    (case P1 => assumption)
    (case D1 => assumption)
end
end Mine
end
theorem Mine.resetYSigK : True := by w_top off; k_with_none; exact trivial
section
open PySem PySem.Spec PySem.Calls PyProof.Rows PySem.W
namespace Mine
set_option maxRecDepth 100000
set_option maxHeartbeats 8000000
def signList : List Int := List.map (fun a => a) (rangeInts 0 1 ((128 : Int) - 0).toNat) ++ [233, 8364]
theorem signList_small0 : (signList.all fun n => decide (0 ≤ n) && decide (n < 10000)) = true := by decide +kernel
theorem signList_small : ∀ n ∈ signList, 0 ≤ n ∧ n < 10000 := fun n h => by have := List.all_eq_true.mp signList_small0 n h; simpa using this
def isDue (n : Int) : Bool := if 48 ≤ n ∧ n ≤ 57 then true else if 65 ≤ n ∧ n ≤ 90 then true else if 97 ≤ n ∧ n ≤ 122 then true else inB (Str.ofString "-'()+,./:=?;!*#@$_% \n") (Str.mk #[n.toNat])
theorem sign_ok0 : (signList.all fun n => publicB (Str.mk #[n.toNat]) == isDue n) = true := by decide +kernel
theorem sign_ok : ∀ n ∈ signList, publicB (Str.mk #[n.toNat]) = isDue n := fun n h => by have := List.all_eq_true.mp sign_ok0 n h; simpa using this
theorem ints_at {ws : List Value} {ns : List Int} (h : IntsAre ws ns) {i : Nat} {v : Value} (hv : ws[i]? = some v) : ∃ n t, v = .int n t ∧ n ∈ ns := by
  induction h generalizing i with
  | nil => simp at hv
  | cons n t h ih =>
    cases i with
    | zero => simp at hv; exact ⟨n, t, hv.symm, .head _⟩
    | succ i => obtain ⟨m, u, e, hm⟩ := ih (by simpa using hv); exact ⟨m, u, e, .tail _ hm⟩
section
variable (w : World) (mean : ExcName → Option Value) (mg mb : Str → Option Value) (rest : Led)
theorem s_signs : SpecT w mean mg mb 2 328 [] rest (fun v l => v = .bool true ∧ l = rest) := by
  k_with_none
  (k_with "ktr_room" => (simp only [depth_under_make, depth_under_kw, depth_in1, depth_deeper, depth_caller, units_in1, units_deeper, Around.mark_units, units_caller] at *; dsimp only [around, aroundE] at *; (try simp only [recursionLimit, cLine] at *); omega))
  (k_with "exec Raise some none" => (k_here; k_dflt (refine' raise_made ?zqX ?zqq ?zqhh ?_; (case zqX => k_asm); (case zqq => kts_isx); (case zqhh => exact rfl); k_whole)))
  (k_with "call ref" => (k_here; (with_reducible show wpAny _ _ (call (Value.ref 122) _) _ _ _); k_dflt (refine' fault_in ?zqB ?zqF ?zqX ?zqN ?zqT ?zqf ?zqk ?zqd ?zqu ?_; (case zqf => first | exact rfl | assumption); (case zqB => k_asm); (case zqF => k_asm); (case zqX => k_asm); (case zqN => k_asm); (case zqT => k_asm); (case zqk => first | exact rfl | assumption); (case zqd => ktr_room); (case zqu => ktr_room); k_whole); intro e'Z dx'Z tu'Z h'Z tk'Z h1'Z h2'Z t1'Z t2'Z n'Z F'Z N'Z ne'Z; (try k_sweep)))
  (k_with "Thrown" => (k_here; k_dflt (refine' thrown_ ?zqF ?zqX ?zqN ?zqm ?_; (case zqF => k_asm); (case zqX => k_asm); (case zqN => k_asm); (case zqm => k_mem); k_whole)))
  (k_with "leaving ref" => (k_here; k_dflt (refine' raise_leaves ?zqK ?zqF ?zqN ?zqne ?zqc ?zqx ?zqd ?zqo ?_ ?zqk; (case zqF => assumption); (case zqN => assumption); (case zqK => assumption); (case zqne => assumption); (case zqc => exact rfl); (case zqx => exact rfl); (case zqd => exact rfl); (case zqo => exact rfl); (case zqk => exact rfl); k_whole); intro h'Z R'Z U'Z; (try dsimp only at R'Z U'Z ⊢)))
  (k_with "cell_enter" => (refine' code_def ?zqk1 ?zqk2 ?zqk3 ?zqk4 ?zqk5 ?zqkA ?zqkF ?zqkK ?zqk6 ?zqk7 ?zqk8 ?zqk9 ?zqkB ?_ ?zqc2 ?zqc3 ?zqc4 ?zqc5; (case zqkA => exact rfl); (case zqkF => first | exact rfl | assumption); (case zqkK => assumption); (case zqk1 => k_asm); (case zqk2 => k_asm); (case zqk3 => k_asm); (case zqk4 => k_asm); (case zqk5 => k_asm); (case zqk6 => k_is); (case zqk7 => k_is); (case zqk8 => ktr_room); (case zqk9 => first | exact BindsTo.of_eq rfl | exact binds_K (by k_in) rfl (by k_is) rfl rfl rfl); (case zqc5 => decide); (case zqkB => exact locs rfl); (case zqc2 => exact rfl); (case zqc3 => exact rfl); (case zqc4 => exact rfl); k_whole; intro g'Z L'Z h'Z FG'Z F'Z N'Z B'Z X'Z T'Z; (try dsimp only); (try k_lift B'Z); (try k_fold)))
  (k_with "leaving ref" => (k_here; k_dflt (refine' pass_leaves ?zqK ?zqF ?zqR ?zqU ?_; (case zqR => assumption); (case zqF => assumption); (case zqK => assumption); (case zqU => assumption); k_whole); intro h'Z R'Z U'Z; (try dsimp only at R'Z U'Z ⊢)))
  (k_with "tb_rel" => first | exact subSelf | exact subNil | (refine subCons ?zqa ?zqb; (case zqa => k_mem); (case zqb => tb_rel)) | (refine subInto ?_; tb_rel))
  (k_with "kts_go" => (refine' code_defS ?zqk1 ?zqk2 ?zqk3 ?zqk4 ?zqk5 ?zqXB ?zqTB ?zqD ?zqT0 ?zqkA ?zqk6 ?zqk7 ?zqk8 ?zqk9 ?zqkB ?_ ?zqcK ?zqc2 ?zqc3 ?zqc4 ?zqc5; (case zqkA => exact rfl); (case zqk2 => k_asm); (case zqk1 => k_asm); (case zqXB => assumption); (case zqTB => assumption); (case zqD => assumption); (case zqT0 => first | assumption | exact KtsTurn.refl); (case zqk3 => k_asm); (case zqk4 => k_asm); (case zqk5 => k_asm); (case zqk6 => k_is); (case zqk7 => k_is); (case zqk8 => ktr_room); (case zqk9 => first | exact BindsTo.of_eq rfl | exact binds_K (by k_in) rfl (by k_is) rfl rfl rfl | fail "kts_go: no rule for these arguments"); (case zqkB => exact locs rfl); (case zqcK => assumption); (case zqc2 => exact rfl); (case zqc3 => exact rfl); (case zqc4 => exact rfl); (case zqc5 => decide); k_whole; intro g'Z L'Z h'Z FG'Z F'Z N'Z B'Z X'Z T'Z D'Z; (try dsimp only); (try k_lift B'Z); (try k_fold)))
  (k_with "noteFrame ref" => (k_here; k_dflt (refine' caught_as ?zqR ?zqF ?zqK ?zqU ?zqXB ?zqTB ?zqD ?zqT0 ?zqex ?zqq ?_; (case zqR => assumption); (case zqF => assumption); (case zqK => assumption); (case zqU => assumption); (case zqXB => assumption); (case zqTB => assumption); (case zqD => assumption); (case zqT0 => first | assumption | exact KtsTurn.refl); (case zqq => kts_isx); (case zqex => k_is); k_whole); intro h'Z g'Z oeZ vsZ tk'Z T'Z F'Z hcZ hxZ hdZ N'Z K'Z X'Z P'Z D'Z; (try k_lift K'Z); (try k_sweep)))
  (k_with "exec For Name BinOp cons nil" => (k_here; k_dflt (refine wpAny_For ?_)))
  (k_with "pyIter ref" => ((with_reducible show wpAny _ _ (pyIter (Value.ref _)) (fun it s₂ => codeAny _ _ _ _ _) _ _); refine halt ?_))
  (k_with "call ref" => (k_here; (with_reducible show wpAny _ _ (call (Value.ref 138) _) _ _ _); k_dflt (refine' Spec.use (s_is_public _ _ _ _ _ _ _) ?zqB ?zqF ?zqX ?zqN ?zqT ?zqf ?zqk ?zqd ?zqu ?_ ?zqexc; (case zqf => first | exact rfl | assumption); (case zqB => k_asm); (case zqF => k_asm); (case zqX => k_asm); (case zqN => first | assumption | exact front1 (by assumption) | exact front2 (by assumption) | exact front3 (by assumption)); (case zqT => k_asm); (case zqk => first | exact rfl | assumption); (case zqd => ktr_room); (case zqu => ktr_room); (case zqexc => (intro kZ eZ dxZ gZ h'Z tk'Z h1Z h2Z t1Z t2Z nZ v1Z uZ hEZ; exact hEZ.elim)); (intro vZ lZ h'Z tk'Z hRZ F'Z N'Z; (try dsimp only at hRZ); obtain ⟨e1Z, e2Z⟩ := hRZ; subst e1Z; subst e2Z; (try k_sweep); (try dsimp only)))))
  unfold SpecT
  k_fill
  intro dp un gd cn cs a ccd outer A₀ base g₀ h₀ L m s Q E B F X N TP XB TB D T0 hk hdp hun hret
  refine wpAny_call ?_
  k_dflt kts_go
  k_steps
  unfold Halt
  (rename IntsAre _ _ => hI)
  refine' for_turning ?hh ?hE ?F ?N ?hl ?B ?X ?T ?D ?T0 ?turn ?done
  (case hh => exact rfl)
  (case hE => first | passes_own | with_unfolding_all passes_own)
  (case F => assumption)
  (case N => assumption)
  (case hl => exact .head _)
  (case B => assumption)
  (case X => assumption)
  (case T => assumption)
  (case D => assumption)
  (case T0 => exact KtsTurn.refl)
  · intro I io i v h tk g m' hIn hv T1 F1 N1 B1 X1 P1 D1
    obtain ⟨n, t, e, hn⟩ := ints_at hI hv
    subst e
    obtain ⟨hn0, hn1⟩ := signList_small n hn
    dsimp only
    clear N
    have hok := sign_ok n hn
    k_steps
    all_goals first
      | (refine' ⟨_, _, _, _, rfl, ?Ta, ?Fa, ?Na, ?Ba, ?Xa, ?Pa, ?Da⟩; (case Fa => assumption); (case Ta => assumption); (case Na => exact cb_drop (by assumption) (by tb_rel)); (case Ba => assumption); (case Xa => assumption); (case Pa => assumption); (case Da => assumption))
      | (exfalso; (rename (publicB _ != _) = true => hc); rw [hok, isDue] at hc; (repeat' split at hc) <;> first | omega | (rw [show decide (n ≤ 57) = true from decide_eq_true (by omega)] at hc; exact absurd hc (by decide)) | (rw [show decide (n ≤ 90) = true from decide_eq_true (by omega)] at hc; exact absurd hc (by decide)) | (rw [show decide (n ≤ 122) = true from decide_eq_true (by omega)] at hc; exact absurd hc (by decide)) | (simp [inB] at hc; done))
  · intro h tk g m' T1 F1 N1 B1 X1 P1 D1
    dsimp only
    k_steps
    refine' hret _ _ _ _ _ ?T1 ⟨rfl, rfl⟩ ?F1 ?N1 ?B1 ?X1 ?P1 ?D1
    (case F1 => assumption)
    (case T1 => assumption)
    (case N1 => exact cb_drop (by assumption) (by tb_rel))
    (case B1 => assumption)
    (case X1 => assumption)
    (case P1 => assumption)
    (case D1 => assumption)
end
end Mine
end
theorem Mine.resetYTake : True := by w_top off; k_with_none; exact trivial
section
open PySem PySem.Spec PySem.Calls PyProof.Rows PySem.W
namespace Mine
set_option maxRecDepth 100000
set_option maxHeartbeats 8000000
section
variable (w : World) (mean : ExcName → Option Value) (mg mb : Str → Option Value) (rest : Led)
theorem s_take (c : Addr) (x y top : Int) (t u v : Tok) (hne : ∀ p ∈ rest, p.1 ≠ c) (ha : 0 ≤ x) (hb : 0 ≤ y) (ht : 0 < top) (ht2 : top < 100000) : Spec w mean mg mb 8 293 [.ref c, .int top v] ((c, listOf #[.int x t, .int y u] 0) :: rest) rest
   (fun v l => ∃ r t x' y' t' u', v = .int r t ∧ (0 ≤ r ∧ r < top) ∧ (0 ≤ x' ∧ 0 ≤ y') ∧ l = (c, listOf #[.int x' t', .int y' u'] 0) :: rest) (fun _ => False) := by
  k_with_none
  (k_with "ktr_room" => (simp only [depth_under_make, depth_under_kw, depth_in1, depth_deeper, depth_caller, units_in1, units_deeper, Around.mark_units, units_caller] at *; dsimp only [around, aroundE] at *; (try simp only [recursionLimit, cLine] at *); omega))
  (k_with "exec Raise some none" => (k_here; k_dflt (refine' raise_made ?zqX ?zqq ?zqhh ?_; (case zqX => k_asm); (case zqq => kts_isx); (case zqhh => exact rfl); k_whole)))
  (k_with "call ref" => (k_here; (with_reducible show wpAny _ _ (call (Value.ref 122) _) _ _ _); k_dflt (refine' fault_in ?zqB ?zqF ?zqX ?zqN ?zqT ?zqf ?zqk ?zqd ?zqu ?_; (case zqf => first | exact rfl | assumption); (case zqB => k_asm); (case zqF => k_asm); (case zqX => k_asm); (case zqN => k_asm); (case zqT => k_asm); (case zqk => first | exact rfl | assumption); (case zqd => ktr_room); (case zqu => ktr_room); k_whole); intro e'Z dx'Z tu'Z h'Z tk'Z h1'Z h2'Z t1'Z t2'Z n'Z F'Z N'Z ne'Z; (try k_sweep)))
  (k_with "Thrown" => (k_here; k_dflt (refine' thrown_ ?zqF ?zqX ?zqN ?zqm ?_; (case zqF => k_asm); (case zqX => k_asm); (case zqN => k_asm); (case zqm => k_mem); k_whole)))
  (k_with "leaving ref" => (k_here; k_dflt (refine' raise_leaves ?zqK ?zqF ?zqN ?zqne ?zqc ?zqx ?zqd ?zqo ?_ ?zqk; (case zqF => assumption); (case zqN => assumption); (case zqK => assumption); (case zqne => assumption); (case zqc => exact rfl); (case zqx => exact rfl); (case zqd => exact rfl); (case zqo => exact rfl); (case zqk => exact rfl); k_whole); intro h'Z R'Z U'Z; (try dsimp only at R'Z U'Z ⊢)))
  (k_with "cell_enter" => (refine' code_def ?zqk1 ?zqk2 ?zqk3 ?zqk4 ?zqk5 ?zqkA ?zqkF ?zqkK ?zqk6 ?zqk7 ?zqk8 ?zqk9 ?zqkB ?_ ?zqc2 ?zqc3 ?zqc4 ?zqc5; (case zqkA => exact rfl); (case zqkF => first | exact rfl | assumption); (case zqkK => assumption); (case zqk1 => k_asm); (case zqk2 => k_asm); (case zqk3 => k_asm); (case zqk4 => k_asm); (case zqk5 => k_asm); (case zqk6 => k_is); (case zqk7 => k_is); (case zqk8 => ktr_room); (case zqk9 => first | exact BindsTo.of_eq rfl | exact binds_K (by k_in) rfl (by k_is) rfl rfl rfl); (case zqc5 => decide); (case zqkB => exact locs rfl); (case zqc2 => exact rfl); (case zqc3 => exact rfl); (case zqc4 => exact rfl); k_whole; intro g'Z L'Z h'Z FG'Z F'Z N'Z B'Z X'Z T'Z; (try dsimp only); (try k_lift B'Z); (try k_fold)))
  (k_with "leaving ref" => (k_here; k_dflt (refine' pass_leaves ?zqK ?zqF ?zqR ?zqU ?_; (case zqR => assumption); (case zqF => assumption); (case zqK => assumption); (case zqU => assumption); k_whole); intro h'Z R'Z U'Z; (try dsimp only at R'Z U'Z ⊢)))
  (k_with "tb_rel" => first | exact subSelf | exact subNil | (refine subCons ?zqa ?zqb; (case zqa => k_mem); (case zqb => tb_rel)) | (refine subInto ?_; tb_rel))
  (k_with "kts_go" => (refine' code_defS ?zqk1 ?zqk2 ?zqk3 ?zqk4 ?zqk5 ?zqXB ?zqTB ?zqD ?zqT0 ?zqkA ?zqk6 ?zqk7 ?zqk8 ?zqk9 ?zqkB ?_ ?zqcK ?zqc2 ?zqc3 ?zqc4 ?zqc5; (case zqkA => exact rfl); (case zqk2 => k_asm); (case zqk1 => k_asm); (case zqXB => assumption); (case zqTB => assumption); (case zqD => assumption); (case zqT0 => first | assumption | exact KtsTurn.refl); (case zqk3 => k_asm); (case zqk4 => k_asm); (case zqk5 => k_asm); (case zqk6 => k_is); (case zqk7 => k_is); (case zqk8 => ktr_room); (case zqk9 => first | exact BindsTo.of_eq rfl | exact binds_K (by k_in) rfl (by k_is) rfl rfl rfl | fail "kts_go: no rule for these arguments"); (case zqkB => exact locs rfl); (case zqcK => assumption); (case zqc2 => exact rfl); (case zqc3 => exact rfl); (case zqc4 => exact rfl); (case zqc5 => decide); k_whole; intro g'Z L'Z h'Z FG'Z F'Z N'Z B'Z X'Z T'Z D'Z; (try dsimp only); (try k_lift B'Z); (try k_fold)))
  (k_with "noteFrame ref" => (k_here; k_dflt (refine' caught_as ?zqR ?zqF ?zqK ?zqU ?zqXB ?zqTB ?zqD ?zqT0 ?zqex ?zqq ?_; (case zqR => assumption); (case zqF => assumption); (case zqK => assumption); (case zqU => assumption); (case zqXB => assumption); (case zqTB => assumption); (case zqD => assumption); (case zqT0 => first | assumption | exact KtsTurn.refl); (case zqq => kts_isx); (case zqex => k_is); k_whole); intro h'Z g'Z oeZ vsZ tk'Z T'Z F'Z hcZ hxZ hdZ N'Z K'Z X'Z P'Z D'Z; (try k_lift K'Z); (try k_sweep)))
  unfold Spec
  k_fill
  intro dp un gd env outer A₀ base h₀ L m s Q E B F X N TP hf hk hdp hun hret hexc
  refine wpAny_call ?_
  k_dflt cell_enter
  k_steps
  · refine' hret _ _ _ _ ⟨_, _, _, _, _, _, rfl, ⟨?a1, ?a2⟩, ⟨?a3, ?a4⟩, rfl⟩ ?F ?N
    (case F => assumption)
    (case N => assumption)
    (case a1 => exact Int.fmod_nonneg_of_pos _ ht)
    (case a2 => exact Int.fmod_lt_of_pos _ ht)
    (case a3 => (show 0 ≤ x.fdiv top; rw [Int.fdiv_eq_ediv_of_nonneg _ (Int.le_of_lt ht)]; exact Int.ediv_nonneg ha (Int.le_of_lt ht)))
    (case a4 => exact hb)
  · generalize hX : ([x, ([x, y].getD (Int.toNat 1) 0 * 39373 + 7).fmod 2147483647].getD (Int.toNat 1) 0) = X at *
    have hX' : (y * 39373 + 7).fmod 2147483647 = X := hX
    have hX0 : 0 ≤ X := hX' ▸ Int.fmod_nonneg_of_pos _ (by decide)
    have hX1 : X < 2147483647 := hX' ▸ Int.fmod_lt_of_pos _ (by decide)
    k_steps
    refine' hret _ _ _ _ ⟨_, _, _, _, _, _, rfl, ⟨?b1, ?b2⟩, ⟨?b3, ?b4⟩, rfl⟩ ?F2 ?N2
    (case F2 => assumption)
    (case N2 => assumption)
    (case b1 => exact Int.fmod_nonneg_of_pos _ ht)
    (case b2 => exact Int.fmod_lt_of_pos _ ht)
    (case b3 => exact ha)
    (case b4 => exact (hX' ▸ hX0))
end
end Mine
end
section
open PySem PySem.Spec PySem.Calls PyProof.Rows PySem.W
namespace Mine
section
variable {prog : Program} {w : World} {A : Around} {E : Value → Shared → Prop} {s : Shared} {name : Str} {fscope : Scope} {L a c r : Addr} {cd : Value} {elt iter : PySem.Expr} {x : Str} {px pos : Pos} {scope : Scope} {h₀ : Heap} {m : Str → Option Value} {rest : Led} {Q : Value → Shared → Prop}
abbrev srcObj (x y : Int) (t u : Tok) : Obj := listOf #[.int x t, .int y u] 0
/-- the heap in which a draw's source stands -/
def SrcAt (h₀ : Heap) (L : Addr) (m : Str → Option Value) (c : Addr) (led : Led) (h : Heap) : Prop := ∃ x y t u, 0 ≤ x ∧ 0 ≤ y ∧ Fr h₀ L h m ∧ News h₀ L h ((c, srcObj x y t u) :: led)
theorem SrcAt.but {h h' : Heap} {led : Led} {z X : Addr} (S : SrcAt h₀ L m c led h) (hL : L < z) (hc : c < z) (hl : ∀ p ∈ led, p.1 < z) (hX : z ≤ X) (hk : ∀ b o, b ≠ X → h.get? b = some o → h'.get? b = some o) : SrcAt h₀ L m c led h' := by
  obtain ⟨x, y, t, u, hx, hy, F, N⟩ := S
  have lt : ∀ {b : Addr}, b < z → b ≠ X := fun h1 e => absurd (e ▸ h1) (Nat.not_lt.mpr hX)
  refine ⟨x, y, t, u, hx, hy, ⟨F.ns.at' fun o e => hk _ o (lt hL) e, fun b o e => hk b o (lt (Nat.lt_of_lt_of_le (Heap.lt_size e) (Nat.le_trans F.above (Nat.le_of_lt hL)))) (F.keep b o e), F.above⟩, fun p hp => ⟨hk _ _ (lt ?_) (N p hp).1, (N p hp).2⟩⟩
  rcases List.mem_cons.mp hp with rfl | hp
  · exact hc
  · exact hl p hp
theorem SrcAt.more {h : Heap} {led : Led} {q : Addr} {o : Obj} {z : Addr} (S : SrcAt h₀ L m c led h) (hL : L < z) (hq : z ≤ q) (ho : h.get? q = some o) : SrcAt h₀ L m c (led ++ [(q, o)]) h := by
  obtain ⟨x, y, t, u, hx, hy, F, N⟩ := S
  refine ⟨x, y, t, u, hx, hy, F, fun p hp => ?_⟩
  rw [← List.cons_append] at hp
  rcases List.mem_append.mp hp with hp | hp
  · exact N p hp
  · rw [List.mem_singleton.mp hp]
    refine ⟨ho, fun e => absurd ((show q = L from e) ▸ hL) (Nat.not_lt.mpr hq), ?_⟩
    cases e : h₀.get? q with
    | none => rfl
    | some o' => exact absurd (Nat.lt_of_lt_of_le (Heap.lt_size e) (Nat.le_trans F.above (Nat.le_of_lt hL))) (Nat.not_lt.mpr hq)
theorem SrcAt.drop {h : Heap} {led own : Led} (S : SrcAt h₀ L m c (led ++ own) h) : SrcAt h₀ L m c led h := by
  obtain ⟨x, y, t, u, hx, hy, F, N⟩ := S
  exact ⟨x, y, t, u, hx, hy, F, fun p hp => N p (by rcases List.mem_cons.mp hp with rfl | hp; exact .head _; exact .tail _ (List.mem_append_left _ hp))⟩
theorem SrcAt.has {h : Heap} {led : Led} {p : Addr × Obj} (S : SrcAt h₀ L m c led h) (hp : p ∈ led) : h.get? p.1 = some p.2 := by
  obtain ⟨x, y, t, u, hx, hy, F, N⟩ := S
  exact (N p (.tail _ hp)).1
theorem draw_block {n : Nat} {I : Addr} {s₂ : Shared} (F : Value → Prop) (hh : A.handled = none) (hst : IsRangeIter s₂.heap I 0 n 1) (hn : n < 1000) {RR : Value → Env → Result → Shared → Prop}
    (hcell : ∀ y ∈ scope.names, y.2 ≠ .cell) (hkind : scope.kind = .function) (hx : scope.names.lookup x = some .local)
    (hS : SrcAt h₀ L m c rest s₂.heap) (hL : L < I) (hc : c < I) (hl : ∀ p ∈ rest, p.1 < I)
    (helt : ∀ (C : Addr) (own : Led) (h : Heap) (tk : Nat) (E' : Value → Shared → Prop), (∀ p ∈ own, p.1 ≠ c) → SrcAt h₀ L m c (rest ++ own) h → wpAny (model prog w) A (eval elt (compEnv scope C (envOf name fscope L a cd))) (fun y s₃ => F y ∧ ∃ h' tk', s₃ = { s₂ with heap := h', toks := tk' } ∧ SrcAt h₀ L m c (rest ++ own) h') E' { s₂ with heap := h, toks := tk })
    (hRR : ∀ (D C : Addr) (ys : List Value) (h' : Heap) (tk : Nat) (m' : Str → Option Value), I < D → D < C → h'.Ns C m' → (∀ y ∈ ys, F y) → ys.length = n → (∃ k, SrcAt h₀ L m c ((D, listOf ys.toArray k) :: rest) h') → RR (.ref D) (compEnv scope C (envOf name fscope L a cd)) (.ok .next) { s₂ with heap := h', toks := tk }) :
    wpAny (model prog w) A (newList []) (fun acc s₃ => wpAny (model prog w) A (newFunctionEnv scope (envOf name fscope L a cd).globals [] [] (envOf name fscope L a cd).qual none .none (some (envOf name fscope L a cd))) (fun cenv s₄ =>
      codeAny (model prog w) A (.compStart (.ListComp elt [⟨.Name x px, iter, [], 0⟩] scope pos) 0 (.ref I) acc { cenv with scope := scope }) (RR acc { cenv with scope := scope }) s₄) E s₃) E s₂ := by
  have W : Walks prog w A I [I] [I] n (fun i v => ∃ t, v = .int (0 + i * 1) t)
      (fun i h => IsRangeIter h I (0 + (i : Nat) * 1) ((n : Int) - (i : Nat)) 1) := Walks.range hh _ 0 1 n
  have hst0 : IsRangeIter s₂.heap I (0 + ((0 : Nat) : Int) * 1) ((n : Int) - ((0 : Nat) : Int)) 1 := by simpa using hst
  refine wpAny_newObj_type (wpAny_newFunctionEnv hcell (by intro y hy; simp at hy) (fun h₁ hns₁ hsb₁ => ?_) hkind)
  dsimp only at hns₁ hsb₁ ⊢
  generalize hH2 : s₂.heap.push { cls := .type "list", dict := none, data := .seq ([] : List Value).toArray } = H2 at hns₁ hsb₁ ⊢
  have hC : H2.objs.size = s₂.heap.objs.size + 1 := by rw [← hH2, Heap.size_push]
  generalize hCC : H2.objs.size = C at *
  generalize hDD : s₂.heap.objs.size = D at *
  have hID : I < D := by rw [← hDD]; exact Heap.lt_size hst
  have hDC : D < C := by omega
  have hICl : I < C := Nat.lt_trans hID hDC
  have hDI : D ≠ I := Nat.ne_of_gt hID
  have hCI : C ≠ I := Nat.ne_of_gt hICl
  have hDCn : D ≠ C := Nat.ne_of_lt hDC
  have hCD : C ≠ D := Nat.ne_of_gt hDC
  have hIDn : I ≠ D := Nat.ne_of_lt hID
  have hIC : I ≠ C := Nat.ne_of_lt hICl
  have leD : I ≤ D := Nat.le_of_lt hID
  have leC : I ≤ C := Nat.le_of_lt hICl
  have old : ∀ b o, s₂.heap.get? b = some o → h₁.get? b = some o := fun b o e => hsb₁.extBut b o (Nat.ne_of_lt (Nat.lt_trans (hDD ▸ Heap.lt_size e) hDC)) (Heap.get?_push_of_some _ (hH2 ▸ Heap.get?_push_of_some _ e))
  have hacc : h₁.PlainList D #[] := ⟨_, hsb₁.extBut _ _ (Nat.ne_of_lt hDC) (Heap.get?_push_of_some _ (hH2 ▸ hDD ▸ Heap.get?_push_size _ rfl))⟩
  have hst₁ : IsRangeIter h₁ I (0 + ((0 : Nat) : Int) * 1) ((n : Int) - ((0 : Nat) : Int)) 1 := W.frame 0 _ _ hst0 fun b _ o e => old b o e
  have hS₁ : SrcAt h₀ L m c rest h₁ := hS.but (X := C) hL hc hl (by first | assumption | omega) fun b o _ e => old b o e
  have loop : ∀ s₃ : Shared, s₃ = { s₂ with heap := h₁, toks := s₂.toks + ([] : List (Str × Value)).length } →
      codeAny (model prog w) A (.compLoop (.ListComp elt [⟨.Name x px, iter, [], 0⟩] scope pos) 0 (.ref I) (.ref D) (compEnv scope C (envOf name fscope L a cd)))
        (RR (.ref D) (compEnv scope C (envOf name fscope L a cd))) s₃ := by
    rintro s₃ rfl
    refine codeAny_compLoop_tests
      (fun k s' => ∃ h' tk m' ys i, s' = { s₂ with heap := h', toks := tk } ∧ IsRangeIter h' I (0 + ((i : Nat) : Int) * 1) ((n : Int) - (i : Nat)) 1 ∧ h'.PlainList D ys ∧ h'.Ns C m' ∧ ys.size = i ∧ (∀ y ∈ ys.toList, F y) ∧ i ≤ n ∧ k = n + 1 - i ∧ SrcAt h₀ L m c rest h') ?_ (n + 1)
      ⟨h₁, _, _, #[], 0, rfl, hst₁, hacc, hns₁, rfl, by simp, Nat.zero_le _, rfl, hS₁⟩
    rintro k s' ⟨H, tk, m', ys, i, rfl, hst', hacc', hn', hsz, hF, hi, rfl, hS'⟩
    by_cases hlt : i < n
    · refine W.item i _ _ _ hlt hst' fun v h₂ tk₂ hPv hst₂ hk₂ => ?_
      have hk₂' : ∀ b o, b ≠ I → H.get? b = some o → h₂.get? b = some o := fun b o hb e => hk₂ b o (by simpa using hb) e
      refine wpAny_assign_Name (wpAny_storeName_local hx (hn'.at' fun o e => hk₂' _ o hCI e) (fun h₃ hn₃ hs₃ => ?_) (by simp [compEnv, hkind]))
      have hst₃ : IsRangeIter h₃ I (0 + ((i + 1 : Nat) : Int) * 1) ((n : Int) - (i + 1 : Nat)) 1 := W.frame _ _ _ hst₂ fun b hb o e => hs₃.extBut b o (by rw [show b = I by simpa using hb]; exact hIC) e
      obtain ⟨ln, hacc₃⟩ := hacc'
      have hacc₃ := hs₃.extBut D _ hDCn (hk₂' D _ (by first | assumption | omega) hacc₃)
      have hS₃ : SrcAt h₀ L m c rest h₃ := (hS'.but (X := I) hL hc hl (Nat.le_refl _) hk₂').but (X := C) hL hc hl (by first | assumption | omega) fun b o hb e => hs₃.extBut b o hb e
      refine wpAny_pure ?_
      rw [if_pos rfl]
      obtain ⟨oC, es, ep, hoC, hdC, hkC, hfC⟩ := id hn₃
      have hS₄ := ((hS₃.more (z := I) hL (Nat.le_refl _) hst₃).more (z := I) hL (by first | assumption | omega) hacc₃).more (z := I) (q := C) hL (by first | assumption | omega) hoC
      rw [List.append_assoc, List.append_assoc] at hS₄
      refine wpAny_mono (helt C _ h₃ _ _ ?_ hS₄) (fun y s₄ h₄ => ?_) fun _ _ e => e
      · intro p hp
        simp only [List.mem_append, List.mem_singleton] at hp
        rcases hp with rfl | rfl | rfl
        · exact Nat.ne_of_gt hc
        · exact Nat.ne_of_gt (Nat.lt_trans hc hID)
        · exact Nat.ne_of_gt (Nat.lt_trans hc hICl)
      obtain ⟨hFy, h₄, tk₄, rfl, hS₅⟩ := h₄
      have k1 := hS₅.has (p := (I, _)) (List.mem_append_right _ (List.mem_append_left _ (List.mem_singleton_self _)))
      have k2 := hS₅.has (p := (D, _)) (List.mem_append_right _ (List.mem_append_right _ (List.mem_append_left _ (List.mem_singleton_self _))))
      have k3 := hS₅.has (p := (C, _)) (List.mem_append_right _ (List.mem_append_right _ (List.mem_append_right _ (List.mem_singleton_self _))))
      refine wpAny_list_append_plain (hsz := by rw [hsz, sizeLine_eq]; omega) ⟨ln, k2⟩ fun h₅ hl₅ hs₅ => ?_
      have hN5 := hn₃.at' (h' := h₅) fun o e => by
        have e' : h₃.get? C = some o := e
        have hoC' : h₃.get? C = some oC := hoC
        obtain rfl := Option.some.inj (hoC'.symm.trans e')
        exact hs₅.extBut C _ hCD k3
      refine ⟨n + 1 - (i + 1), by omega, h₅, tk₄, _, ys.push y, i + 1, rfl, ?_, hl₅, hN5, by simp [hsz], ?_, hlt, rfl, hS₅.drop.but (X := D) hL hc hl (by first | assumption | omega) fun b o hb e => hs₅.extBut b o hb e⟩
      · exact hs₅.extBut I _ (by first | assumption | omega) k1
      · intro u hu
        simp only [Array.toList_push, List.mem_append, List.mem_singleton] at hu
        rcases hu with hu | rfl
        · exact hF u hu
        · exact hFy
    · have hin : i = n := by omega
      subst hin
      refine W.done _ _ _ hst' fun h₂ tk₂ hk₂ => ?_
      have hk₂' : ∀ b o, b ≠ I → H.get? b = some o → h₂.get? b = some o := fun b o hb e => hk₂ b o (by simpa using hb) e
      obtain ⟨ln, hacc₂⟩ := hacc'
      have hS₂ : SrcAt h₀ L m c rest h₂ := hS'.but (X := I) hL hc hl (Nat.le_refl _) hk₂'
      refine hRR D C ys.toList h₂ tk₂ m' hID hDC (hn'.at' fun o e => hk₂' _ o (by first | assumption | omega) e) hF (by simpa using hsz) ⟨ln, ?_⟩
      have := hS₂.more (z := I) (q := D) hL (by first | assumption | omega) (hk₂' D _ (by first | assumption | omega) hacc₂)
      obtain ⟨x, y, t, u, hx, hy, F', N'⟩ := this
      exact ⟨x, y, t, u, hx, hy, F', fun p hp => N' p (by
        rcases List.mem_cons.mp hp with rfl | hp
        · exact .head _
        · refine .tail _ (List.mem_append.mpr ?_)
          rcases List.mem_cons.mp hp with rfl | hp
          · exact .inr (List.mem_singleton.mpr (by simp))
          · exact .inl hp)⟩
  exact codeAny_compStart_list (loop _ rfl) (W.self 0 _ _ _ hst₁ (loop _ rfl))
theorem comp_draw {n : Nat} {t₀ u₀ v₀ : Tok} {b₀ : Int} (F : Value → Prop) (hh : A.handled = none) (hr : IsRange s.heap r 0 b₀ 1 t₀ u₀ v₀) (hb : b₀ = n) (hn : n < 1000)
    (hcell : ∀ y ∈ scope.names, y.2 ≠ .cell) (hkind : scope.kind = .function) (hx : scope.names.lookup x = some .local)
    (hS : SrcAt h₀ L m c rest s.heap) (hne : ∀ p ∈ rest, p.1 ≠ c)
    (helt : ∀ C own h tk E', (∀ p ∈ own, p.1 ≠ c) → SrcAt h₀ L m c (rest ++ own) h → wpAny (model prog w) A (eval elt (compEnv scope C (envOf name fscope L a cd))) (fun y s₃ => F y ∧ ∃ h' tk', s₃ = { s with heap := h', toks := tk' } ∧ SrcAt h₀ L m c (rest ++ own) h') E' { s with heap := h, toks := tk })
    (hQ : ∀ (D : Addr) (ys : List Value) (h' : Heap) (tk : Nat), (∀ y ∈ ys, F y) → ys.length = n → (∀ p ∈ (c, srcObj 0 0 0 0) :: rest, p.1 < D) → (∃ k, SrcAt h₀ L m c ((D, listOf ys.toArray k) :: rest) h') → Q (.ref D) { s with heap := h', toks := tk }) :
    wpAny (model prog w) A (pyIter (.ref r)) (fun it s₂ => wpAny (model prog w) A (newList []) (fun acc s₃ =>
      wpAny (model prog w) A (newFunctionEnv scope (envOf name fscope L a cd).globals [] [] (envOf name fscope L a cd).qual none .none (some (envOf name fscope L a cd))) (fun cenv s₄ =>
        codeAny (model prog w) A (.compStart (.ListComp elt [⟨.Name x px, iter, [], 0⟩] scope pos) 0 it acc { cenv with scope := scope })
          (fun r s' => ∃ m, s'.heap.Ns cenv.locals m ∧ ∀ h', Heap.SameBut cenv.locals s'.heap h' →
            match r with | .ok _ => Q acc { s' with heap := h' } | .error x => wpAny (model prog w) A (passOn "comprehension.variables-let-go" x { cenv with scope := scope }) Q E { s' with heap := h' }) s₄) E s₃) E s₂) E s := by
  subst hb
  refine wpAny_pyIter_range hr (small_one (by omega) (by omega) (by omega) (by omega)) ?_
  have hrs : Builtin.Range.rangeSize 0 (n : Int) 1 = (n : Int) := by rw [rangeSize_nat]; omega
  obtain ⟨x₀, y₀, t', u', hx0, hy0, F', N'⟩ := id hS
  have hLz := F'.ns.lt
  have hcz := Heap.lt_size (N' _ (.head _)).1
  have hlz : ∀ p ∈ rest, p.1 < s.heap.objs.size := fun p hp => Heap.lt_size (N' p (.tail _ hp)).1
  simp only [hrs]
  refine' draw_block (n := n) (I := s.heap.objs.size) (RR := fun acc cenv r s' => ∃ m, s'.heap.Ns cenv.locals m ∧ ∀ h', Heap.SameBut cenv.locals s'.heap h' → match r with | .ok _ => Q acc { s' with heap := h' } | .error x => wpAny (model prog w) A (PySem.passOn "comprehension.variables-let-go" x cenv) Q E { s' with heap := h' }) F hh ?z1 hn hcell hkind hx ?z2 hLz hcz hlz helt ?z3
  (case z1 => (show IsRangeIter _ _ _ _ _; exact Heap.get?_push_size _ rfl))
  (case z2 => exact hS.but (X := s.heap.objs.size) hLz hcz hlz (Nat.le_refl _) fun b o _ e => Heap.get?_push_of_some _ e)
  intro D C ys h' tk m' hD hC hns hF hlen hk
  refine ⟨m', hns, fun h'' hs'' => hQ D ys h'' tk hF hlen ?_ ?_⟩
  · intro p hp
    rcases List.mem_cons.mp hp with rfl | hp
    · exact Nat.lt_trans hcz hD
    · exact Nat.lt_trans (hlz p hp) hD
  · obtain ⟨kk, hk⟩ := hk
    refine ⟨kk, hk.but (z := C) (X := C) (Nat.lt_trans (Nat.lt_trans hLz hD) hC) (Nat.lt_trans (Nat.lt_trans hcz hD) hC) (fun p hp => ?_) (Nat.le_refl _) fun b o hb e => hs''.extBut b o hb e⟩
    rcases List.mem_cons.mp hp with rfl | hp
    · exact hC
    · exact Nat.lt_trans (Nat.lt_trans (hlz p hp) hD) hC
end
end Mine
end
theorem Mine.resetYOne : True := by w_top off; k_with_none; exact trivial
section
open PySem PySem.Spec PySem.Calls PyProof.Rows PySem.W
namespace Mine
set_option maxRecDepth 100000
set_option maxHeartbeats 8000000
section
variable (w : World) (mean : ExcName → Option Value) (mg mb : Str → Option Value) (rest : Led)
theorem take_ne {c q : Addr} {o : Obj} {rest : Led} (h : ∀ p ∈ (q, o) :: rest, p.1 ≠ c) : ∀ p ∈ (q, o) :: rest, p.1 ≠ c := h
theorem item_in {prog : Program} {w : World} {A : Around} {E : Value → Shared → Prop} {s : Shared} {value slice : PySem.Expr} {q : Addr} {vs : List Value} {n : Nat} {k : Int} {u : Tok} {Q : Value → Shared → Prop} {h₀ : Heap} {L : Addr} {news : Led} (N : News h₀ L s.heap news) (hm : (q, listOf vs.toArray n) ∈ news) (h0 : 0 ≤ k) (h1 : k < (vs.length : Int)) (hz : vs.length < 1000) (h : ∀ v, v ∈ vs → Q v s)
    (hs : subscripted slice false (.ref q) (.int k u) = operate [.ref q, .int k u] (getItem (.ref q) (.int k u)) := by with_unfolding_all rfl) (hg : ∀ r, letTemporaryGo value (.ref q) r = pure () := by intro _; with_unfolding_all rfl) :
    wpAny (model prog w) A (subscriptTail value slice (.ref q) (.int k u)) Q E s :=
  item_listL ⟨_, (N _ hm).1, rfl, _, rfl⟩ h0 (by omega) (x := vs[k.toNat]'(by omega)) (by rw [List.getElem?_eq_getElem]) (h _ (List.getElem_mem _)) hs hg
theorem len_in {prog : Program} {w : World} {A : Around} {E : Value → Shared → Prop} {s : Shared} {q : Addr} {vs : List Value} {n : Nat} {Q : Value → Shared → Prop} {h₀ : Heap} {L : Addr} {news : Led} (N : News h₀ L s.heap news) (hm : (q, listOf vs.toArray n) ∈ news) (hz : vs.length < 1000)
    (h : Q (.int (vs.length : Nat) (s.toks + 1)) { s with toks := s.toks + 1 + 1 }) : wpAny (model prog w) A (call (.builtin "len") [.ref q]) Q E s :=
  PyProof.Rows.len_list (items := vs.toArray) ⟨_, (N _ hm).1, rfl, _, rfl⟩ (by rw [List.size_toArray]; omega) (by rw [List.size_toArray]; exact h)
theorem s_one (c q : Addr) (x y : Int) (t u : Tok) (vs : List Value) (n : Nat) (hne : ∀ p ∈ (q, listOf vs.toArray n) :: rest, p.1 ≠ c) (hx : 0 ≤ x) (hy : 0 ≤ y) (hl : 0 < vs.length) (hl2 : vs.length < 1000) : Spec w mean mg mb 7 300 [.ref c, .ref q] ((c, srcObj x y t u) :: (q, listOf vs.toArray n) :: rest) rest
   (fun v l => v ∈ vs ∧ ∃ x' y' t' u', (0 ≤ x' ∧ 0 ≤ y') ∧ l = (c, srcObj x' y' t' u') :: (q, listOf vs.toArray n) :: rest) (fun _ => False) := by
  k_with_none
  (k_with "ktr_room" => (simp only [depth_under_make, depth_under_kw, depth_in1, depth_deeper, depth_caller, units_in1, units_deeper, Around.mark_units, units_caller] at *; dsimp only [around, aroundE] at *; (try simp only [recursionLimit, cLine] at *); omega))
  (k_with "exec Raise some none" => (k_here; k_dflt (refine' raise_made ?zqX ?zqq ?zqhh ?_; (case zqX => k_asm); (case zqq => kts_isx); (case zqhh => exact rfl); k_whole)))
  (k_with "call ref" => (k_here; (with_reducible show wpAny _ _ (call (Value.ref 122) _) _ _ _); k_dflt (refine' fault_in ?zqB ?zqF ?zqX ?zqN ?zqT ?zqf ?zqk ?zqd ?zqu ?_; (case zqf => first | exact rfl | assumption); (case zqB => k_asm); (case zqF => k_asm); (case zqX => k_asm); (case zqN => k_asm); (case zqT => k_asm); (case zqk => first | exact rfl | assumption); (case zqd => ktr_room); (case zqu => ktr_room); k_whole); intro e'Z dx'Z tu'Z h'Z tk'Z h1'Z h2'Z t1'Z t2'Z n'Z F'Z N'Z ne'Z; (try k_sweep)))
  (k_with "Thrown" => (k_here; k_dflt (refine' thrown_ ?zqF ?zqX ?zqN ?zqm ?_; (case zqF => k_asm); (case zqX => k_asm); (case zqN => k_asm); (case zqm => k_mem); k_whole)))
  (k_with "leaving ref" => (k_here; k_dflt (refine' raise_leaves ?zqK ?zqF ?zqN ?zqne ?zqc ?zqx ?zqd ?zqo ?_ ?zqk; (case zqF => assumption); (case zqN => assumption); (case zqK => assumption); (case zqne => assumption); (case zqc => exact rfl); (case zqx => exact rfl); (case zqd => exact rfl); (case zqo => exact rfl); (case zqk => exact rfl); k_whole); intro h'Z R'Z U'Z; (try dsimp only at R'Z U'Z ⊢)))
  (k_with "cell_enter" => (refine' code_def ?zqk1 ?zqk2 ?zqk3 ?zqk4 ?zqk5 ?zqkA ?zqkF ?zqkK ?zqk6 ?zqk7 ?zqk8 ?zqk9 ?zqkB ?_ ?zqc2 ?zqc3 ?zqc4 ?zqc5; (case zqkA => exact rfl); (case zqkF => first | exact rfl | assumption); (case zqkK => assumption); (case zqk1 => k_asm); (case zqk2 => k_asm); (case zqk3 => k_asm); (case zqk4 => k_asm); (case zqk5 => k_asm); (case zqk6 => k_is); (case zqk7 => k_is); (case zqk8 => ktr_room); (case zqk9 => first | exact BindsTo.of_eq rfl | exact binds_K (by k_in) rfl (by k_is) rfl rfl rfl); (case zqc5 => decide); (case zqkB => exact locs rfl); (case zqc2 => exact rfl); (case zqc3 => exact rfl); (case zqc4 => exact rfl); k_whole; intro g'Z L'Z h'Z FG'Z F'Z N'Z B'Z X'Z T'Z; (try dsimp only); (try k_lift B'Z); (try k_fold)))
  (k_with "leaving ref" => (k_here; k_dflt (refine' pass_leaves ?zqK ?zqF ?zqR ?zqU ?_; (case zqR => assumption); (case zqF => assumption); (case zqK => assumption); (case zqU => assumption); k_whole); intro h'Z R'Z U'Z; (try dsimp only at R'Z U'Z ⊢)))
  (k_with "tb_rel" => first | exact subSelf | exact subNil | (refine subCons ?zqa ?zqb; (case zqa => k_mem); (case zqb => tb_rel)) | (refine subInto ?_; tb_rel))
  (k_with "kts_go" => (refine' code_defS ?zqk1 ?zqk2 ?zqk3 ?zqk4 ?zqk5 ?zqXB ?zqTB ?zqD ?zqT0 ?zqkA ?zqk6 ?zqk7 ?zqk8 ?zqk9 ?zqkB ?_ ?zqcK ?zqc2 ?zqc3 ?zqc4 ?zqc5; (case zqkA => exact rfl); (case zqk2 => k_asm); (case zqk1 => k_asm); (case zqXB => assumption); (case zqTB => assumption); (case zqD => assumption); (case zqT0 => first | assumption | exact KtsTurn.refl); (case zqk3 => k_asm); (case zqk4 => k_asm); (case zqk5 => k_asm); (case zqk6 => k_is); (case zqk7 => k_is); (case zqk8 => ktr_room); (case zqk9 => first | exact BindsTo.of_eq rfl | exact binds_K (by k_in) rfl (by k_is) rfl rfl rfl | fail "kts_go: no rule for these arguments"); (case zqkB => exact locs rfl); (case zqcK => assumption); (case zqc2 => exact rfl); (case zqc3 => exact rfl); (case zqc4 => exact rfl); (case zqc5 => decide); k_whole; intro g'Z L'Z h'Z FG'Z F'Z N'Z B'Z X'Z T'Z D'Z; (try dsimp only); (try k_lift B'Z); (try k_fold)))
  (k_with "noteFrame ref" => (k_here; k_dflt (refine' caught_as ?zqR ?zqF ?zqK ?zqU ?zqXB ?zqTB ?zqD ?zqT0 ?zqex ?zqq ?_; (case zqR => assumption); (case zqF => assumption); (case zqK => assumption); (case zqU => assumption); (case zqXB => assumption); (case zqTB => assumption); (case zqD => assumption); (case zqT0 => first | assumption | exact KtsTurn.refl); (case zqq => kts_isx); (case zqex => k_is); k_whole); intro h'Z g'Z oeZ vsZ tk'Z T'Z F'Z hcZ hxZ hdZ N'Z K'Z X'Z P'Z D'Z; (try k_lift K'Z); (try k_sweep)))
  (k_with "call builtin:len" => (k_here; (with_reducible show wpAny _ _ (call (Value.builtin _) [Value.ref _]) _ _ _); (refine len_in (by k_asm) (.tail _ (.head _)) (by assumption) ?_)))
  (k_with "subscriptTail" => (k_here; (with_reducible show wpAny _ _ (subscriptTail _ _ (Value.ref _) (Value.int _ _)) _ _ _); (refine item_in (by k_asm) (.tail _ (.head _)) (by assumption) (by assumption) (by assumption) ?_); intro v'Z hv'Z))
  (k_with "call ref" => (k_here; (with_reducible show wpAny _ _ (call (Value.ref 293) _) _ _ _); k_dflt (refine' Spec.use (s_take _ _ _ _ _ _ _ _ _ _ _ _ ?zqp1 ?zqp2 ?zqp3 ?zqp4 ?zqp5) ?zqB ?zqF ?zqX ?zqN ?zqT ?zqf ?zqk ?zqd ?zqu ?_ ?zqexc; (case zqf => first | exact rfl | assumption); (case zqB => k_asm); (case zqF => k_asm); (case zqX => k_asm); (case zqN => first | assumption | exact front1 (by assumption) | exact front2 (by assumption) | exact front3 (by assumption)); (case zqT => k_asm); (case zqk => first | exact rfl | assumption); (case zqd => ktr_room); (case zqu => ktr_room); (case zqp1 => assumption); (case zqp2 => assumption); (case zqp3 => assumption); (case zqp4 => omega); (case zqp5 => omega); (case zqexc => (intro kZ eZ dxZ gZ h'Z tk'Z h1Z h2Z t1Z t2Z nZ v1Z uZ hEZ; exact hEZ.elim)); (intro vZ lZ h'Z tk'Z hRZ F'Z N'Z; (try dsimp only at hRZ); obtain ⟨_, _, _, _, _, _, e1Z, ⟨hr0Z, hr1Z⟩, ⟨ha0Z, hb0Z⟩, e2Z⟩ := hRZ; subst e1Z; subst e2Z; (try k_sweep); (try dsimp only)))))
  unfold Spec
  k_fill
  intro dp un gd env outer A₀ base h₀ L m s Q E B F X N TP hf hk hdp hun hret hexc
  refine wpAny_call ?_
  k_dflt cell_enter
  k_steps
  refine' hret _ _ _ _ ⟨?v, _, _, _, _, ⟨?a, ?b⟩, rfl⟩ ?F ?N
  (case F => assumption)
  (case N => assumption)
  (case v => assumption)
  (case a => assumption)
  (case b => assumption)
end
end Mine
end
section
open PySem PySem.Spec PySem.Calls PyProof.Rows PySem.W
namespace Mine
section
variable {prog : Program} {w : World} {A : Around} {E : Value → Shared → Prop} {s : Shared} {L a c r : Addr} {elt iter : PySem.Expr} {x : Str} {px pos : Pos} {scope : Scope} {h₀ : Heap} {m : Str → Option Value} {rest : Led}
theorem draw_blockC {env : Env} {cl : List (Str × Addr)} {n : Nat} {I : Addr} {s₂ : Shared} (F : Value → Prop) (hh : A.handled = none) (hst : IsRangeIter s₂.heap I 0 n 1) (hn : n < 1000) {RR : Value → Addr → Result → Shared → Prop}
    (hcell : ∀ y ∈ scope.names, y.2 ≠ .cell) (hkind : scope.kind = .function) (hx : scope.names.lookup x = some .local)
    (hS : SrcAt h₀ L m c rest s₂.heap) (hL : L < I) (hc : c < I) (hl : ∀ p ∈ rest, p.1 < I)
    (helt : ∀ (C : Addr) (own : Led) (h : Heap) (tk : Nat) (E' : Value → Shared → Prop), (∀ p ∈ own, p.1 ≠ c) → SrcAt h₀ L m c (rest ++ own) h → wpAny (model prog w) A (eval elt (compEnvC scope cl C env)) (fun y s₃ => F y ∧ ∃ h' tk', s₃ = { s₂ with heap := h', toks := tk' } ∧ SrcAt h₀ L m c (rest ++ own) h') E' { s₂ with heap := h, toks := tk })
    (hRR : ∀ (D C : Addr) (ys : List Value) (h' : Heap) (tk : Nat) (m' : Str → Option Value), I < D → D < C → h'.Ns C m' → (∀ y ∈ ys, F y) → ys.length = n → (∃ k, SrcAt h₀ L m c ((D, listOf ys.toArray k) :: rest) h') → RR (.ref D) C (.ok .next) { s₂ with heap := h', toks := tk }) :
    wpAny (model prog w) A (newList []) (fun acc s₃ => wpAny (model prog w) A (newFunctionEnv scope env.globals cl [] env.qual none .none (some env)) (fun cenv s₄ =>
      codeAny (model prog w) A (.compStart (.ListComp elt [⟨.Name x px, iter, [], 0⟩] scope pos) 0 (.ref I) acc { cenv with scope := relabel scope env }) (RR acc cenv.locals) s₄) E s₃) E s₂ := by
  have W : Walks prog w A I [I] [I] n (fun i v => ∃ t, v = .int (0 + i * 1) t)
      (fun i h => IsRangeIter h I (0 + (i : Nat) * 1) ((n : Int) - (i : Nat)) 1) := Walks.range hh _ 0 1 n
  have hst0 : IsRangeIter s₂.heap I (0 + ((0 : Nat) : Int) * 1) ((n : Int) - ((0 : Nat) : Int)) 1 := by simpa using hst
  refine wpAny_newObj_type (wpAny_newFunctionEnv hcell (by intro y hy; simp at hy) (fun h₁ hns₁ hsb₁ => ?_) hkind)
  dsimp only at hns₁ hsb₁ ⊢
  generalize hH2 : s₂.heap.push { cls := .type "list", dict := none, data := .seq ([] : List Value).toArray } = H2 at hns₁ hsb₁ ⊢
  have hC : H2.objs.size = s₂.heap.objs.size + 1 := by rw [← hH2, Heap.size_push]
  generalize hCC : H2.objs.size = C at *
  generalize hDD : s₂.heap.objs.size = D at *
  have hID : I < D := by rw [← hDD]; exact Heap.lt_size hst
  have hDC : D < C := by omega
  have hICl : I < C := Nat.lt_trans hID hDC
  have hDI : D ≠ I := Nat.ne_of_gt hID
  have hCI : C ≠ I := Nat.ne_of_gt hICl
  have hDCn : D ≠ C := Nat.ne_of_lt hDC
  have hCD : C ≠ D := Nat.ne_of_gt hDC
  have hIDn : I ≠ D := Nat.ne_of_lt hID
  have hIC : I ≠ C := Nat.ne_of_lt hICl
  have leD : I ≤ D := Nat.le_of_lt hID
  have leC : I ≤ C := Nat.le_of_lt hICl
  have old : ∀ b o, s₂.heap.get? b = some o → h₁.get? b = some o := fun b o e => hsb₁.extBut b o (Nat.ne_of_lt (Nat.lt_trans (hDD ▸ Heap.lt_size e) hDC)) (Heap.get?_push_of_some _ (hH2 ▸ Heap.get?_push_of_some _ e))
  have hacc : h₁.PlainList D #[] := ⟨_, hsb₁.extBut _ _ (Nat.ne_of_lt hDC) (Heap.get?_push_of_some _ (hH2 ▸ hDD ▸ Heap.get?_push_size _ rfl))⟩
  have hst₁ : IsRangeIter h₁ I (0 + ((0 : Nat) : Int) * 1) ((n : Int) - ((0 : Nat) : Int)) 1 := W.frame 0 _ _ hst0 fun b _ o e => old b o e
  have hS₁ : SrcAt h₀ L m c rest h₁ := hS.but (X := C) hL hc hl (by first | assumption | omega) fun b o _ e => old b o e
  have loop : ∀ s₃ : Shared, s₃ = { s₂ with heap := h₁, toks := s₂.toks + ([] : List (Str × Value)).length } →
      codeAny (model prog w) A (.compLoop (.ListComp elt [⟨.Name x px, iter, [], 0⟩] scope pos) 0 (.ref I) (.ref D) (compEnvC scope cl C env))
        (RR (.ref D) C) s₃ := by
    rintro s₃ rfl
    refine codeAny_compLoop_tests
      (fun k s' => ∃ h' tk m' ys i, s' = { s₂ with heap := h', toks := tk } ∧ IsRangeIter h' I (0 + ((i : Nat) : Int) * 1) ((n : Int) - (i : Nat)) 1 ∧ h'.PlainList D ys ∧ h'.Ns C m' ∧ ys.size = i ∧ (∀ y ∈ ys.toList, F y) ∧ i ≤ n ∧ k = n + 1 - i ∧ SrcAt h₀ L m c rest h') ?_ (n + 1)
      ⟨h₁, _, _, #[], 0, rfl, hst₁, hacc, hns₁, rfl, by simp, Nat.zero_le _, rfl, hS₁⟩
    rintro k s' ⟨H, tk, m', ys, i, rfl, hst', hacc', hn', hsz, hF, hi, rfl, hS'⟩
    by_cases hlt : i < n
    · refine W.item i _ _ _ hlt hst' fun v h₂ tk₂ hPv hst₂ hk₂ => ?_
      have hk₂' : ∀ b o, b ≠ I → H.get? b = some o → h₂.get? b = some o := fun b o hb e => hk₂ b o (by simpa using hb) e
      refine wpAny_assign_Name (wpAny_storeName_local (lookup_relabel_local hx) (hn'.at' fun o e => hk₂' _ o hCI e) (fun h₃ hn₃ hs₃ => ?_) (by simp [compEnvC, relabel, hkind]))
      have hst₃ : IsRangeIter h₃ I (0 + ((i + 1 : Nat) : Int) * 1) ((n : Int) - (i + 1 : Nat)) 1 := W.frame _ _ _ hst₂ fun b hb o e => hs₃.extBut b o (by rw [show b = I by simpa using hb]; exact hIC) e
      obtain ⟨ln, hacc₃⟩ := hacc'
      have hacc₃ := hs₃.extBut D _ hDCn (hk₂' D _ (by first | assumption | omega) hacc₃)
      have hS₃ : SrcAt h₀ L m c rest h₃ := (hS'.but (X := I) hL hc hl (Nat.le_refl _) hk₂').but (X := C) hL hc hl (by first | assumption | omega) fun b o hb e => hs₃.extBut b o hb e
      refine wpAny_pure ?_
      rw [if_pos rfl]
      obtain ⟨oC, es, ep, hoC, hdC, hkC, hfC⟩ := id hn₃
      have hS₄ := ((hS₃.more (z := I) hL (Nat.le_refl _) hst₃).more (z := I) hL (by first | assumption | omega) hacc₃).more (z := I) (q := C) hL (by first | assumption | omega) hoC
      rw [List.append_assoc, List.append_assoc] at hS₄
      refine wpAny_mono (helt C _ h₃ _ _ ?_ hS₄) (fun y s₄ h₄ => ?_) fun _ _ e => e
      · intro p hp
        simp only [List.mem_append, List.mem_singleton] at hp
        rcases hp with rfl | rfl | rfl
        · exact Nat.ne_of_gt hc
        · exact Nat.ne_of_gt (Nat.lt_trans hc hID)
        · exact Nat.ne_of_gt (Nat.lt_trans hc hICl)
      obtain ⟨hFy, h₄, tk₄, rfl, hS₅⟩ := h₄
      have k1 := hS₅.has (p := (I, _)) (List.mem_append_right _ (List.mem_append_left _ (List.mem_singleton_self _)))
      have k2 := hS₅.has (p := (D, _)) (List.mem_append_right _ (List.mem_append_right _ (List.mem_append_left _ (List.mem_singleton_self _))))
      have k3 := hS₅.has (p := (C, _)) (List.mem_append_right _ (List.mem_append_right _ (List.mem_append_right _ (List.mem_singleton_self _))))
      refine wpAny_list_append_plain (hsz := by rw [hsz, sizeLine_eq]; omega) ⟨ln, k2⟩ fun h₅ hl₅ hs₅ => ?_
      have hN5 := hn₃.at' (h' := h₅) fun o e => by
        have e' : h₃.get? C = some o := e
        have hoC' : h₃.get? C = some oC := hoC
        obtain rfl := Option.some.inj (hoC'.symm.trans e')
        exact hs₅.extBut C _ hCD k3
      refine ⟨n + 1 - (i + 1), by omega, h₅, tk₄, _, ys.push y, i + 1, rfl, ?_, hl₅, hN5, by simp [hsz], ?_, hlt, rfl, hS₅.drop.but (X := D) hL hc hl (by first | assumption | omega) fun b o hb e => hs₅.extBut b o hb e⟩
      · exact hs₅.extBut I _ (by first | assumption | omega) k1
      · intro u hu
        simp only [Array.toList_push, List.mem_append, List.mem_singleton] at hu
        rcases hu with hu | rfl
        · exact hF u hu
        · exact hFy
    · have hin : i = n := by omega
      subst hin
      refine W.done _ _ _ hst' fun h₂ tk₂ hk₂ => ?_
      have hk₂' : ∀ b o, b ≠ I → H.get? b = some o → h₂.get? b = some o := fun b o hb e => hk₂ b o (by simpa using hb) e
      obtain ⟨ln, hacc₂⟩ := hacc'
      have hS₂ : SrcAt h₀ L m c rest h₂ := hS'.but (X := I) hL hc hl (Nat.le_refl _) hk₂'
      refine hRR D C ys.toList h₂ tk₂ m' hID hDC (hn'.at' fun o e => hk₂' _ o (by first | assumption | omega) e) hF (by simpa using hsz) ⟨ln, ?_⟩
      have := hS₂.more (z := I) (q := D) hL (by first | assumption | omega) (hk₂' D _ (by first | assumption | omega) hacc₂)
      obtain ⟨x, y, t, u, hx, hy, F', N'⟩ := this
      exact ⟨x, y, t, u, hx, hy, F', fun p hp => N' p (by
        rcases List.mem_cons.mp hp with rfl | hp
        · exact .head _
        · refine .tail _ (List.mem_append.mpr ?_)
          rcases List.mem_cons.mp hp with rfl | hp
          · exact .inr (List.mem_singleton.mpr (by simp))
          · exact .inl hp)⟩
  exact codeAny_compStart_list (loop _ rfl) (W.self 0 _ _ _ hst₁ (loop _ rfl))
theorem drawR {env : Env} {cl : List (Str × Addr)} {n : Nat} {t₀ u₀ v₀ : Tok} {b₀ : Int} {RR : Value → Addr → Result → Shared → Prop} (F : Value → Prop) (hh : A.handled = none) (hr : IsRange s.heap r 0 b₀ 1 t₀ u₀ v₀) (hb : b₀ = n) (hn : n < 1000)
    (hcell : ∀ y ∈ scope.names, y.2 ≠ .cell) (hkind : scope.kind = .function) (hx : scope.names.lookup x = some .local)
    (hS : SrcAt h₀ L m c rest s.heap)
    (helt : ∀ (C : Addr) (own : Led) (h : Heap) (tk : Nat) (E' : Value → Shared → Prop), (∀ p ∈ own, p.1 ≠ c) → SrcAt h₀ L m c (rest ++ own) h → wpAny (model prog w) A (eval elt (compEnvC scope cl C env)) (fun y s₃ => F y ∧ ∃ h' tk', s₃ = { s with heap := h', toks := tk' } ∧ SrcAt h₀ L m c (rest ++ own) h') E' { s with heap := h, toks := tk })
    (hRR : ∀ (D C : Addr) (ys : List Value) (h' : Heap) (tk : Nat) (m' : Str → Option Value), L < D → (∀ p ∈ (c, srcObj 0 0 0 0) :: rest, p.1 < D) → D < C → h'.Ns C m' → (∀ y ∈ ys, F y) → ys.length = n → (∃ k, SrcAt h₀ L m c ((D, listOf ys.toArray k) :: rest) h') → RR (.ref D) C (.ok .next) { s with heap := h', toks := tk }) :
    wpAny (model prog w) A (pyIter (.ref r)) (fun it s₂ => wpAny (model prog w) A (newList []) (fun acc s₃ => wpAny (model prog w) A (newFunctionEnv scope env.globals cl [] env.qual none .none (some env)) (fun cenv s₄ =>
      codeAny (model prog w) A (.compStart (.ListComp elt [⟨.Name x px, iter, [], 0⟩] scope pos) 0 it acc { cenv with scope := relabel scope env }) (RR acc cenv.locals) s₄) E s₃) E s₂) E s := by
  subst hb
  refine wpAny_pyIter_range hr (small_one (by omega) (by omega) (by omega) (by omega)) ?_
  have hrs : Builtin.Range.rangeSize 0 (n : Int) 1 = (n : Int) := by rw [rangeSize_nat]; omega
  obtain ⟨x₀, y₀, t', u', hx0, hy0, F', N'⟩ := id hS
  have hLz := F'.ns.lt
  have hcz := Heap.lt_size (N' _ (.head _)).1
  have hlz : ∀ p ∈ rest, p.1 < s.heap.objs.size := fun p hp => Heap.lt_size (N' p (.tail _ hp)).1
  simp only [hrs]
  refine' draw_blockC (n := n) (I := s.heap.objs.size) (RR := RR) F hh ?z1 hn hcell hkind hx ?z2 hLz hcz hlz helt ?z3
  (case z1 => (show IsRangeIter _ _ _ _ _; exact Heap.get?_push_size _ rfl))
  (case z2 => exact hS.but (X := s.heap.objs.size) hLz hcz hlz (Nat.le_refl _) fun b o _ e => Heap.get?_push_of_some _ e)
  intro D C ys h' tk m' hD hC hns hF hlen hk
  refine hRR D C ys h' tk m' (Nat.lt_trans hLz hD) ?_ hC hns hF hlen hk
  intro p hp
  rcases List.mem_cons.mp hp with rfl | hp
  · exact Nat.lt_trans hcz hD
  · exact Nat.lt_trans (hlz p hp) hD
theorem list_open {env : Env} {cl : List (Str × Addr)} {Q : Value → Shared → Prop} (hclos : closureFor scope env = pure cl) (hkind : scope.kind = .function) (hnames : ∀ y ∈ scope.names, y.2 = .local → scope.names.lookup y.1 = some .local)
    (h : wpAny (model prog w) A (eval iter env) (fun xv s₁ => wpAny (model prog w) A (pyIter xv) (fun it s₂ => wpAny (model prog w) A (newList []) (fun acc s₃ => wpAny (model prog w) A (newFunctionEnv scope env.globals cl [] env.qual none .none (some env)) (fun cenv s₄ =>
      codeAny (model prog w) A (.compStart (.ListComp elt [⟨.Name x px, iter, [], 0⟩] scope pos) 0 it acc { cenv with scope := relabel scope env }) (compPost (model prog w) A E none Q acc cenv.locals) s₄) E s₃) E s₂) E s₁) E s)
    (hs : ∀ x, foldedSetIterable iter env x = pure x := by intro _; rfl) :
    wpAny (model prog w) A (eval (.ListComp elt [⟨.Name x px, iter, [], 0⟩] scope pos) env) Q E s := by
  rw [eval_ListComp]
  exact wpAny_comprehension_free (use := none) rfl hs hclos hkind hnames h
theorem assign_open {env : Env} {cl : List (Str × Addr)} {y : Str} {py spos : Pos} {Q : Flow → Shared → Prop}
    (hsw : swapsWith (.ListComp elt [⟨.Name x px, iter, [], 0⟩] scope pos) (some (.Name y py)) spos.line env = pure true)
    (hclos : closureFor scope env = pure cl) (hkind : scope.kind = .function) (hnames : ∀ y ∈ scope.names, y.2 = .local → scope.names.lookup y.1 = some .local)
    (h : wpAny (model prog w) A (eval iter env) (fun xv s₁ => wpAny (model prog w) A (pyIter xv) (fun it s₂ => wpAny (model prog w) A (newList []) (fun acc s₃ => wpAny (model prog w) A (newFunctionEnv scope env.globals cl [] env.qual none .none (some env)) (fun cenv s₄ =>
      codeAny (model prog w) A (.compStart (.ListComp elt [⟨.Name x px, iter, [], 0⟩] scope pos) 0 it acc { cenv with scope := relabel scope env }) (compPost (model prog w) A E (some (assign (.Name y py) env)) (fun _ s' => Q .next s') acc cenv.locals) s₄) E s₃) E s₂) E s₁) E s)
    (hs : ∀ x, foldedSetIterable iter env x = pure x := by intro _; rfl) :
    wpAny (model prog w) A (exec (.Assign [.Name y py] (.ListComp elt [⟨.Name x px, iter, [], 0⟩] scope pos) spos) env) Q E s := by
  rw [exec_Assign_Name_used _ _ _ _ hsw]
  refine wpAny_bind (wpAny_standAt (wpAny_bind ?_))
  show wpAny _ A (do let _ ← comprehension (.ListComp elt [⟨.Name x px, iter, [], 0⟩] scope pos) scope env _ (newList []) false (eval iter env) (some (assign (.Name y py) env))) _ _ s
  exact wpAny_bind (wpAny_mono (wpAny_comprehension_free (use := some (assign (.Name y py) env)) (Q := fun _ s' => Q .next s') rfl hs hclos hkind hnames h) (fun _ s' hq => wpAny_pure (wpAny_pure hq)) fun _ _ e => e)
/-- the list is the comprehension's value -/
theorem post_list {env : Env} {D C : Addr} {ys : List Value} {h' : Heap} {tk : Nat} {m' : Str → Option Value} {Q : Value → Shared → Prop} (hLD : L < D) (hlt : ∀ p ∈ (c, srcObj 0 0 0 0) :: rest, p.1 < D) (hC : D < C) (hns : h'.Ns C m') (hk : ∃ k, SrcAt h₀ L m c ((D, listOf ys.toArray k) :: rest) h')
    (hQ : ∀ h'', (∃ k, SrcAt h₀ L m c ((D, listOf ys.toArray k) :: rest) h'') → Q (.ref D) { s with heap := h'', toks := tk }) : compPost (model prog w) A E none Q (.ref D) C (.ok .next) { s with heap := h', toks := tk } := by
  refine ⟨m', hns, fun h'' hs => hQ h'' ?_⟩
  obtain ⟨k, hk⟩ := hk
  refine ⟨k, hk.but (z := C) (X := C) (Nat.lt_trans hLD hC) (Nat.lt_trans (hlt _ (.head _)) hC) (fun p hp => ?_) (Nat.le_refl _) fun b o hb e => hs.extBut b o hb e⟩
  rcases List.mem_cons.mp hp with rfl | hp
  · exact hC
  · exact Nat.lt_trans (hlt p (.tail _ hp)) hC
/-- the list is stored under a name -/
theorem post_assign {env : Env} {D C : Addr} {ys : List Value} {h' : Heap} {tk : Nat} {m' : Str → Option Value} {y : Str} {py : Pos} {Q : Shared → Prop} (hloc : env.locals = L) (hy : env.kindOf y = some .local) (hp : (env.scope.kind == .class || (env.scope.kind == .module && env.locals != env.globals)) = false)
    (hLD : L < D) (hlt : ∀ p ∈ (c, srcObj 0 0 0 0) :: rest, p.1 < D) (hC : D < C) (hns : h'.Ns C m') (hk : ∃ k, SrcAt h₀ L m c ((D, listOf ys.toArray k) :: rest) h')
    (hQ : ∀ h'' tk', (∃ k, SrcAt h₀ L (fun z => if z = y then some (.ref D) else m z) c ((D, listOf ys.toArray k) :: rest) h'') → Q { s with heap := h'', toks := tk' }) :
    compPost (model prog w) A E (some (assign (.Name y py) env)) (fun _ s' => Q s') (.ref D) C (.ok .next) { s with heap := h', toks := tk } := by
  obtain ⟨k, x, y', t, u, hx, hy', F, N⟩ := hk
  have hLC : L ≠ C := Nat.ne_of_lt (Nat.lt_trans hLD hC)
  show wpAny _ A (assign (.Name y py) env (.ref D)) _ _ _
  refine wpAny_assign_Name (wpAny_storeName_local hy (by rw [hloc]; exact F.ns) (fun h₂ hn₂ hs₂ => ?_) hp)
  rw [hloc] at hn₂ hs₂
  refine ⟨m', hns.sameBut hs₂ (Ne.symm hLC), fun h₃ hs₃ => hQ h₃ _ ⟨k, SrcAt.but (h := h₂) (z := C) (X := C) ⟨x, y', t, u, hx, hy', ⟨hn₂, fun b o e => hs₂.extBut b o (fun e2 => ?_) (F.keep b o e), F.above⟩, fun p hp => ⟨hs₂.extBut _ _ (N p hp).2.1 (N p hp).1, (N p hp).2⟩⟩ (Nat.lt_trans hLD hC) (Nat.lt_trans (hlt _ (.head _)) hC) (fun p hp => ?_) (Nat.le_refl _) fun b o hb e => hs₃.extBut b o hb e⟩⟩
  · rw [e2, kts_self F] at e; cases e
  · rcases List.mem_cons.mp hp with rfl | hp
    · exact hC
    · exact Nat.lt_trans (hlt p (.tail _ hp)) hC
end
theorem Spec.useT {w : World} {mean : ExcName → Option Value} {mg mb : Str → Option Value} {lv : Nat} {f : Addr} {vs : List Value} {news keep : Led} {Ret : Value → Led → Prop} {Exc : Int → Prop} (S : Spec w mean mg mb lv f vs news keep Ret Exc)
    {dp un : Nat} {gd : Option (List Code)} {env : Env} {outer : List Env} {A₀ : Around} {base h₀ : Heap} {L : Addr} {m : Str → Option Value} {s : Shared} {Q E : Value → Shared → Prop}
    (B : Below A₀ base outer h₀) (F : Fr h₀ L s.heap m) (X : (hd.heap_1 w.params).In h₀) (N : News h₀ L s.heap news) (T : Top viewQ (looseW viewQ [Str.ofString "SyntaxFault"]) mean mg mb h₀) (hf : env.frame = some L) (hk : env.scope.kind = .function) (hdp : dp ≤ 310 + 10 * lv) (hun : un ≤ 40 + 30 * lv)
    (ret : ∀ v news' h' tk', s.toks ≤ tk' → Ret v news' → Fr h₀ L h' m → News h₀ L h' news' → Q v { s with heap := h', toks := tk' })
    (exc : ∀ k, Exc k → False) :
    wpAny (model PySem.Challenge.rw_xw0204_01.row.prog w) (aroundE dp un gd env outer) (call (.ref f) vs) Q E s := by
  have h := S.use (gd := gd) (Q := fun v s' => s.toks ≤ s'.toks → Q v s') (E := E) B F X N T hf hk hdp hun (fun v l h' tk' hR F' N' hle => ret v l h' tk' hle hR F' N') (fun k e dx g h' tk' h1 h2 t1 t2 n v1 u hE => (exc k hE).elim)
  exact wpAny_mono (wpAny_toks_of (n := s.toks) (Nat.le_refl _) h) (fun v s' x => x.2 x.1) fun _ _ x => x.2
end Mine
end
theorem Mine.resetYLpub : True := by w_top off; k_with_none; exact trivial
section
open PySem PySem.Spec PySem.Calls PyProof.Rows PySem.W
namespace Mine
section
variable {h₀ h : Heap} {L : Addr} {q p1 p2 p3 p4 p5 p6 p7 p8 p9 : Addr × Obj} {r : Led}
theorem sf1 (N : News h₀ L h (p1 :: q :: r)) : News h₀ L h (q :: p1 :: r) := cb_drop N (by intro p hp; simp only [List.mem_cons] at hp ⊢; grind)
theorem sf2 (N : News h₀ L h (p1 :: p2 :: q :: r)) : News h₀ L h (q :: p1 :: p2 :: r) := cb_drop N (by intro p hp; simp only [List.mem_cons] at hp ⊢; grind)
theorem sf3 (N : News h₀ L h (p1 :: p2 :: p3 :: q :: r)) : News h₀ L h (q :: p1 :: p2 :: p3 :: r) := cb_drop N (by intro p hp; simp only [List.mem_cons] at hp ⊢; grind)
theorem sf4 (N : News h₀ L h (p1 :: p2 :: p3 :: p4 :: q :: r)) : News h₀ L h (q :: p1 :: p2 :: p3 :: p4 :: r) := cb_drop N (by intro p hp; simp only [List.mem_cons] at hp ⊢; grind)
theorem sf5 (N : News h₀ L h (p1 :: p2 :: p3 :: p4 :: p5 :: q :: r)) : News h₀ L h (q :: p1 :: p2 :: p3 :: p4 :: p5 :: r) := cb_drop N (by intro p hp; simp only [List.mem_cons] at hp ⊢; grind)
theorem sf6 (N : News h₀ L h (p1 :: p2 :: p3 :: p4 :: p5 :: p6 :: q :: r)) : News h₀ L h (q :: p1 :: p2 :: p3 :: p4 :: p5 :: p6 :: r) := cb_drop N (by intro p hp; simp only [List.mem_cons] at hp ⊢; grind)
theorem sf7 (N : News h₀ L h (p1 :: p2 :: p3 :: p4 :: p5 :: p6 :: p7 :: q :: r)) : News h₀ L h (q :: p1 :: p2 :: p3 :: p4 :: p5 :: p6 :: p7 :: r) := cb_drop N (by intro p hp; simp only [List.mem_cons] at hp ⊢; grind)
theorem one_led {c b : Addr × Obj} (N : News h₀ L h (c :: r)) (hb : b ∈ r) : News h₀ L h (c :: b :: r) := fun p hp => by
  rcases List.mem_cons.mp hp with rfl | hp
  · exact N _ (.head _)
  · rcases List.mem_cons.mp hp with rfl | hp
    · exact N _ (.tail _ hb)
    · exact N _ (.tail _ hp)
end
theorem allNe_cons {q : Addr} {p : Addr × Obj} {r : Led} (a : p.1 ≠ q) (b : ∀ p ∈ r, p.1 ≠ q) : ∀ p' ∈ p :: r, p'.1 ≠ q := fun p' hp => (List.mem_cons.mp hp).elim (fun e => e ▸ a) (b p')
theorem allLt_mem {d : Addr} : ∀ {r : Led}, AllLt d r → ∀ p ∈ r, p.1 < d
  | [], _ => fun _ h => nomatch h
  | a :: r, h => fun p hp => (List.mem_cons.mp hp).elim (fun e => e ▸ h.1) (allLt_mem h.2 p)
theorem allNe_app {q : Addr} {r1 r2 : Led} (a : ∀ p ∈ r1, p.1 ≠ q) (b : ∀ p ∈ r2, p.1 ≠ q) : ∀ p ∈ r1 ++ r2, p.1 ≠ q := fun p hp => (List.mem_append.mp hp).elim (a p) (b p)
theorem allNe_below {d q : Addr} {r : Led} (h : AllLt d r) (hq : d ≤ q) : ∀ p ∈ r, p.1 ≠ q := fun p hp => Nat.ne_of_lt (Nat.lt_of_lt_of_le (allLt_mem h p hp) hq)
set_option maxRecDepth 100000
local macro_rules | `(tactic| k_all) => `(tactic| first | assumption | exact allNe_app (by assumption) (by assumption) | (refine allNe_cons ?ka ?kb; (case ka => k_ne); (case kb => k_all)) | exact allNe_below (And.right (by assumption)) (by show @LE.le Nat _ _ _; omega))
set_option maxHeartbeats 8000000
theorem srcAt_of {h₀ h : Heap} {L c : Addr} {m : Str → Option Value} {x y : Int} {t u : Tok} {rest : Led} (F : Fr h₀ L h m) (N : News h₀ L h ((c, srcObj x y t u) :: rest)) (hx : 0 ≤ x) (hy : 0 ≤ y) : SrcAt h₀ L m c rest h := ⟨x, y, t, u, hx, hy, F, N⟩
def GoodP (qc : Nat) (x : Str) : Prop := (∀ ch ∈ x.cps.toList, publicC ch = true ∧ ch ≠ qc) ∧ x.length ≤ 5
def GoodV (qc : Nat) (v : Value) : Prop := ∃ x t, v = .str x t ∧ GoodP qc x
theorem gen_toks {α : Type} {M : Model} {A : Around} {t : Sem α} {Q : α → Shared → Prop} {E : Value → Shared → Prop} {h : Heap} {g : Array GenState} {d : Drawn} {X : Nat} {o : OsState} (h1 : 1 ≤ X) (H : ∀ tk, 1 ≤ tk → wpAny M A t Q E ⟨h, g, d, tk, o⟩) : wpAny M A t Q E ⟨h, g, d, X, o⟩ := H X h1
theorem tok_ne {u : Tok} (h : 1 ≤ u) : u ≠ 0 := Nat.ne_of_gt h
theorem mem_small {x : Str} {l : List Str} {n : Nat} (h : (l.all fun x => decide (x.length ≤ n)) = true) (hx : x ∈ l) : x.length ≤ n := by
  have := List.all_eq_true.mp h x hx; simpa using this
theorem add_small {prog : Program} {w : World} {A : Around} {E : Value → Shared → Prop} {s : Shared} {x y : Str} {t u : Tok} {Q : Value → Shared → Prop} (hx : x.length ≤ 10000) (hy : y.length ≤ 10000) (h : ∀ t' k', Q (.str (x ++ y) t') { s with toks := k' }) : wpAny (model prog w) A (binaryOp .Add (.str x t) (.str y u)) Q E s :=
  PyProof.Rows.add_str (fun t' k' => h t' k') (by rw [sizeLine_eq]; omega)
theorem app_small {x y : Str} {n : Nat} (h : x.length + y.length ≤ n) : (x ++ y).length ≤ n := by rw [Str.length_append]; exact h
theorem app_slice {x y : Str} {a b : Option Int} (h : x.length + y.length ≤ 10000) : (Txt.slice x a b ++ y).length ≤ 10000 := by rw [Str.length_append]; have := Txt.slice_le x a b; omega
theorem strs_mem {v : Value} : ∀ {vs : List Value} {xs : List Str}, StrsAre vs xs → v ∈ vs → ∃ x t, v = .str x t ∧ x ∈ xs
  | _, _, .nil, h => nomatch h
  | _, _, .cons x t h, hv => (List.mem_cons.mp hv).elim (fun e => ⟨x, t, e, .head _⟩) fun hv => let ⟨x, t, e, hx⟩ := strs_mem h hv; ⟨x, t, e, .tail _ hx⟩
theorem ints_mem {v : Value} : ∀ {vs : List Value} {xs : List Int}, IntsAre vs xs → v ∈ vs → ∃ x t, v = .int x t ∧ x ∈ xs
  | _, _, .nil, h => nomatch h
  | _, _, .cons x t h, hv => (List.mem_cons.mp hv).elim (fun e => ⟨x, t, e, .head _⟩) fun hv => let ⟨x, t, e, hx⟩ := ints_mem h hv; ⟨x, t, e, .tail _ hx⟩
def goodB (qc : Nat) (x : Str) : Bool := x.cps.toList.all (fun ch => publicC ch && ch != qc) && decide (x.length ≤ 5)
theorem good_of {qc : Nat} {x : Str} {l : List Str} (h : (l.all fun x => goodB qc x) = true) (hx : x ∈ l) : GoodP qc x := by
  have := List.all_eq_true.mp h x hx
  unfold goodB at this
  simp only [Bool.and_eq_true, decide_eq_true_eq] at this
  refine ⟨fun ch hc => ?_, this.2⟩
  have h2 := List.all_eq_true.mp this.1 ch hc
  simpa using h2
theorem good_getD {qc : Nat} {l : List Str} (h : ∀ x ∈ l, GoodP qc x) (i : Nat) : GoodP qc (l.getD i Str.empty) := by
  rw [List.getD_eq_getElem?_getD]
  cases e : l[i]? with
  | none => exact ⟨fun ch hc => by simp [Str.empty] at hc, by simp [Str.empty, Str.length]⟩
  | some x => exact h x (List.mem_of_getElem? e)
theorem good_strs {qc : Nat} : ∀ {ys : List Value}, (∀ y ∈ ys, GoodV qc y) → ∃ xs, StrsAre ys xs ∧ (∀ x ∈ xs, GoodP qc x) ∧ xs.length = ys.length
  | [], _ => ⟨[], .nil, (fun _ h => nomatch h), rfl⟩
  | y :: ys, h => by
    obtain ⟨x, t, rfl, hx⟩ := h y (.head _)
    obtain ⟨xs, a, b, c⟩ := good_strs (qc := qc) (ys := ys) (fun z hz => h z (.tail _ hz))
    exact ⟨x :: xs, .cons x t a, fun z hz => (List.mem_cons.mp hz).elim (fun e => e ▸ hx) (b z), by simp [c]⟩
def GoodR (qc : Nat) (x : Str) : Prop := (∀ ch ∈ x.cps.toList, publicC ch = true ∧ ch ≠ qc) ∧ x.length ≤ 100
theorem good_sum {qc : Nat} : ∀ {xs : List Str}, (∀ x ∈ xs, GoodP qc x) → (xs.map (·.length)).sum ≤ 5 * xs.length
  | [], _ => by simp
  | x :: xs, h => by
    have := good_sum (xs := xs) fun z hz => h z (.tail _ hz)
    have := (h x (.head _)).2
    simp only [List.map_cons, List.sum_cons, List.length_cons]; omega
theorem good_join {qc : Nat} {xs : List Str} (h : ∀ x ∈ xs, GoodP qc x) (hl : xs.length ≤ 7) : GoodR qc (Txt.join (Str.ofString "") xs) := by
  have e : Txt.join (Str.ofString "") xs = Str.join (Str.ofString "") xs := StrLaws.glued_eq_join _ _
  rw [e]
  refine ⟨fun ch hc => ?_, ?_⟩
  · rcases (mem_join _ _ _).mp hc with ⟨t, ht, hc⟩ | ⟨_, hc⟩
    · exact (h t ht).1 ch hc
    · exact absurd (show ch ∈ ([] : List Nat) from hc) List.not_mem_nil
  · have h1 := StrLaws.join_length_le (Str.ofString "") xs
    have h2 : (Str.ofString "").length = 0 := rfl
    rw [h2, Nat.mul_zero] at h1
    have := good_sum h
    omega
theorem join_good {prog : Program} {w : World} {A : Around} {E : Value → Shared → Prop} {s : Shared} {D : Addr} {ys : List Value} {k : Nat} {t : Tok} {Q : Value → Shared → Prop} {h₀ : Heap} {L : Addr} {news : Led} {qc : Nat} (N : News h₀ L s.heap news) (hm : (D, listOf ys.toArray k) ∈ news) (hF : ∀ y ∈ ys, GoodV qc y) (hl : ys.length ≤ 7)
    (h : ∀ X t' k', GoodR qc X → Q (.str X t') { s with toks := k' }) : wpAny (model prog w) A (call (.builtin "str.join") [.str (Str.ofString "") t, .ref D]) Q E s := by
  obtain ⟨xs, a, b, c⟩ := good_strs hF
  have h2 : (Str.ofString "").length = 0 := rfl
  refine join_list (items := ys.toArray) ⟨_, (N _ hm).1, rfl, _, rfl⟩ (by simpa using a) ?_ fun t' k' => h _ t' k' (good_join b (by omega))
  have := good_sum b
  rw [h2]; omega
abbrev tripObj (v1 v2 v3 : Value) : Obj := { cls := .type "tuple", data := .seq #[v1, v2, v3] }
def OddP (o : Str) : Prop := ∃ ch, o = ⟨#[ch]⟩ ∧ publicC ch = false ∧ ch ≠ 34 ∧ ch ≠ 39
def oddB (o : Str) : Bool := match o.cps.toList with | [ch] => !publicC ch && ch != 34 && ch != 39 | _ => false
theorem odd_of {x : Str} {l : List Str} (hx : x ∈ l) (h : (l.all oddB) = true) : OddP x := by
  have h2 := List.all_eq_true.mp h x hx
  unfold oddB at h2
  split at h2
  · rename_i ch e
    simp only [Bool.and_eq_true, Bool.not_eq_true', bne_iff_ne] at h2
    refine ⟨ch, ?_, h2.1.1, h2.1.2, h2.2⟩
    obtain ⟨⟨l⟩⟩ := x
    simp at e; rw [e]
  · cases h2
def PubObj (qc : Nat) (ob : Obj) : Prop := ∃ X, GoodR qc X ∧ ((∃ i o t1 t2, 0 ≤ i ∧ i ≤ (X.length : Int) ∧ OddP o ∧ ob = tripObj (.str (Txt.slice X none (some i) ++ o ++ Txt.slice X (some i) none) t1) .none (.int i t2)) ∨ (∃ t1 t2, ob = tripObj (.str X t1) (.str (normF X) t2) .none))
def DrawRet (P : Obj → Prop) (c : Addr) (rest : Led) (v : Value) (l : Led) : Prop := ∃ q ob x' y' t' u', P ob ∧ (0 ≤ x' ∧ 0 ≤ y') ∧ v = .ref q ∧ AllLt q ((c, srcObj 0 0 0 0) :: rest) ∧ l = (q, ob) :: (c, srcObj x' y' t' u') :: rest
theorem allLt_size {h₀ h : Heap} {L : Addr} {big : Led} (N : News h₀ L h big) : AllLt h.objs.size big := allLt_of fun p hp => Heap.lt_size (N p hp).1
theorem allLt_sub {q : Addr} {r big : Led} (a : AllLt q big) (h : ∀ p ∈ r, p ∈ big) : AllLt q r := allLt_of fun p hp => allLt_mem a p (h p hp)
theorem end_draw {P : Obj → Prop} {h₀ h : Heap} {L q c : Addr} {ob : Obj} {big rest : Led} {x y : Int} {t u : Tok} (hP : P ob) (N : News h₀ L h ((q, ob) :: big)) (a : AllLt q big) (hm : (c, srcObj x y t u) ∈ big) (hr : ∀ p ∈ rest, p ∈ big) (hx : 0 ≤ x) (hy : 0 ≤ y) :
    DrawRet P c rest (.ref q) ((q, ob) :: (c, srcObj x y t u) :: rest) ∧ News h₀ L h ((q, ob) :: (c, srcObj x y t u) :: rest) :=
  ⟨⟨_, _, _, _, _, _, hP, ⟨hx, hy⟩, rfl, ⟨show c < q from allLt_mem a (c, srcObj x y t u) hm, allLt_sub a hr⟩, rfl⟩, cb_drop N (subCons (.head _) (subCons (.tail _ hm) fun p hp => .tail _ (hr p hp)))⟩
section
variable (w : World) (mean : ExcName → Option Value) (mg mb : Str → Option Value) (rest : Led)
theorem s_lpub2 (c : Addr) (x y : Int) (t u tq : Tok) (hne : ∀ p ∈ rest, p.1 ≠ c) (hx : 0 ≤ x) (hy : 0 ≤ y) : Spec w mean mg mb 5 333 [.ref c, .str (Str.ofString "\"") tq] ((c, srcObj x y t u) :: rest) rest
   (DrawRet (PubObj 34) c rest) (fun _ => False) := by
  k_with_none
  (k_with "ktr_room" => (simp only [depth_under_make, depth_under_kw, depth_in1, depth_deeper, depth_caller, units_in1, units_deeper, Around.mark_units, units_caller] at *; dsimp only [around, aroundE] at *; (try simp only [recursionLimit, cLine] at *); omega))
  (k_with "exec Raise some none" => (k_here; k_dflt (refine' raise_made ?zqX ?zqq ?zqhh ?_; (case zqX => k_asm); (case zqq => kts_isx); (case zqhh => exact rfl); k_whole)))
  (k_with "call ref" => (k_here; (with_reducible show wpAny _ _ (call (Value.ref 122) _) _ _ _); k_dflt (refine' fault_in ?zqB ?zqF ?zqX ?zqN ?zqT ?zqf ?zqk ?zqd ?zqu ?_; (case zqf => first | exact rfl | assumption); (case zqB => k_asm); (case zqF => k_asm); (case zqX => k_asm); (case zqN => k_asm); (case zqT => k_asm); (case zqk => first | exact rfl | assumption); (case zqd => ktr_room); (case zqu => ktr_room); k_whole); intro e'Z dx'Z tu'Z h'Z tk'Z h1'Z h2'Z t1'Z t2'Z n'Z F'Z N'Z ne'Z; (try k_sweep)))
  (k_with "Thrown" => (k_here; k_dflt (refine' thrown_ ?zqF ?zqX ?zqN ?zqm ?_; (case zqF => k_asm); (case zqX => k_asm); (case zqN => k_asm); (case zqm => k_mem); k_whole)))
  (k_with "leaving ref" => (k_here; k_dflt (refine' raise_leaves ?zqK ?zqF ?zqN ?zqne ?zqc ?zqx ?zqd ?zqo ?_ ?zqk; (case zqF => assumption); (case zqN => assumption); (case zqK => assumption); (case zqne => assumption); (case zqc => exact rfl); (case zqx => exact rfl); (case zqd => exact rfl); (case zqo => exact rfl); (case zqk => exact rfl); k_whole); intro h'Z R'Z U'Z; (try dsimp only at R'Z U'Z ⊢)))
  (k_with "cell_enter" => (refine' code_def ?zqk1 ?zqk2 ?zqk3 ?zqk4 ?zqk5 ?zqkA ?zqkF ?zqkK ?zqk6 ?zqk7 ?zqk8 ?zqk9 ?zqkB ?_ ?zqc2 ?zqc3 ?zqc4 ?zqc5; (case zqkA => exact rfl); (case zqkF => first | exact rfl | assumption); (case zqkK => assumption); (case zqk1 => k_asm); (case zqk2 => k_asm); (case zqk3 => k_asm); (case zqk4 => k_asm); (case zqk5 => k_asm); (case zqk6 => k_is); (case zqk7 => k_is); (case zqk8 => ktr_room); (case zqk9 => first | exact BindsTo.of_eq rfl | exact binds_K (by k_in) rfl (by k_is) rfl rfl rfl); (case zqc5 => decide); (case zqkB => exact locs rfl); (case zqc2 => exact rfl); (case zqc3 => exact rfl); (case zqc4 => exact rfl); k_whole; intro g'Z L'Z h'Z FG'Z F'Z N'Z B'Z X'Z T'Z; (try dsimp only); (try k_lift B'Z); (try k_fold)))
  (k_with "leaving ref" => (k_here; k_dflt (refine' pass_leaves ?zqK ?zqF ?zqR ?zqU ?_; (case zqR => assumption); (case zqF => assumption); (case zqK => assumption); (case zqU => assumption); k_whole); intro h'Z R'Z U'Z; (try dsimp only at R'Z U'Z ⊢)))
  (k_with "tb_rel" => first | exact subSelf | exact subNil | (refine subCons ?zqa ?zqb; (case zqa => k_mem); (case zqb => tb_rel)) | (refine subInto ?_; tb_rel))
  (k_with "kts_go" => (refine' code_defS ?zqk1 ?zqk2 ?zqk3 ?zqk4 ?zqk5 ?zqXB ?zqTB ?zqD ?zqT0 ?zqkA ?zqk6 ?zqk7 ?zqk8 ?zqk9 ?zqkB ?_ ?zqcK ?zqc2 ?zqc3 ?zqc4 ?zqc5; (case zqkA => exact rfl); (case zqk2 => k_asm); (case zqk1 => k_asm); (case zqXB => assumption); (case zqTB => assumption); (case zqD => assumption); (case zqT0 => first | assumption | exact KtsTurn.refl); (case zqk3 => k_asm); (case zqk4 => k_asm); (case zqk5 => k_asm); (case zqk6 => k_is); (case zqk7 => k_is); (case zqk8 => ktr_room); (case zqk9 => first | exact BindsTo.of_eq rfl | exact binds_K (by k_in) rfl (by k_is) rfl rfl rfl | fail "kts_go: no rule for these arguments"); (case zqkB => exact locs rfl); (case zqcK => assumption); (case zqc2 => exact rfl); (case zqc3 => exact rfl); (case zqc4 => exact rfl); (case zqc5 => decide); k_whole; intro g'Z L'Z h'Z FG'Z F'Z N'Z B'Z X'Z T'Z D'Z; (try dsimp only); (try k_lift B'Z); (try k_fold)))
  (k_with "noteFrame ref" => (k_here; k_dflt (refine' caught_as ?zqR ?zqF ?zqK ?zqU ?zqXB ?zqTB ?zqD ?zqT0 ?zqex ?zqq ?_; (case zqR => assumption); (case zqF => assumption); (case zqK => assumption); (case zqU => assumption); (case zqXB => assumption); (case zqTB => assumption); (case zqD => assumption); (case zqT0 => first | assumption | exact KtsTurn.refl); (case zqq => kts_isx); (case zqex => k_is); k_whole); intro h'Z g'Z oeZ vsZ tk'Z T'Z F'Z hcZ hxZ hdZ N'Z K'Z X'Z P'Z D'Z; (try k_lift K'Z); (try k_sweep)))
  (k_with "cell_enter" => (refine' code_defC ?zqk1 ?zqk2 ?zqk3 ?zqk4 ?zqk5 ?zqkA ?zqkF ?zqkK ?zqk6 ?zqk7 ?zqk8 ?zqk9 ?zqkB ?zqkD ?_ ?zqc2 ?zqc3 ?zqc4; (case zqkA => exact rfl); (case zqkF => first | exact rfl | assumption); (case zqkK => first | exact rfl | assumption); (case zqk1 => k_asm); (case zqk2 => k_asm); (case zqk3 => k_asm); (case zqk4 => k_asm); (case zqk5 => k_asm); (case zqk6 => k_is); (case zqk7 => k_is); (case zqk8 => ktr_room); (case zqk9 => first | exact BindsTo.of_eq rfl | exact binds_K (by k_in) rfl (by k_is) rfl rfl rfl); (case zqkB => exact rfl); (case zqkD => decide +kernel); (case zqc2 => exact rfl); (case zqc3 => exact rfl); (case zqc4 => exact rfl); k_whole; intro g'Z L'Z h'Z tk'Z cells'Z FG'Z F'Z N'Z Y'Z B'Z X'Z T'Z l1Z; (try k_lt l1Z); k_cells Y'Z; (try simp only [List.cons_append, List.nil_append] at N'Z); (try dsimp only); (try k_lift B'Z); (try k_fold)))
  (k_with "execs cons" => (k_here; (with_reducible show wpAny _ _ _ _ _ (Shared.mk _ _ _ (_ + 1) _)); refine gen_toks (Nat.succ_le_succ (Nat.zero_le _)) ?_; intro tkZ htkZ))
  (k_with "execs nil" => (k_here; (with_reducible show wpAny _ _ _ _ _ (Shared.mk _ _ _ (_ + 1) _)); refine gen_toks (Nat.succ_le_succ (Nat.zero_le _)) ?_; intro tkZ htkZ))
  (k_with "call builtin:str.replace" => (k_here; (with_reducible show wpAny _ _ (call (Value.builtin _) [Value.str _ _, Value.str _ _, Value.str _ _]) _ _ _); (refine SC.replaceW (tok_ne (by assumption)) (Nat.succ_ne_zero _) (Nat.ne_of_lt (Nat.lt_succ_self _)) (by decide) (by omega) (by decide) ?_); intro t'Z k'Z))
  (k_with "binaryOp Add str str" => (k_here; (with_reducible show wpAny _ _ (binaryOp Operator.Add (Value.str _ _) (Value.str _ _)) _ _ _); (refine add_small (by first | omega | exact Nat.le_trans (Txt.slice_le _ _ _) (by omega) | exact app_slice (by omega)) (by first | omega | exact Nat.le_trans (Txt.slice_le _ _ _) (by omega)) ?_); intro t'Z k'Z))
  (k_with "call builtin:str.join" => (k_here; (with_reducible show wpAny _ _ (call (Value.builtin _) [Value.str _ _, Value.ref _]) _ _ _); (refine join_good (by k_asm) (by k_mem) (by assumption) (by omega) ?_); intro X'Z t'Z k'Z hX'Z; (have hXlZ := hX'Z.2); (have hXmZ : PySem.Str.length X'Z < 1000000 := by omega); (have hXzZ := replace_fits (y := Str.ofString "\n") (z := Str.ofString " ") hXmZ rfl)))
  (k_with "call builtin:str.join" => (k_here; (with_reducible show wpAny _ _ (call (Value.builtin _) [Value.str (Str.ofString " ") _, Value.ref _]) _ _ _); (rename CarriedAll _ _ => hCZ); (rename List.map _ _ = Txt.split _ _ => heZ); (rw [heZ] at hCZ); (refine join_list (by assumption) (plain_strs hCZ) (norm_fits (by assumption) _) ?_); intro t'Z k'Z))
  (k_with "call builtin:str.split" => (k_here; (with_reducible show wpAny _ _ (call (Value.builtin "str.split") [Value.str (Txt.replace _ _ _) _, _]) _ _ _); (refine KSpl.split1 (by k_asm) (by k_asm) (by decide) ?_ (replace_fits (by assumption) (by rfl))); (intro D'Z l'Z h'Z k'Z e'Z a'Z F'Z N'Z l1Z)))
  (k_with "exec Assign cons ListComp" => (k_here; k_dflt (refine' assign_open ?zqhsw ?zqhclos ?zqhkind ?zqhnames ?_; (case zqhsw => with_unfolding_all rfl); (case zqhclos => with_unfolding_all rfl); (case zqhkind => exact rfl); (case zqhnames => decide))))
  (k_with "pyIter ref" => ((with_reducible show wpAny _ _ (pyIter (Value.ref _)) (fun it s₂ => wpAny _ _ (newList _) _ _ _) _ _); refine halt ?_))
  (k_with "call ref" => (k_here; (with_reducible show wpAny _ _ (call (Value.ref 293) _) _ _ _); k_dflt (refine' Spec.useT (s_take _ _ _ _ _ _ _ _ _ _ _ _ ?zqp1 ?zqp2 ?zqp3 ?zqp4 ?zqp5) ?zqB ?zqF ?zqX ?zqN ?zqT ?zqf ?zqk ?zqd ?zqu ?_ ?zqexc; (case zqf => first | exact rfl | assumption); (case zqB => k_asm); (case zqF => k_asm); (case zqX => k_asm); (case zqN => first | assumption | exact front1 (by assumption) | exact front2 (by assumption) | exact front3 (by assumption) | exact sf1 (by assumption) | exact sf2 (by assumption) | exact sf3 (by assumption) | exact sf4 (by assumption) | exact sf5 (by assumption) | exact sf6 (by assumption) | exact sf7 (by assumption) | exact one_led (by assumption) (by k_mem)); (case zqT => k_asm); (case zqk => first | exact rfl | assumption); (case zqd => ktr_room); (case zqu => ktr_room); (case zqp1 => k_all); (case zqp2 => assumption); (case zqp3 => assumption); (case zqp4 => omega); (case zqp5 => omega); (case zqexc => (intro kZ hEZ; exact hEZ.elim)); (intro vZ lZ h'Z tk'Z hleZ hRZ F'Z N'Z; (try dsimp only at hleZ); (try dsimp only at hRZ); obtain ⟨_, _, _, _, _, _, e1Z, ⟨hr0Z, hr1Z⟩, ⟨ha0Z, hb0Z⟩, e2Z⟩ := hRZ; subst e1Z; subst e2Z; (try k_sweep); (try dsimp only)))))
  (k_with "call ref" => (k_here; (with_reducible show wpAny _ _ (call (Value.ref 300) _) _ _ _); k_dflt (refine' Spec.useT (s_one _ _ _ _ _ _ _ _ _ _ _ _ _ ?zqp1 ?zqp2 ?zqp3 ?zqp4 ?zqp5) ?zqB ?zqF ?zqX ?zqN ?zqT ?zqf ?zqk ?zqd ?zqu ?_ ?zqexc; (case zqf => first | exact rfl | assumption); (case zqB => k_asm); (case zqF => k_asm); (case zqX => k_asm); (case zqN => first | assumption | exact front1 (by assumption) | exact front2 (by assumption) | exact front3 (by assumption) | exact sf1 (by assumption) | exact sf2 (by assumption) | exact sf3 (by assumption) | exact sf4 (by assumption) | exact sf5 (by assumption) | exact sf6 (by assumption) | exact sf7 (by assumption) | exact one_led (by assumption) (by k_mem)); (case zqT => k_asm); (case zqk => first | exact rfl | assumption); (case zqd => ktr_room); (case zqu => ktr_room); (case zqp1 => k_all); (case zqp2 => assumption); (case zqp3 => assumption); (case zqp4 => exact Nat.le_of_ble_eq_true rfl); (case zqp5 => exact Nat.le_of_ble_eq_true rfl); (case zqexc => (intro kZ hEZ; exact hEZ.elim)); (intro vZ lZ h'Z tk'Z hleZ hRZ F'Z N'Z; (try dsimp only at hleZ); (try dsimp only at hRZ); obtain ⟨hvZ, _, _, _, _, ⟨ha0Z, hb0Z⟩, e2Z⟩ := hRZ; subst e2Z; (first | (obtain ⟨_, _, evZ, hvxZ⟩ := strs_mem (by repeat constructor) hvZ; subst evZ; (have hvlZ := mem_small (n := 5) (by decide +kernel) hvxZ)) | (obtain ⟨_, _, evZ, hvxZ⟩ := ints_mem (by repeat constructor) hvZ; subst evZ)); (try k_sweep); (try dsimp only)))))
  unfold Spec
  k_fill
  intro dp un gd env outer A₀ base h₀ L m s Q E B F X N TP hf hk hdp hun hret hexc
  refine wpAny_call ?_
  k_dflt cell_enter
  k_steps
  unfold Halt
  (rename IsRange _ _ _ _ _ _ _ _ => hr)
  refine' drawR (c := c) (RR := fun acc C => compPost _ _ _ _ _ acc C) (GoodV 34) ?hh hr (Int.toNat_of_nonneg ?nn).symm ?hn ?hcell ?hkind ?hx ?hS ?helt ?hRR
  (case hh => exact rfl)
  (case nn => assumption)
  (case hn => omega)
  (case hcell => decide)
  (case hkind => exact rfl)
  (case hx => exact rfl)
  (case hS => (refine' srcAt_of ?sf ?sn ?sa ?sb; (case sf => assumption); (case sn => first | assumption | exact sf1 (by assumption) | exact sf2 (by assumption)); (case sa => assumption); (case sb => assumption)))
  · intro C own h tk E' hown hS
    obtain ⟨x1, y1, t1, u1, hx1, hy1, F1, N1⟩ := hS
    simp only [List.cons_append] at N1
    k_steps
    · (rename (_ : PySem.Str) ∈ (_ : List PySem.Str) => hm)
      exact ⟨_, _, rfl, good_of (by decide +kernel) hm⟩
    · refine' srcAt_of ?sf2 ?sn2 ?sa2 ?sb2; (case sf2 => assumption); (case sn2 => exact cb_drop (by assumption) (by tb_rel)); (case sa2 => assumption); (case sb2 => assumption)
  · intro D C ys h' tk m' hLD hlt hC hns hF hlen hk
    refine' post_assign ?q1 ?q2 ?q3 hLD hlt hC hns hk ?q4
    (case q1 => exact rfl)
    (case q2 => exact rfl)
    (case q3 => exact rfl)
    intro h'' tk' ⟨kk, hS⟩
    obtain ⟨x1, y1, t1, u1, hx1, hy1, F1, N1⟩ := hS
    have hlen7 : ys.length ≤ 7 := by omega
    (try k_lt hlt)
    dsimp only
    k_steps
    · (rename GoodR _ _ => hG)
      (rename (_ : PySem.Str) ∈ (_ : List PySem.Str) => hm)
      have hP := odd_of hm (by decide +kernel)
      refine' hret _ _ _ _ (end_draw (P := PubObj 34) ?P1 ?N1 ?A1 ?M1 ?R1 ?x1 ?y1).1 ?F1 (end_draw (P := PubObj 34) ?P1 ?N1 ?A1 ?M1 ?R1 ?x1 ?y1).2
      (case F1 => assumption)
      (case N1 => assumption)
      (case A1 => first | assumption | exact allLt_size (by assumption) | exact allLt_of (by assumption))
      (case M1 => k_mem)
      (case R1 => tb_rel)
      (case x1 => assumption)
      (case y1 => assumption)
      (case P1 => exact ⟨_, hG, .inl ⟨_, _, _, _, by assumption, by omega, hP, rfl⟩⟩)
    · (rename GoodR _ _ => hG)
      refine' hret _ _ _ _ (end_draw (P := PubObj 34) ?P2 ?N2 ?A2 ?M2 ?R2 ?x2 ?y2).1 ?F2 (end_draw (P := PubObj 34) ?P2 ?N2 ?A2 ?M2 ?R2 ?x2 ?y2).2
      (case F2 => assumption)
      (case N2 => assumption)
      (case A2 => first | assumption | exact allLt_size (by assumption) | exact allLt_of (by assumption))
      (case M2 => k_mem)
      (case R2 => tb_rel)
      (case x2 => assumption)
      (case y2 => assumption)
      (case P2 => exact ⟨_, hG, .inr ⟨_, _, rfl⟩⟩)
theorem s_lpub1 (c : Addr) (x y : Int) (t u tq : Tok) (hne : ∀ p ∈ rest, p.1 ≠ c) (hx : 0 ≤ x) (hy : 0 ≤ y) : Spec w mean mg mb 5 333 [.ref c, .str (Str.ofString "'") tq] ((c, srcObj x y t u) :: rest) rest
   (DrawRet (PubObj 39) c rest) (fun _ => False) := by
  unfold Spec
  k_fill
  intro dp un gd env outer A₀ base h₀ L m s Q E B F X N TP hf hk hdp hun hret hexc
  refine wpAny_call ?_
  k_dflt cell_enter
  k_steps
  unfold Halt
  (rename IsRange _ _ _ _ _ _ _ _ => hr)
  refine' drawR (c := c) (RR := fun acc C => compPost _ _ _ _ _ acc C) (GoodV 39) ?hh hr (Int.toNat_of_nonneg ?nn).symm ?hn ?hcell ?hkind ?hx ?hS ?helt ?hRR
  (case hh => exact rfl)
  (case nn => assumption)
  (case hn => omega)
  (case hcell => decide)
  (case hkind => exact rfl)
  (case hx => exact rfl)
  (case hS => (refine' srcAt_of ?sf ?sn ?sa ?sb; (case sf => assumption); (case sn => first | assumption | exact sf1 (by assumption) | exact sf2 (by assumption)); (case sa => assumption); (case sb => assumption)))
  · intro C own h tk E' hown hS
    obtain ⟨x1, y1, t1, u1, hx1, hy1, F1, N1⟩ := hS
    simp only [List.cons_append] at N1
    k_steps
    · (rename (_ : PySem.Str) ∈ (_ : List PySem.Str) => hm)
      exact ⟨_, _, rfl, good_of (by decide +kernel) hm⟩
    · refine' srcAt_of ?sf2 ?sn2 ?sa2 ?sb2; (case sf2 => assumption); (case sn2 => exact cb_drop (by assumption) (by tb_rel)); (case sa2 => assumption); (case sb2 => assumption)
  · intro D C ys h' tk m' hLD hlt hC hns hF hlen hk
    refine' post_assign ?q1 ?q2 ?q3 hLD hlt hC hns hk ?q4
    (case q1 => exact rfl)
    (case q2 => exact rfl)
    (case q3 => exact rfl)
    intro h'' tk' ⟨kk, hS⟩
    obtain ⟨x1, y1, t1, u1, hx1, hy1, F1, N1⟩ := hS
    have hlen7 : ys.length ≤ 7 := by omega
    (try k_lt hlt)
    dsimp only
    k_steps
    · (rename GoodR _ _ => hG)
      (rename (_ : PySem.Str) ∈ (_ : List PySem.Str) => hm)
      have hP := odd_of hm (by decide +kernel)
      refine' hret _ _ _ _ (end_draw (P := PubObj 39) ?P1 ?N1 ?A1 ?M1 ?R1 ?x1 ?y1).1 ?F1 (end_draw (P := PubObj 39) ?P1 ?N1 ?A1 ?M1 ?R1 ?x1 ?y1).2
      (case F1 => assumption)
      (case N1 => assumption)
      (case A1 => first | assumption | exact allLt_size (by assumption) | exact allLt_of (by assumption))
      (case M1 => k_mem)
      (case R1 => tb_rel)
      (case x1 => assumption)
      (case y1 => assumption)
      (case P1 => exact ⟨_, hG, .inl ⟨_, _, _, _, by assumption, by omega, hP, rfl⟩⟩)
    · (rename GoodR _ _ => hG)
      refine' hret _ _ _ _ (end_draw (P := PubObj 39) ?P2 ?N2 ?A2 ?M2 ?R2 ?x2 ?y2).1 ?F2 (end_draw (P := PubObj 39) ?P2 ?N2 ?A2 ?M2 ?R2 ?x2 ?y2).2
      (case F2 => assumption)
      (case N2 => assumption)
      (case A2 => first | assumption | exact allLt_size (by assumption) | exact allLt_of (by assumption))
      (case M2 => k_mem)
      (case R2 => tb_rel)
      (case x2 => assumption)
      (case y2 => assumption)
      (case P2 => exact ⟨_, hG, .inr ⟨_, _, rfl⟩⟩)
end
end Mine
end
theorem Mine.resetYLsys : True := by w_top off; k_with_none; exact trivial
section
open PySem PySem.Spec PySem.Calls PyProof.Rows PySem.W
namespace Mine
theorem ints_small {x : Int} {l : List Int} (h : (l.all fun x => decide (0 ≤ x) && decide (x < 100000)) = true) (hx : x ∈ l) : 0 ≤ x ∧ x < 100000 := by
  have := List.all_eq_true.mp h x hx; simpa using this
def GoodSP (qc : Nat) (x : Str) : Prop := (∀ ch ∈ x.cps.toList, charB ch = true ∧ ch ≠ qc) ∧ x.length ≤ 5
def GoodSV (qc : Nat) (v : Value) : Prop := ∃ x t, v = .str x t ∧ GoodSP qc x
def goodSB (qc : Nat) (x : Str) : Bool := x.cps.toList.all (fun ch => charB ch && ch != qc) && decide (x.length ≤ 5)
theorem goodS_of {qc : Nat} {x : Str} {l : List Str} (h : (l.all fun x => goodSB qc x) = true) (hx : x ∈ l) : GoodSP qc x := by
  have := List.all_eq_true.mp h x hx
  unfold goodSB at this
  simp only [Bool.and_eq_true, decide_eq_true_eq] at this
  refine ⟨fun ch hc => ?_, this.2⟩
  have h2 := List.all_eq_true.mp this.1 ch hc
  simpa using h2
theorem goodS_getD {qc : Nat} {l : List Str} (h : ∀ x ∈ l, GoodSP qc x) (i : Nat) : GoodSP qc (l.getD i Str.empty) := by
  rw [List.getD_eq_getElem?_getD]
  cases e : l[i]? with
  | none => exact ⟨fun ch hc => by simp [Str.empty] at hc, by simp [Str.empty, Str.length]⟩
  | some x => exact h x (List.mem_of_getElem? e)
theorem goodS_strs {qc : Nat} : ∀ {ys : List Value}, (∀ y ∈ ys, GoodSV qc y) → ∃ xs, StrsAre ys xs ∧ (∀ x ∈ xs, GoodSP qc x) ∧ xs.length = ys.length
  | [], _ => ⟨[], .nil, (fun _ h => nomatch h), rfl⟩
  | y :: ys, h => by
    obtain ⟨x, t, rfl, hx⟩ := h y (.head _)
    obtain ⟨xs, a, b, c⟩ := goodS_strs (qc := qc) (ys := ys) (fun z hz => h z (.tail _ hz))
    exact ⟨x :: xs, .cons x t a, fun z hz => (List.mem_cons.mp hz).elim (fun e => e ▸ hx) (b z), by simp [c]⟩
def GoodSR (qc : Nat) (x : Str) : Prop := (∀ ch ∈ x.cps.toList, charB ch = true ∧ ch ≠ qc) ∧ x.length ≤ 100
theorem goodS_sum {qc : Nat} : ∀ {xs : List Str}, (∀ x ∈ xs, GoodSP qc x) → (xs.map (·.length)).sum ≤ 5 * xs.length
  | [], _ => by simp
  | x :: xs, h => by
    have := goodS_sum (xs := xs) fun z hz => h z (.tail _ hz)
    have := (h x (.head _)).2
    simp only [List.map_cons, List.sum_cons, List.length_cons]; omega
theorem goodS_join {qc : Nat} {xs : List Str} (h : ∀ x ∈ xs, GoodSP qc x) (hl : xs.length ≤ 7) : GoodSR qc (Txt.join (Str.ofString "") xs) := by
  have e : Txt.join (Str.ofString "") xs = Str.join (Str.ofString "") xs := StrLaws.glued_eq_join _ _
  rw [e]
  refine ⟨fun ch hc => ?_, ?_⟩
  · rcases (mem_join _ _ _).mp hc with ⟨t, ht, hc⟩ | ⟨_, hc⟩
    · exact (h t ht).1 ch hc
    · exact absurd (show ch ∈ ([] : List Nat) from hc) List.not_mem_nil
  · have h1 := StrLaws.join_length_le (Str.ofString "") xs
    have h2 : (Str.ofString "").length = 0 := rfl
    rw [h2, Nat.mul_zero] at h1
    have := goodS_sum h
    omega
theorem joinS_good {prog : Program} {w : World} {A : Around} {E : Value → Shared → Prop} {s : Shared} {D : Addr} {ys : List Value} {k : Nat} {t : Tok} {Q : Value → Shared → Prop} {h₀ : Heap} {L : Addr} {news : Led} {qc : Nat} (N : News h₀ L s.heap news) (hm : (D, listOf ys.toArray k) ∈ news) (hF : ∀ y ∈ ys, GoodSV qc y) (hl : ys.length ≤ 7)
    (h : ∀ X t' k', GoodSR qc X → Q (.str X t') { s with toks := k' }) : wpAny (model prog w) A (call (.builtin "str.join") [.str (Str.ofString "") t, .ref D]) Q E s := by
  obtain ⟨xs, a, b, c⟩ := goodS_strs hF
  have h2 : (Str.ofString "").length = 0 := rfl
  refine join_list (items := ys.toArray) ⟨_, (N _ hm).1, rfl, _, rfl⟩ (by simpa using a) ?_ fun t' k' => h _ t' k' (goodS_join b (by omega))
  have := goodS_sum b
  rw [h2]; omega
set_option maxRecDepth 100000
set_option maxHeartbeats 8000000
local macro_rules | `(tactic| k_all) => `(tactic| first | assumption | exact allNe_app (by assumption) (by assumption) | (refine allNe_cons ?ka ?kb; (case ka => k_ne); (case kb => k_all)) | exact allNe_below (And.right (by assumption)) (by show @LE.le Nat _ _ _; omega))
def SysObj (qc : Nat) (ob : Obj) : Prop := ∃ X, GoodSR qc X ∧ ((∃ i n t1 t2, 0 ≤ i ∧ i ≤ (X.length : Int) ∧ n ∈ [(1 : Int), 11, 65535] ∧ ob = pairObj (.str (Txt.slice X none (some i) ++ Str.mk #[n.toNat] ++ Txt.slice X (some i) none) t1) (.int i t2)) ∨ (∃ t1, ob = pairObj (.str X t1) .none))
section
variable (w : World) (mean : ExcName → Option Value) (mg mb : Str → Option Value) (rest : Led)
theorem s_lsys2 (c : Addr) (x y : Int) (t u tq : Tok) (hne : ∀ p ∈ rest, p.1 ≠ c) (hx : 0 ≤ x) (hy : 0 ≤ y) : Spec w mean mg mb 5 338 [.ref c, .str (Str.ofString "\"") tq] ((c, srcObj x y t u) :: rest) rest
   (DrawRet (SysObj 34) c rest) (fun _ => False) := by
  k_with_none
  (k_with "ktr_room" => (simp only [depth_under_make, depth_under_kw, depth_in1, depth_deeper, depth_caller, units_in1, units_deeper, Around.mark_units, units_caller] at *; dsimp only [around, aroundE] at *; (try simp only [recursionLimit, cLine] at *); omega))
  (k_with "exec Raise some none" => (k_here; k_dflt (refine' raise_made ?zqX ?zqq ?zqhh ?_; (case zqX => k_asm); (case zqq => kts_isx); (case zqhh => exact rfl); k_whole)))
  (k_with "call ref" => (k_here; (with_reducible show wpAny _ _ (call (Value.ref 122) _) _ _ _); k_dflt (refine' fault_in ?zqB ?zqF ?zqX ?zqN ?zqT ?zqf ?zqk ?zqd ?zqu ?_; (case zqf => first | exact rfl | assumption); (case zqB => k_asm); (case zqF => k_asm); (case zqX => k_asm); (case zqN => k_asm); (case zqT => k_asm); (case zqk => first | exact rfl | assumption); (case zqd => ktr_room); (case zqu => ktr_room); k_whole); intro e'Z dx'Z tu'Z h'Z tk'Z h1'Z h2'Z t1'Z t2'Z n'Z F'Z N'Z ne'Z; (try k_sweep)))
  (k_with "Thrown" => (k_here; k_dflt (refine' thrown_ ?zqF ?zqX ?zqN ?zqm ?_; (case zqF => k_asm); (case zqX => k_asm); (case zqN => k_asm); (case zqm => k_mem); k_whole)))
  (k_with "leaving ref" => (k_here; k_dflt (refine' raise_leaves ?zqK ?zqF ?zqN ?zqne ?zqc ?zqx ?zqd ?zqo ?_ ?zqk; (case zqF => assumption); (case zqN => assumption); (case zqK => assumption); (case zqne => assumption); (case zqc => exact rfl); (case zqx => exact rfl); (case zqd => exact rfl); (case zqo => exact rfl); (case zqk => exact rfl); k_whole); intro h'Z R'Z U'Z; (try dsimp only at R'Z U'Z ⊢)))
  (k_with "cell_enter" => (refine' code_def ?zqk1 ?zqk2 ?zqk3 ?zqk4 ?zqk5 ?zqkA ?zqkF ?zqkK ?zqk6 ?zqk7 ?zqk8 ?zqk9 ?zqkB ?_ ?zqc2 ?zqc3 ?zqc4 ?zqc5; (case zqkA => exact rfl); (case zqkF => first | exact rfl | assumption); (case zqkK => assumption); (case zqk1 => k_asm); (case zqk2 => k_asm); (case zqk3 => k_asm); (case zqk4 => k_asm); (case zqk5 => k_asm); (case zqk6 => k_is); (case zqk7 => k_is); (case zqk8 => ktr_room); (case zqk9 => first | exact BindsTo.of_eq rfl | exact binds_K (by k_in) rfl (by k_is) rfl rfl rfl); (case zqc5 => decide); (case zqkB => exact locs rfl); (case zqc2 => exact rfl); (case zqc3 => exact rfl); (case zqc4 => exact rfl); k_whole; intro g'Z L'Z h'Z FG'Z F'Z N'Z B'Z X'Z T'Z; (try dsimp only); (try k_lift B'Z); (try k_fold)))
  (k_with "leaving ref" => (k_here; k_dflt (refine' pass_leaves ?zqK ?zqF ?zqR ?zqU ?_; (case zqR => assumption); (case zqF => assumption); (case zqK => assumption); (case zqU => assumption); k_whole); intro h'Z R'Z U'Z; (try dsimp only at R'Z U'Z ⊢)))
  (k_with "tb_rel" => first | exact subSelf | exact subNil | (refine subCons ?zqa ?zqb; (case zqa => k_mem); (case zqb => tb_rel)) | (refine subInto ?_; tb_rel))
  (k_with "kts_go" => (refine' code_defS ?zqk1 ?zqk2 ?zqk3 ?zqk4 ?zqk5 ?zqXB ?zqTB ?zqD ?zqT0 ?zqkA ?zqk6 ?zqk7 ?zqk8 ?zqk9 ?zqkB ?_ ?zqcK ?zqc2 ?zqc3 ?zqc4 ?zqc5; (case zqkA => exact rfl); (case zqk2 => k_asm); (case zqk1 => k_asm); (case zqXB => assumption); (case zqTB => assumption); (case zqD => assumption); (case zqT0 => first | assumption | exact KtsTurn.refl); (case zqk3 => k_asm); (case zqk4 => k_asm); (case zqk5 => k_asm); (case zqk6 => k_is); (case zqk7 => k_is); (case zqk8 => ktr_room); (case zqk9 => first | exact BindsTo.of_eq rfl | exact binds_K (by k_in) rfl (by k_is) rfl rfl rfl | fail "kts_go: no rule for these arguments"); (case zqkB => exact locs rfl); (case zqcK => assumption); (case zqc2 => exact rfl); (case zqc3 => exact rfl); (case zqc4 => exact rfl); (case zqc5 => decide); k_whole; intro g'Z L'Z h'Z FG'Z F'Z N'Z B'Z X'Z T'Z D'Z; (try dsimp only); (try k_lift B'Z); (try k_fold)))
  (k_with "noteFrame ref" => (k_here; k_dflt (refine' caught_as ?zqR ?zqF ?zqK ?zqU ?zqXB ?zqTB ?zqD ?zqT0 ?zqex ?zqq ?_; (case zqR => assumption); (case zqF => assumption); (case zqK => assumption); (case zqU => assumption); (case zqXB => assumption); (case zqTB => assumption); (case zqD => assumption); (case zqT0 => first | assumption | exact KtsTurn.refl); (case zqq => kts_isx); (case zqex => k_is); k_whole); intro h'Z g'Z oeZ vsZ tk'Z T'Z F'Z hcZ hxZ hdZ N'Z K'Z X'Z P'Z D'Z; (try k_lift K'Z); (try k_sweep)))
  (k_with "cell_enter" => (refine' code_defC ?zqk1 ?zqk2 ?zqk3 ?zqk4 ?zqk5 ?zqkA ?zqkF ?zqkK ?zqk6 ?zqk7 ?zqk8 ?zqk9 ?zqkB ?zqkD ?_ ?zqc2 ?zqc3 ?zqc4; (case zqkA => exact rfl); (case zqkF => first | exact rfl | assumption); (case zqkK => first | exact rfl | assumption); (case zqk1 => k_asm); (case zqk2 => k_asm); (case zqk3 => k_asm); (case zqk4 => k_asm); (case zqk5 => k_asm); (case zqk6 => k_is); (case zqk7 => k_is); (case zqk8 => ktr_room); (case zqk9 => first | exact BindsTo.of_eq rfl | exact binds_K (by k_in) rfl (by k_is) rfl rfl rfl); (case zqkB => exact rfl); (case zqkD => decide +kernel); (case zqc2 => exact rfl); (case zqc3 => exact rfl); (case zqc4 => exact rfl); k_whole; intro g'Z L'Z h'Z tk'Z cells'Z FG'Z F'Z N'Z Y'Z B'Z X'Z T'Z l1Z; (try k_lt l1Z); k_cells Y'Z; (try simp only [List.cons_append, List.nil_append] at N'Z); (try dsimp only); (try k_lift B'Z); (try k_fold)))
  (k_with "execs cons" => (k_here; (with_reducible show wpAny _ _ _ _ _ (Shared.mk _ _ _ (_ + 1) _)); refine gen_toks (Nat.succ_le_succ (Nat.zero_le _)) ?_; intro tkZ htkZ))
  (k_with "execs nil" => (k_here; (with_reducible show wpAny _ _ _ _ _ (Shared.mk _ _ _ (_ + 1) _)); refine gen_toks (Nat.succ_le_succ (Nat.zero_le _)) ?_; intro tkZ htkZ))
  (k_with "call builtin:str.replace" => (k_here; (with_reducible show wpAny _ _ (call (Value.builtin _) [Value.str _ _, Value.str _ _, Value.str _ _]) _ _ _); (refine SC.replaceW (tok_ne (by assumption)) (Nat.succ_ne_zero _) (Nat.ne_of_lt (Nat.lt_succ_self _)) (by decide) (by omega) (by decide) ?_); intro t'Z k'Z))
  (k_with "binaryOp Add str str" => (k_here; (with_reducible show wpAny _ _ (binaryOp Operator.Add (Value.str _ _) (Value.str _ _)) _ _ _); (refine add_small (by first | omega | exact Nat.le_trans (Txt.slice_le _ _ _) (by omega) | exact app_slice (by omega)) (by first | omega | exact Nat.le_trans (Txt.slice_le _ _ _) (by omega)) ?_); intro t'Z k'Z))
  (k_with "call builtin:str.join" => (k_here; (with_reducible show wpAny _ _ (call (Value.builtin _) [Value.str _ _, Value.ref _]) _ _ _); (refine joinS_good (by k_asm) (by k_mem) (by assumption) (by omega) ?_); intro X'Z t'Z k'Z hX'Z; (have hXlZ := hX'Z.2); (have hXmZ : PySem.Str.length X'Z < 1000000 := by omega); (have hXzZ := replace_fits (y := Str.ofString "\n") (z := Str.ofString " ") hXmZ rfl)))
  (k_with "call builtin:str.join" => (k_here; (with_reducible show wpAny _ _ (call (Value.builtin _) [Value.str (Str.ofString " ") _, Value.ref _]) _ _ _); (rename CarriedAll _ _ => hCZ); (rename List.map _ _ = Txt.split _ _ => heZ); (rw [heZ] at hCZ); (refine join_list (by assumption) (plain_strs hCZ) (norm_fits (by assumption) _) ?_); intro t'Z k'Z))
  (k_with "call builtin:str.split" => (k_here; (with_reducible show wpAny _ _ (call (Value.builtin "str.split") [Value.str (Txt.replace _ _ _) _, _]) _ _ _); (refine KSpl.split1 (by k_asm) (by k_asm) (by decide) ?_ (replace_fits (by assumption) (by rfl))); (intro D'Z l'Z h'Z k'Z e'Z a'Z F'Z N'Z l1Z)))
  (k_with "eval ListComp" => (k_here; k_dflt (refine' list_open ?zqhclos ?zqhkind ?zqhnames ?_; (case zqhclos => with_unfolding_all rfl); (case zqhkind => exact rfl); (case zqhnames => decide))))
  (k_with "pyIter ref" => ((with_reducible show wpAny _ _ (pyIter (Value.ref _)) (fun it s₂ => wpAny _ _ (newList _) _ _ _) _ _); refine halt ?_))
  (k_with "call ref" => (k_here; (with_reducible show wpAny _ _ (call (Value.ref 293) _) _ _ _); k_dflt (refine' Spec.useT (s_take _ _ _ _ _ _ _ _ _ _ _ _ ?zqp1 ?zqp2 ?zqp3 ?zqp4 ?zqp5) ?zqB ?zqF ?zqX ?zqN ?zqT ?zqf ?zqk ?zqd ?zqu ?_ ?zqexc; (case zqf => first | exact rfl | assumption); (case zqB => k_asm); (case zqF => k_asm); (case zqX => k_asm); (case zqN => first | assumption | exact front1 (by assumption) | exact front2 (by assumption) | exact front3 (by assumption) | exact sf1 (by assumption) | exact sf2 (by assumption) | exact sf3 (by assumption) | exact sf4 (by assumption) | exact sf5 (by assumption) | exact sf6 (by assumption) | exact sf7 (by assumption) | exact one_led (by assumption) (by k_mem)); (case zqT => k_asm); (case zqk => first | exact rfl | assumption); (case zqd => ktr_room); (case zqu => ktr_room); (case zqp1 => k_all); (case zqp2 => assumption); (case zqp3 => assumption); (case zqp4 => omega); (case zqp5 => omega); (case zqexc => (intro kZ hEZ; exact hEZ.elim)); (intro vZ lZ h'Z tk'Z hleZ hRZ F'Z N'Z; (try dsimp only at hleZ); (try dsimp only at hRZ); obtain ⟨_, _, _, _, _, _, e1Z, ⟨hr0Z, hr1Z⟩, ⟨ha0Z, hb0Z⟩, e2Z⟩ := hRZ; subst e1Z; subst e2Z; (try k_sweep); (try dsimp only)))))
  (k_with "call ref" => (k_here; (with_reducible show wpAny _ _ (call (Value.ref 300) _) _ _ _); k_dflt (refine' Spec.useT (s_one _ _ _ _ _ _ _ _ _ _ _ _ _ ?zqp1 ?zqp2 ?zqp3 ?zqp4 ?zqp5) ?zqB ?zqF ?zqX ?zqN ?zqT ?zqf ?zqk ?zqd ?zqu ?_ ?zqexc; (case zqf => first | exact rfl | assumption); (case zqB => k_asm); (case zqF => k_asm); (case zqX => k_asm); (case zqN => first | assumption | exact front1 (by assumption) | exact front2 (by assumption) | exact front3 (by assumption) | exact sf1 (by assumption) | exact sf2 (by assumption) | exact sf3 (by assumption) | exact sf4 (by assumption) | exact sf5 (by assumption) | exact sf6 (by assumption) | exact sf7 (by assumption) | exact one_led (by assumption) (by k_mem)); (case zqT => k_asm); (case zqk => first | exact rfl | assumption); (case zqd => ktr_room); (case zqu => ktr_room); (case zqp1 => k_all); (case zqp2 => assumption); (case zqp3 => assumption); (case zqp4 => exact Nat.le_of_ble_eq_true rfl); (case zqp5 => exact Nat.le_of_ble_eq_true rfl); (case zqexc => (intro kZ hEZ; exact hEZ.elim)); (intro vZ lZ h'Z tk'Z hleZ hRZ F'Z N'Z; (try dsimp only at hleZ); (try dsimp only at hRZ); obtain ⟨hvZ, _, _, _, _, ⟨ha0Z, hb0Z⟩, e2Z⟩ := hRZ; subst e2Z; (first | (obtain ⟨_, _, evZ, hvxZ⟩ := strs_mem (by repeat constructor) hvZ; subst evZ; (have hvlZ := mem_small (n := 5) (by decide +kernel) hvxZ)) | (obtain ⟨_, _, evZ, hvxZ⟩ := ints_mem (by repeat constructor) hvZ; subst evZ; (have hvbZ := ints_small (by decide) hvxZ); (obtain ⟨hvb0Z, hvb1Z⟩ := hvbZ))); (try k_sweep); (try dsimp only)))))
  unfold Spec
  k_fill
  intro dp un gd env outer A₀ base h₀ L m s Q E B F X N TP hf hk hdp hun hret hexc
  refine wpAny_call ?_
  k_dflt cell_enter
  k_steps
  unfold Halt
  (rename IsRange _ _ _ _ _ _ _ _ => hr)
  refine' drawR (c := c) (RR := fun acc C => compPost _ _ _ _ _ acc C) (GoodSV 34) ?hh hr (Int.toNat_of_nonneg ?nn).symm ?hn ?hcell ?hkind ?hx ?hS ?helt ?hRR
  (case hh => exact rfl)
  (case nn => assumption)
  (case hn => omega)
  (case hcell => decide)
  (case hkind => exact rfl)
  (case hx => exact rfl)
  (case hS => (refine' srcAt_of ?sf ?sn ?sa ?sb; (case sf => assumption); (case sn => first | assumption | exact sf1 (by assumption) | exact sf2 (by assumption)); (case sa => assumption); (case sb => assumption)))
  · intro C own h tk E' hown hS
    obtain ⟨x1, y1, t1, u1, hx1, hy1, F1, N1⟩ := hS
    simp only [List.cons_append] at N1
    k_steps
    · (rename (_ : PySem.Str) ∈ (_ : List PySem.Str) => hm)
      exact ⟨_, _, rfl, goodS_of (by decide +kernel) hm⟩
    · refine' srcAt_of ?sf2 ?sn2 ?sa2 ?sb2; (case sf2 => assumption); (case sn2 => exact cb_drop (by assumption) (by tb_rel)); (case sa2 => assumption); (case sb2 => assumption)
  · intro D C ys h' tk m' hLD hlt hC hns hF hlen hk
    refine' post_list (env := env) hLD hlt hC hns hk ?q4
    intro h'' ⟨kk, hS⟩
    obtain ⟨x1, y1, t1, u1, hx1, hy1, F1, N1⟩ := hS
    have hlen7 : ys.length ≤ 7 := by omega
    (try k_lt hlt)
    dsimp only
    k_steps
    · (rename GoodSR _ _ => hG)
      (rename (_ : Int) ∈ (_ : List Int) => hm)
      refine' hret _ _ _ _ (end_draw (P := SysObj 34) ?P1 ?N1 ?A1 ?M1 ?R1 ?x1 ?y1).1 ?F1 (end_draw (P := SysObj 34) ?P1 ?N1 ?A1 ?M1 ?R1 ?x1 ?y1).2
      (case F1 => assumption)
      (case N1 => assumption)
      (case A1 => first | assumption | exact allLt_size (by assumption) | exact allLt_of (by assumption))
      (case M1 => k_mem)
      (case R1 => tb_rel)
      (case x1 => assumption)
      (case y1 => assumption)
      (case P1 => exact ⟨_, hG, .inl ⟨_, _, _, _, by assumption, by omega, hm, rfl⟩⟩)
    · (rename GoodSR _ _ => hG)
      refine' hret _ _ _ _ (end_draw (P := SysObj 34) ?P2 ?N2 ?A2 ?M2 ?R2 ?x2 ?y2).1 ?F2 (end_draw (P := SysObj 34) ?P2 ?N2 ?A2 ?M2 ?R2 ?x2 ?y2).2
      (case F2 => assumption)
      (case N2 => assumption)
      (case A2 => first | assumption | exact allLt_size (by assumption) | exact allLt_of (by assumption))
      (case M2 => k_mem)
      (case R2 => tb_rel)
      (case x2 => assumption)
      (case y2 => assumption)
      (case P2 => exact ⟨_, hG, .inr ⟨_, rfl⟩⟩)
theorem s_lsys1 (c : Addr) (x y : Int) (t u tq : Tok) (hne : ∀ p ∈ rest, p.1 ≠ c) (hx : 0 ≤ x) (hy : 0 ≤ y) : Spec w mean mg mb 5 338 [.ref c, .str (Str.ofString "'") tq] ((c, srcObj x y t u) :: rest) rest
   (DrawRet (SysObj 39) c rest) (fun _ => False) := by
  unfold Spec
  k_fill
  intro dp un gd env outer A₀ base h₀ L m s Q E B F X N TP hf hk hdp hun hret hexc
  refine wpAny_call ?_
  k_dflt cell_enter
  k_steps
  unfold Halt
  (rename IsRange _ _ _ _ _ _ _ _ => hr)
  refine' drawR (c := c) (RR := fun acc C => compPost _ _ _ _ _ acc C) (GoodSV 39) ?hh hr (Int.toNat_of_nonneg ?nn).symm ?hn ?hcell ?hkind ?hx ?hS ?helt ?hRR
  (case hh => exact rfl)
  (case nn => assumption)
  (case hn => omega)
  (case hcell => decide)
  (case hkind => exact rfl)
  (case hx => exact rfl)
  (case hS => (refine' srcAt_of ?sf ?sn ?sa ?sb; (case sf => assumption); (case sn => first | assumption | exact sf1 (by assumption) | exact sf2 (by assumption)); (case sa => assumption); (case sb => assumption)))
  · intro C own h tk E' hown hS
    obtain ⟨x1, y1, t1, u1, hx1, hy1, F1, N1⟩ := hS
    simp only [List.cons_append] at N1
    k_steps
    · (rename (_ : PySem.Str) ∈ (_ : List PySem.Str) => hm)
      exact ⟨_, _, rfl, goodS_of (by decide +kernel) hm⟩
    · refine' srcAt_of ?sf2 ?sn2 ?sa2 ?sb2; (case sf2 => assumption); (case sn2 => exact cb_drop (by assumption) (by tb_rel)); (case sa2 => assumption); (case sb2 => assumption)
  · intro D C ys h' tk m' hLD hlt hC hns hF hlen hk
    refine' post_list (env := env) hLD hlt hC hns hk ?q4
    intro h'' ⟨kk, hS⟩
    obtain ⟨x1, y1, t1, u1, hx1, hy1, F1, N1⟩ := hS
    have hlen7 : ys.length ≤ 7 := by omega
    (try k_lt hlt)
    dsimp only
    k_steps
    · (rename GoodSR _ _ => hG)
      (rename (_ : Int) ∈ (_ : List Int) => hm)
      refine' hret _ _ _ _ (end_draw (P := SysObj 39) ?P1 ?N1 ?A1 ?M1 ?R1 ?x1 ?y1).1 ?F1 (end_draw (P := SysObj 39) ?P1 ?N1 ?A1 ?M1 ?R1 ?x1 ?y1).2
      (case F1 => assumption)
      (case N1 => assumption)
      (case A1 => first | assumption | exact allLt_size (by assumption) | exact allLt_of (by assumption))
      (case M1 => k_mem)
      (case R1 => tb_rel)
      (case x1 => assumption)
      (case y1 => assumption)
      (case P1 => exact ⟨_, hG, .inl ⟨_, _, _, _, by assumption, by omega, hm, rfl⟩⟩)
    · (rename GoodSR _ _ => hG)
      refine' hret _ _ _ _ (end_draw (P := SysObj 39) ?P2 ?N2 ?A2 ?M2 ?R2 ?x2 ?y2).1 ?F2 (end_draw (P := SysObj 39) ?P2 ?N2 ?A2 ?M2 ?R2 ?x2 ?y2).2
      (case F2 => assumption)
      (case N2 => assumption)
      (case A2 => first | assumption | exact allLt_size (by assumption) | exact allLt_of (by assumption))
      (case M2 => k_mem)
      (case R2 => tb_rel)
      (case x2 => assumption)
      (case y2 => assumption)
      (case P2 => exact ⟨_, hG, .inr ⟨_, rfl⟩⟩)
end
end Mine
end
section
open PySem PySem.Spec PySem.Calls PyProof.Rows PySem.W
namespace Mine
def qcOf (q : Str) : Nat := q.cps[0]!
abbrev QUOTES : List Str := [Str.ofString "\"", Str.ofString "'"]
theorem quotes_is {q : Str} (h : q ∈ QUOTES) : (q = Str.ofString "\"" ∧ qcOf q = 34) ∨ (q = Str.ofString "'" ∧ qcOf q = 39) := by
  rcases List.mem_cons.mp h with rfl | h
  · exact .inl ⟨rfl, rfl⟩
  · rcases List.mem_cons.mp h with rfl | h
    · exact .inr ⟨rfl, rfl⟩
    · exact nomatch h
section
variable (w : World) (mean : ExcName → Option Value) (mg mb : Str → Option Value) (rest : Led)
theorem s_lpub (c : Addr) (x y : Int) (q : Str) (t u tq : Tok) (hq : q ∈ QUOTES) (hne : ∀ p ∈ rest, p.1 ≠ c) (hx : 0 ≤ x) (hy : 0 ≤ y) : Spec w mean mg mb 5 333 [.ref c, .str q tq] ((c, srcObj x y t u) :: rest) rest (DrawRet (PubObj (qcOf q)) c rest) (fun _ => False) := by
  rcases quotes_is hq with ⟨rfl, e⟩ | ⟨rfl, e⟩
  · rw [e]; exact s_lpub2 w mean mg mb rest c x y t u tq hne hx hy
  · rw [e]; exact s_lpub1 w mean mg mb rest c x y t u tq hne hx hy
theorem s_lsys (c : Addr) (x y : Int) (q : Str) (t u tq : Tok) (hq : q ∈ QUOTES) (hne : ∀ p ∈ rest, p.1 ≠ c) (hx : 0 ≤ x) (hy : 0 ≤ y) : Spec w mean mg mb 5 338 [.ref c, .str q tq] ((c, srcObj x y t u) :: rest) rest (DrawRet (SysObj (qcOf q)) c rest) (fun _ => False) := by
  rcases quotes_is hq with ⟨rfl, e⟩ | ⟨rfl, e⟩
  · rw [e]; exact s_lsys2 w mean mg mb rest c x y t u tq hne hx hy
  · rw [e]; exact s_lsys1 w mean mg mb rest c x y t u tq hne hx hy
end
theorem slice_len2 (X o : Str) (i : Int) : (Txt.slice X none (some i) ++ o ++ Txt.slice X (some i) none).length ≤ 2 * X.length + o.length := by
  have h1 := Txt.slice_le X none (some i)
  have h2 := Txt.slice_le X (some i) none
  rw [Str.length_append, Str.length_append]; omega
theorem pub_open {qc : Nat} {ob : Obj} (h : PubObj qc ob) : ∃ raw t1 nm od X, raw.length ≤ 300 ∧ ob = tripObj (.str raw t1) nm od ∧ GoodR qc X ∧
    ((∃ i o t2, 0 ≤ i ∧ i ≤ (X.length : Int) ∧ OddP o ∧ raw = Txt.slice X none (some i) ++ o ++ Txt.slice X (some i) none ∧ nm = .none ∧ od = .int i t2) ∨ (∃ t2, raw = X ∧ nm = .str (normF X) t2 ∧ od = .none)) := by
  obtain ⟨X, hG, ⟨i, o, t1, t2, h0, h1, ho, rfl⟩ | ⟨t1, t2, rfl⟩⟩ := h
  · refine ⟨_, t1, _, _, X, ?_, rfl, hG, .inl ⟨i, o, t2, h0, h1, ho, rfl, rfl, rfl⟩⟩
    have := slice_len2 X o i
    have h2 : X.length ≤ 100 := hG.2
    obtain ⟨ch, rfl, -⟩ := ho
    have h3 : (Str.mk #[ch]).length = 1 := rfl
    omega
  · exact ⟨_, t1, _, _, X, Nat.le_trans hG.2 (by decide), rfl, hG, .inr ⟨t2, rfl, rfl, rfl⟩⟩
theorem sys_open {qc : Nat} {ob : Obj} (h : SysObj qc ob) : ∃ raw t1 od X, raw.length ≤ 300 ∧ ob = pairObj (.str raw t1) od ∧ GoodSR qc X ∧
    ((∃ i n t2, 0 ≤ i ∧ i ≤ (X.length : Int) ∧ n ∈ [(1 : Int), 11, 65535] ∧ raw = Txt.slice X none (some i) ++ Str.mk #[n.toNat] ++ Txt.slice X (some i) none ∧ od = .int i t2) ∨ (raw = X ∧ od = .none)) := by
  obtain ⟨X, hG, ⟨i, n, t1, t2, h0, h1, hn, rfl⟩ | ⟨t1, rfl⟩⟩ := h
  · refine ⟨_, t1, _, X, ?_, rfl, hG, .inl ⟨i, n, t2, h0, h1, hn, rfl, rfl⟩⟩
    have := slice_len2 X (Str.mk #[n.toNat]) i
    have h2 : X.length ≤ 100 := hG.2
    have h3 : (Str.mk #[n.toNat]).length = 1 := rfl
    omega
  · exact ⟨_, t1, _, X, Nat.le_trans hG.2 (by decide), rfl, hG, .inr ⟨rfl, rfl⟩⟩
end Mine
end
section
open PySem PySem.Spec PySem.Calls PyProof.Rows PySem.W
namespace Mine
theorem q_is {q : Str} (h : q ∈ QUOTES) : q.cps.toList = [qcOf q] ∧ (qcOf q = 34 ∨ qcOf q = 39) ∧ q.length = 1 := by
  rcases quotes_is h with ⟨rfl, e⟩ | ⟨rfl, e⟩
  · exact ⟨by rw [e]; decide +kernel, .inl e, by decide +kernel⟩
  · exact ⟨by rw [e]; decide +kernel, .inr e, by decide +kernel⟩
theorem cps_app (a b : Str) : (a ++ b).cps.toList = a.cps.toList ++ b.cps.toList := by rw [Str.cps_append, Array.toList_append]
theorem odd_is {qc : Nat} {o : Str} (h : OddP o) (hq : qc = 34 ∨ qc = 39) : ∃ ch, o = Str.mk #[ch] ∧ publicC ch = false ∧ ch ≠ qc := by
  obtain ⟨ch, h1, h2, h3, h4⟩ := h
  exact ⟨ch, h1, h2, by rcases hq with rfl | rfl <;> assumption⟩
theorem badS_is {qc : Nat} {n : Int} (h : n ∈ [(1 : Int), 11, 65535]) (hq : qc = 34 ∨ qc = 39) : charB n.toNat = false ∧ n.toNat ≠ qc := by
  simp only [List.mem_cons, List.not_mem_nil, or_false] at h
  rcases hq with rfl | rfl <;> rcases h with rfl | rfl | rfl <;> exact ⟨by decide +kernel, by decide⟩
def RawP (qc : Nat) (raw : Str) (nm od : Value) : Prop := ∃ X, GoodR qc X ∧
    ((∃ i o t2, 0 ≤ i ∧ i ≤ (X.length : Int) ∧ OddP o ∧ raw = Txt.slice X none (some i) ++ o ++ Txt.slice X (some i) none ∧ nm = .none ∧ od = .int i t2) ∨ (∃ t2, raw = X ∧ nm = .str (normF X) t2 ∧ od = .none))
def RawS (qc : Nat) (raw : Str) (od : Value) : Prop := ∃ X, GoodSR qc X ∧
    ((∃ i n t2, 0 ≤ i ∧ i ≤ (X.length : Int) ∧ n ∈ [(1 : Int), 11, 65535] ∧ raw = Txt.slice X none (some i) ++ Str.mk #[n.toNat] ++ Txt.slice X (some i) none ∧ od = .int i t2) ∨ (raw = X ∧ od = .none))
theorem pub_open2 {qc : Nat} {ob : Obj} (h : PubObj qc ob) : ∃ raw t1 nm od, raw.length ≤ 300 ∧ ob = tripObj (.str raw t1) nm od ∧ RawP qc raw nm od := by
  obtain ⟨raw, t1, nm, od, X, h1, h2, h3, h4⟩ := pub_open h
  exact ⟨raw, t1, nm, od, h1, h2, X, h3, h4⟩
theorem sys_open2 {qc : Nat} {ob : Obj} (h : SysObj qc ob) : ∃ raw t1 od, raw.length ≤ 300 ∧ ob = pairObj (.str raw t1) od ∧ RawS qc raw od := by
  obtain ⟨raw, t1, od, X, h1, h2, h3, h4⟩ := sys_open h
  exact ⟨raw, t1, od, h1, h2, X, h3, h4⟩
/-- what the reading of a quoted name tells, by its raw text: .inl: a sign that may not be stands behind i signs; .inr: it reads X -/
def ReadP (qc : Nat) (raw : Str) (i? : Option Int) (X : Str) : Prop := raw.length ≤ 300 ∧ ∀ (T : Str) (A B : List Nat), T.cps.toList = A ++ qc :: (raw.cps.toList ++ qc :: B) →
  match i? with
  | some i => readFault publicC T A.length = some (A.length + 1 + i)
  | none => raw = X ∧ readFault publicC T A.length = none ∧ quoteTxt T A.length = X ∧ quoteOut T A.length = A.length + X.length + 2
def ReadS (qc : Nat) (raw : Str) (i? : Option Int) (X : Str) : Prop := raw.length ≤ 300 ∧ ∀ (T : Str) (A B : List Nat), T.cps.toList = A ++ qc :: (raw.cps.toList ++ qc :: B) →
  match i? with
  | some i => readFault charB T A.length = some (A.length + 1 + i)
  | none => raw = X ∧ readFault charB T A.length = none ∧ quoteTxt T A.length = X ∧ quoteOut T A.length = A.length + X.length + 2
theorem readP_of {qc : Nat} {raw : Str} {nm od : Value} (hq : qc = 34 ∨ qc = 39) (hl : raw.length ≤ 300) (h : RawP qc raw nm od) :
    (∃ i t2, 0 ≤ i ∧ i ≤ 1000 ∧ nm = .none ∧ od = .int i t2 ∧ ReadP qc raw (some i) raw) ∨ (∃ X t2, nm = .str (normF X) t2 ∧ od = .none ∧ ReadP qc raw none X) := by
  obtain ⟨X, hG, ⟨i, o, t2, h0, h1, ho, hr, h2, h3⟩ | ⟨t2, hr, h2, h3⟩⟩ := h
  · obtain ⟨ch, e, hc, hn⟩ := odd_is ho hq
    have h4 : X.length ≤ 100 := hG.2
    refine .inl ⟨i, t2, h0, by omega, h2, h3, hl, fun T A B hT => ?_⟩
    subst e
    subst hr
    exact raw_odd hq h0 h1 hc hn hT hG.1
  · refine .inr ⟨X, t2, h2, h3, hl, fun T A B hT => ?_⟩
    subst hr
    exact ⟨rfl, raw_ok hq hT hG.1⟩
theorem readS_of {qc : Nat} {raw : Str} {od : Value} (hq : qc = 34 ∨ qc = 39) (hl : raw.length ≤ 300) (h : RawS qc raw od) :
    (∃ i t2, 0 ≤ i ∧ i ≤ 1000 ∧ od = .int i t2 ∧ ReadS qc raw (some i) raw) ∨ (od = .none ∧ ReadS qc raw none raw) := by
  obtain ⟨X, hG, ⟨i, n, t2, h0, h1, ho, hr, h3⟩ | ⟨hr, h3⟩⟩ := h
  · obtain ⟨hc, hn⟩ := badS_is (qc := qc) ho hq
    have h4 : X.length ≤ 100 := hG.2
    refine .inl ⟨i, t2, h0, by omega, h3, hl, fun T A B hT => ?_⟩
    subst hr
    exact raw_odd hq h0 h1 hc hn hT hG.1
  · refine .inr ⟨h3, hl, fun T A B hT => ?_⟩
    subst hr
    exact ⟨rfl, raw_ok hq hT hG.1⟩
section
variable {A q o raw plain B gap mid X Y : Str} {i k : Int}
theorem at_len (A : Str) : (A.length : Int) = ((A.cps.toList.length : Nat) : Int) := by rw [len_cps A]
theorem pub_ok (hq : q ∈ QUOTES) (hA : A.length ≤ 5) (hB : B.length ≤ 5) (hR : ReadP (qcOf q) raw none X) (hk : k = ((A ++ q ++ raw ++ q).length : Int)) : HTxt (A ++ q ++ raw ++ q ++ B) (A.length : Int) (Str.ofString "public") (normF X) k := by
  obtain ⟨e1, e2, e3⟩ := q_is hq
  have hT : (A ++ q ++ raw ++ q ++ B).cps.toList = A.cps.toList ++ qcOf q :: (raw.cps.toList ++ qcOf q :: B.cps.toList) := by simp only [cps_app, e1]; simp
  obtain ⟨h0, h1, h2, h3⟩ := hR.2 _ _ _ hT
  have hl := hR.1
  simp only [Str.length_append] at hk
  refine h_pub (by omega) (by simp only [Str.length_append]; omega) (by simp only [Str.length_append]; omega) (by rw [at_len]; exact h1) (by rw [at_len, h2]) (by rw [at_len, h3, ← at_len, ← h0]; omega)
theorem pub_odd (hq : q ∈ QUOTES) (hA : A.length ≤ 5) (hB : B.length ≤ 5) (hR : ReadP (qcOf q) raw (some i) X) (hk : k = (A.length : Int) + 1 + i) : HTxt (A ++ q ++ raw ++ q ++ B) (A.length : Int) (Str.ofString "public") (Str.ofString "fault") k := by
  obtain ⟨e1, e2, e3⟩ := q_is hq
  have hT : (A ++ q ++ raw ++ q ++ B).cps.toList = A.cps.toList ++ qcOf q :: (raw.cps.toList ++ qcOf q :: B.cps.toList) := by simp only [cps_app, e1]; simp
  have h1 := hR.2 _ _ _ hT
  have hl := hR.1
  dsimp only at h1
  refine h_pubF (by omega) (by simp only [Str.length_append]; omega) (by simp only [Str.length_append]; omega) (by rw [at_len, h1, ← at_len, hk])
theorem sys_ok (hq : q ∈ QUOTES) (hA : A.length ≤ 5) (hB : B.length ≤ 5) (hR : ReadS (qcOf q) raw none X) (hk : k = ((A ++ q ++ raw ++ q).length : Int)) : HTxt (A ++ q ++ raw ++ q ++ B) (A.length : Int) (Str.ofString "system") X k := by
  obtain ⟨e1, e2, e3⟩ := q_is hq
  have hT : (A ++ q ++ raw ++ q ++ B).cps.toList = A.cps.toList ++ qcOf q :: (raw.cps.toList ++ qcOf q :: B.cps.toList) := by simp only [cps_app, e1]; simp
  obtain ⟨h0, h1, h2, h3⟩ := hR.2 _ _ _ hT
  have hl := hR.1
  simp only [Str.length_append] at hk
  refine h_sys (by omega) (by simp only [Str.length_append]; omega) (by simp only [Str.length_append]; omega) (by rw [at_len]; exact h1) (by rw [at_len, h2]) (by rw [at_len, h3, ← at_len, ← h0]; omega)
theorem sys_odd (hq : q ∈ QUOTES) (hA : A.length ≤ 5) (hB : B.length ≤ 5) (hR : ReadS (qcOf q) raw (some i) X) (hk : k = (A.length : Int) + 1 + i) : HTxt (A ++ q ++ raw ++ q ++ B) (A.length : Int) (Str.ofString "system") (Str.ofString "fault") k := by
  obtain ⟨e1, e2, e3⟩ := q_is hq
  have hT : (A ++ q ++ raw ++ q ++ B).cps.toList = A.cps.toList ++ qcOf q :: (raw.cps.toList ++ qcOf q :: B.cps.toList) := by simp only [cps_app, e1]; simp
  have h1 := hR.2 _ _ _ hT
  have hl := hR.1
  dsimp only at h1
  refine h_sysF (by omega) (by simp only [Str.length_append]; omega) (by simp only [Str.length_append]; omega) (by rw [at_len, h1, ← at_len, hk])
abbrev GAPS : List Str := [Str.ofString " ", Str.ofString "\n", Str.ofString "\t "]
abbrev MIDS : List Str := [Str.ofString " ", Str.ofString "\u000d\n", Str.ofString ""]
def Sp (g : Str) : Prop := (∀ x ∈ g.cps.toList, spaceB (Str.mk #[x]) = true) ∧ g.cps.toList ≠ [] ∧ g.length ≤ 5
def spB (g : Str) : Bool := g.cps.toList.all (fun x => spaceB (Str.mk #[x])) && !g.cps.toList.isEmpty && decide (g.length ≤ 5)
theorem sp_of {g : Str} (h : spB g = true) : Sp g := by
  unfold spB at h
  simp only [Bool.and_eq_true, List.all_eq_true, decide_eq_true_eq, Bool.not_eq_true', List.isEmpty_eq_false_iff] at h
  exact ⟨h.1.1, h.1.2, h.2⟩
theorem gap_is (h : gap ∈ GAPS) : Sp gap := by
  simp only [List.mem_cons, List.not_mem_nil, or_false] at h
  rcases h with rfl | rfl | rfl <;> exact sp_of (by decide +kernel)
theorem mid_is (h : mid ∈ MIDS) : Sp mid ∨ mid = Str.ofString "" := by
  simp only [List.mem_cons, List.not_mem_nil, or_false] at h
  rcases h with rfl | rfl | rfl
  · exact .inl (sp_of (by decide +kernel))
  · exact .inl (sp_of (by decide +kernel))
  · exact .inr rfl
theorem empty_cps : (Str.ofString "").cps.toList = [] := by decide +kernel
theorem empty_len : (Str.ofString "").length = 0 := by decide +kernel
/-- the text behind SYSTEM -/
abbrev sysT (A gap o plain B : Str) : Str := A ++ (Str.ofString "SYSTEM" ++ gap) ++ Str.ofString "" ++ o ++ plain ++ o ++ B
abbrev pubT (A gap q raw mid o plain B : Str) : Str := A ++ (Str.ofString "PUBLIC" ++ gap ++ q ++ raw ++ q) ++ mid ++ o ++ plain ++ o ++ B
theorem sysT_cps (ho : o ∈ QUOTES) : (sysT A gap o plain B).cps.toList = A.cps.toList ++ ([83, 89, 83, 84, 69, 77] ++ (gap.cps.toList ++ qcOf o :: (plain.cps.toList ++ qcOf o :: B.cps.toList))) := by
  obtain ⟨e1, e2, e3⟩ := q_is ho
  simp only [sysT, cps_app, e1, sys6, empty_cps]; simp
theorem pubT_cps (hq : q ∈ QUOTES) (ho : o ∈ QUOTES) : (pubT A gap q raw mid o plain B).cps.toList = A.cps.toList ++ ([80, 85, 66, 76, 73, 67] ++ (gap.cps.toList ++ qcOf q :: (raw.cps.toList ++ qcOf q :: (mid.cps.toList ++ qcOf o :: (plain.cps.toList ++ qcOf o :: B.cps.toList))))) := by
  obtain ⟨e1, e2, e3⟩ := q_is hq
  obtain ⟨f1, f2, f3⟩ := q_is ho
  simp only [pubT, cps_app, e1, f1, pub6]; simp
theorem o_sys_ok (ho : o ∈ QUOTES) (hA : A.length ≤ 5) (hB : B.length ≤ 5) (hg : Sp gap) (hR : ReadS (qcOf o) plain none X) (hk : k = ((A ++ (Str.ofString "SYSTEM" ++ gap) ++ Str.ofString "" ++ o ++ plain ++ o).length : Int)) : HSys (sysT A gap o plain B) (A.length : Int) (Str.ofString "outer") plain k := by
  obtain ⟨e1, e2, e3⟩ := q_is ho
  have hT := sysT_cps (A := A) (gap := gap) (plain := plain) (B := B) ho
  obtain ⟨h0, h1⟩ := hR.2 _ _ _ (re_at (re_at hT))
  have hl := hR.1
  have hgl := hg.2.2
  refine h_outS (by omega) (by simp only [sysT, Str.length_append]; omega) (by simp only [sysT, Str.length_append, sys6l, empty_len]; omega) ?_
  rw [at_len, outer_sys hT e2 hg.1 hg.2.1, ok_sysF h1, hk]
  congr 1
  · exact h0.symm
  · rw [← h0]
    simp only [List.length_append, List.length_cons, List.length_nil, Str.length_append, sys6l, empty_len, e3, len_cps A, len_cps gap]
    omega
theorem o_sys_odd (ho : o ∈ QUOTES) (hA : A.length ≤ 5) (hB : B.length ≤ 5) (hg : Sp gap) (hR : ReadS (qcOf o) plain (some i) X) (hk : k = ((A ++ (Str.ofString "SYSTEM" ++ gap) ++ Str.ofString "" ++ o ++ plain ++ o).length : Int) - 1 - (plain.length : Int) + i) : HTxt (sysT A gap o plain B) (A.length : Int) (Str.ofString "outer") (Str.ofString "fault") k := by
  obtain ⟨e1, e2, e3⟩ := q_is ho
  have hT := sysT_cps (A := A) (gap := gap) (plain := plain) (B := B) ho
  have h1 := hR.2 _ _ _ (re_at (re_at hT))
  have hl := hR.1
  have hgl := hg.2.2
  dsimp only at h1
  refine h_outF (by omega) (by simp only [sysT, Str.length_append]; omega) (by simp only [sysT, Str.length_append, sys6l, empty_len]; omega) ?_
  rw [at_len, outer_sys hT e2 hg.1 hg.2.1, fault_sysF h1, hk]
  congr 1
  simp only [List.length_append, List.length_cons, List.length_nil, Str.length_append, sys6l, empty_len, e3, len_cps A, len_cps gap]
  omega
theorem o_pub_odd (hq : q ∈ QUOTES) (ho : o ∈ QUOTES) (hA : A.length ≤ 5) (hB : B.length ≤ 5) (hg : Sp gap) (hm : mid.length ≤ 5) (hpl : plain.length ≤ 300) (hR : ReadP (qcOf q) raw (some i) X) (hk : k = (A.length : Int) + 6 + (gap.length : Int) + 1 + i) : HTxt (pubT A gap q raw mid o plain B) (A.length : Int) (Str.ofString "outer") (Str.ofString "fault") k := by
  obtain ⟨e1, e2, e3⟩ := q_is hq
  obtain ⟨f1, f2, f3⟩ := q_is ho
  have hT := pubT_cps (A := A) (gap := gap) (raw := raw) (mid := mid) (plain := plain) (B := B) hq ho
  have h1 := hR.2 _ _ _ (re_at (re_at hT))
  have hl := hR.1
  have hgl := hg.2.2
  dsimp only at h1
  refine h_outF (by omega) (by simp only [pubT, Str.length_append]; omega) (by simp only [pubT, Str.length_append, pub6l, empty_len]; omega) ?_
  rw [at_len, outer_pub hT e2 hg.1 hg.2.1, fault_pubF h1, hk]
  congr 1
  simp only [List.length_append, List.length_cons, List.length_nil, len_cps A, len_cps gap]
  omega
theorem o_pub_gap (hq : q ∈ QUOTES) (ho : o ∈ QUOTES) (hA : A.length ≤ 5) (hB : B.length ≤ 5) (hg : Sp gap) (hpl : plain.length ≤ 300) (hR : ReadP (qcOf q) raw none X) (hk : k = ((A ++ (Str.ofString "PUBLIC" ++ gap ++ q ++ raw ++ q)).length : Int)) : HTxt (pubT A gap q raw (Str.ofString "") o plain B) (A.length : Int) (Str.ofString "outer") (Str.ofString "fault") k := by
  obtain ⟨e1, e2, e3⟩ := q_is hq
  obtain ⟨f1, f2, f3⟩ := q_is ho
  have hT := pubT_cps (A := A) (gap := gap) (raw := raw) (mid := Str.ofString "") (plain := plain) (B := B) hq ho
  obtain ⟨h0, h1⟩ := hR.2 _ _ _ (re_at (re_at hT))
  have hl := hR.1
  have hgl := hg.2.2
  refine h_outF (by omega) (by simp only [pubT, Str.length_append]; omega) (by simp only [pubT, Str.length_append, pub6l, empty_len]; omega) ?_
  have hs : spEnd (pubT A gap q raw (Str.ofString "") o plain B) (A.cps.toList ++ ([80, 85, 66, 76, 73, 67] ++ (gap.cps.toList ++ qcOf q :: (raw.cps.toList ++ [qcOf q])))).length = (A.cps.toList ++ ([80, 85, 66, 76, 73, 67] ++ (gap.cps.toList ++ qcOf q :: (raw.cps.toList ++ [qcOf q])))).length := by
    have := space_read (T := pubT A gap q raw (Str.ofString "") o plain B) (A := A.cps.toList ++ ([80, 85, 66, 76, 73, 67] ++ (gap.cps.toList ++ qcOf q :: (raw.cps.toList ++ [qcOf q])))) (G := []) (c := qcOf o) (B := plain.cps.toList ++ qcOf o :: B.cps.toList) (by rw [hT, empty_cps]; simp) (by simp) (quote_noSpace f2)
    simpa using this
  have hp : (((A.cps.toList ++ [80, 85, 66, 76, 73, 67] ++ gap.cps.toList).length : Nat) : Int) + X.length + 2 = (A.cps.toList ++ ([80, 85, 66, 76, 73, 67] ++ (gap.cps.toList ++ qcOf q :: (raw.cps.toList ++ [qcOf q])))).length := by
    rw [← h0]; simp only [List.length_append, List.length_cons, List.length_nil, len_cps raw]; omega
  rw [at_len, outer_pub hT e2 hg.1 hg.2.1, gap_pubF h1 (by rw [hp]; exact hs), hk, hp]
  congr 1
  simp only [List.length_append, List.length_cons, List.length_nil, Str.length_append, pub6l, e3, len_cps A, len_cps gap, len_cps raw]
  omega
theorem pub_second {S : List Nat} (hq : q ∈ QUOTES) (ho : o ∈ QUOTES) (hm : Sp mid) (h0 : raw = X) :
   spEnd (pubT A gap q raw mid o plain B) (((A.cps.toList ++ [80, 85, 66, 76, 73, 67] ++ gap.cps.toList).length : Nat) + X.length + 2) = (A.cps.toList ++ ([80, 85, 66, 76, 73, 67] ++ (gap.cps.toList ++ qcOf q :: (raw.cps.toList ++ qcOf q :: mid.cps.toList)))).length ∧ (((A.cps.toList ++ ([80, 85, 66, 76, 73, 67] ++ (gap.cps.toList ++ qcOf q :: (raw.cps.toList ++ qcOf q :: mid.cps.toList)))).length : Nat) : Int) ≠ ((A.cps.toList ++ [80, 85, 66, 76, 73, 67] ++ gap.cps.toList).length : Nat) + X.length + 2 := by
  obtain ⟨f1, f2, f3⟩ := q_is ho
  have hT := pubT_cps (A := A) (gap := gap) (raw := raw) (mid := mid) (plain := plain) (B := B) hq ho
  have hp : (((A.cps.toList ++ [80, 85, 66, 76, 73, 67] ++ gap.cps.toList).length : Nat) : Int) + X.length + 2 = (A.cps.toList ++ ([80, 85, 66, 76, 73, 67] ++ (gap.cps.toList ++ qcOf q :: (raw.cps.toList ++ [qcOf q])))).length := by
    rw [← h0]; simp only [List.length_append, List.length_cons, List.length_nil, len_cps raw]; omega
  have hml : 0 < mid.cps.toList.length := List.length_pos_iff.mpr hm.2.1
  have hs := space_read (T := pubT A gap q raw mid o plain B) (A := A.cps.toList ++ ([80, 85, 66, 76, 73, 67] ++ (gap.cps.toList ++ qcOf q :: (raw.cps.toList ++ [qcOf q])))) (G := mid.cps.toList) (c := qcOf o) (B := plain.cps.toList ++ qcOf o :: B.cps.toList) (by rw [hT]; simp) hm.1 (quote_noSpace f2)
  rw [hp, hs]
  constructor
  · simp only [List.length_append, List.length_cons, List.length_nil]; omega
  · simp only [List.length_append, List.length_cons, List.length_nil]; omega
theorem o_pub_late (hq : q ∈ QUOTES) (ho : o ∈ QUOTES) (hA : A.length ≤ 5) (hB : B.length ≤ 5) (hg : Sp gap) (hm : Sp mid) (hR : ReadP (qcOf q) raw none X) (hS : ReadS (qcOf o) plain (some i) Y) (hk : k = ((A ++ (Str.ofString "PUBLIC" ++ gap ++ q ++ raw ++ q) ++ mid ++ o ++ plain ++ o).length : Int) - 1 - (plain.length : Int) + i) : HTxt (pubT A gap q raw mid o plain B) (A.length : Int) (Str.ofString "outer") (Str.ofString "fault") k := by
  obtain ⟨e1, e2, e3⟩ := q_is hq
  obtain ⟨f1, f2, f3⟩ := q_is ho
  have hT := pubT_cps (A := A) (gap := gap) (raw := raw) (mid := mid) (plain := plain) (B := B) hq ho
  obtain ⟨h0, h1⟩ := hR.2 _ _ _ (re_at (re_at hT))
  obtain ⟨g1, g2⟩ := pub_second (A := A) (gap := gap) (plain := plain) (B := B) (S := []) hq ho hm h0
  have h3 := hS.2 (pubT A gap q raw mid o plain B) (A.cps.toList ++ ([80, 85, 66, 76, 73, 67] ++ (gap.cps.toList ++ qcOf q :: (raw.cps.toList ++ qcOf q :: mid.cps.toList)))) B.cps.toList (by rw [hT]; simp)
  dsimp only at h3
  have hl := hR.1
  have hl2 := hS.1
  have hgl := hg.2.2
  have hml := hm.2.2
  refine h_outF (by omega) (by simp only [pubT, Str.length_append]; omega) (by simp only [pubT, Str.length_append, pub6l, empty_len]; omega) ?_
  rw [at_len, outer_pub hT e2 hg.1 hg.2.1, late_pubF h1 g1 g2 h3, hk]
  congr 1
  simp only [List.length_append, List.length_cons, List.length_nil, Str.length_append, pub6l, e3, f3, len_cps A, len_cps gap, len_cps raw, len_cps mid]
  omega
theorem o_pub_ok (hq : q ∈ QUOTES) (ho : o ∈ QUOTES) (hA : A.length ≤ 5) (hB : B.length ≤ 5) (hg : Sp gap) (hm : Sp mid) (hR : ReadP (qcOf q) raw none X) (hS : ReadS (qcOf o) plain none Y) (hk : k = ((A ++ (Str.ofString "PUBLIC" ++ gap ++ q ++ raw ++ q) ++ mid ++ o ++ plain ++ o).length : Int)) : HPub (pubT A gap q raw mid o plain B) (A.length : Int) (Str.ofString "outer") (normF X) plain k := by
  obtain ⟨e1, e2, e3⟩ := q_is hq
  obtain ⟨f1, f2, f3⟩ := q_is ho
  have hT := pubT_cps (A := A) (gap := gap) (raw := raw) (mid := mid) (plain := plain) (B := B) hq ho
  obtain ⟨h0, h1⟩ := hR.2 _ _ _ (re_at (re_at hT))
  obtain ⟨g1, g2⟩ := pub_second (A := A) (gap := gap) (plain := plain) (B := B) (S := []) hq ho hm h0
  obtain ⟨h4, h3⟩ := hS.2 (pubT A gap q raw mid o plain B) (A.cps.toList ++ ([80, 85, 66, 76, 73, 67] ++ (gap.cps.toList ++ qcOf q :: (raw.cps.toList ++ qcOf q :: mid.cps.toList)))) B.cps.toList (by rw [hT]; simp)
  have hl := hR.1
  have hl2 := hS.1
  have hgl := hg.2.2
  have hml := hm.2.2
  refine h_outP (by omega) (by simp only [pubT, Str.length_append]; omega) (by simp only [pubT, Str.length_append, pub6l, empty_len]; omega) ?_
  rw [at_len, outer_pub hT e2 hg.1 hg.2.1, ok_pubF h1 g1 g2 h3, hk]
  congr 1
  · exact h4.symm
  · rw [← h4]
    simp only [List.length_append, List.length_cons, List.length_nil, Str.length_append, pub6l, e3, f3, len_cps A, len_cps gap, len_cps raw, len_cps mid]
    omega
end
end Mine
end
section
open PySem PySem.Spec PySem.Calls PyProof.Rows PySem.W
namespace Mine
def CutP (R : Str → Int → Prop) (h₀ : Heap) (L : Addr) (m : Str → Option Value) (news : Led) (s : Shared) (v : Value) (s' : Shared) : Prop :=
  ∃ q dx dt dk du h' tk', v = .ref q ∧ s' = { s with heap := h', toks := tk' } ∧ R dx dk ∧ AllLt q news ∧ 1 ≤ tk' ∧ Fr h₀ L h' m ∧ News h₀ L h' ((q, pairObj (.str dx dt) (.int dk du)) :: news)
def DueP (A q raw dx : Str) (dk : Int) : Prop := ∀ B : Str, B.length ≤ 5 → HTxt (A ++ q ++ raw ++ q ++ B) (A.length : Int) (Str.ofString "public") dx dk
def DueS (A q raw dx : Str) (dk : Int) : Prop := ∀ B : Str, B.length ≤ 5 → HTxt (A ++ q ++ raw ++ q ++ B) (A.length : Int) (Str.ofString "system") dx dk
section
variable {A q o raw plain B gap mid X Y dx : Str} {i k dk : Int}
theorem dueP_at (h : DueP A q raw dx dk) (hB : B.length ≤ 5) : HTxt (A ++ q ++ raw ++ q ++ B) (A.length : Int) (Str.ofString "public") dx dk := h B hB
theorem dueS_at (h : DueS A q raw dx dk) (hB : B.length ≤ 5) : HTxt (A ++ q ++ raw ++ q ++ B) (A.length : Int) (Str.ofString "system") dx dk := h B hB
theorem dueP_ok (hq : q ∈ QUOTES) (hA : A.length ≤ 5) (hR : ReadP (qcOf q) raw none X) (hk : k = ((A ++ q ++ raw ++ q).length : Int)) : DueP A q raw (normF X) k := fun B hB => pub_ok hq hA hB hR hk
theorem dueP_odd (hq : q ∈ QUOTES) (hA : A.length ≤ 5) (hR : ReadP (qcOf q) raw (some i) X) (hk : k = (A.length : Int) + 1 + i) : DueP A q raw (Str.ofString "fault") k := fun B hB => pub_odd hq hA hB hR hk
theorem dueS_ok (hq : q ∈ QUOTES) (hA : A.length ≤ 5) (hR : ReadS (qcOf q) raw none X) (hk : k = ((A ++ q ++ raw ++ q).length : Int)) : DueS A q raw X k := fun B hB => sys_ok hq hA hB hR hk
theorem dueS_odd (hq : q ∈ QUOTES) (hA : A.length ≤ 5) (hR : ReadS (qcOf q) raw (some i) X) (hk : k = (A.length : Int) + 1 + i) : DueS A q raw (Str.ofString "fault") k := fun B hB => sys_odd hq hA hB hR hk
end
theorem cut_end {R : Str → Int → Prop} {h₀ h' : Heap} {L : Addr} {m : Str → Option Value} {news : Led} {s : Shared} {q : Addr} {dx : Str} {dt du : Tok} {dk : Int} {tk' : Nat} (F : Fr h₀ L h' m) (N : News h₀ L h' ((q, pairObj (.str dx dt) (.int dk du)) :: news)) (hl : AllLt q news) (ht : 1 ≤ tk') (hR : R dx dk) :
    CutP R h₀ L m news s (.ref q) { s with heap := h', toks := tk' } := ⟨_, _, _, _, _, _, _, rfl, rfl, hR, hl, ht, F, N⟩
theorem cut_go {prog : Program} {w : World} {Ar : Around} {E : Value → Shared → Prop} {s : Shared} {x : Expr} {env : Env} {Q : Value → Shared → Prop} {h₀ : Heap} {L : Addr} {m : Str → Option Value} {news : Led} {R : Str → Int → Prop}
    (hw : wpAny (model prog w) Ar (eval x env) (CutP R h₀ L m news s) E s)
    (k : ∀ dx dk q dt du h' tk', R dx dk → AllLt q news → 1 ≤ tk' → Fr h₀ L h' m → News h₀ L h' ((q, pairObj (.str dx dt) (.int dk du)) :: news) → Q (.ref q) { s with heap := h', toks := tk' }) :
    wpAny (model prog w) Ar (eval x env) Q E s := by
  refine wpAny_mono hw ?_ (fun _ _ h => h)
  rintro v s' ⟨q, dx, dt, dk, du, h', tk', rfl, rfl, hR, hl, ht, F, N⟩
  exact k _ _ _ _ _ _ _ hR hl ht F N
section
variable {prog : Program} {w : World} {Ar : Around} {E : Value → Shared → Prop} {s : Shared} {x : Expr} {env : Env} {Q : Value → Shared → Prop} {h₀ : Heap} {L : Addr} {m : Str → Option Value} {news : Led} {A q raw : Str} {nm od : Value}
theorem cut_due (hq : q ∈ QUOTES) (hA : A ∈ [Str.ofString "", Str.ofString "x "]) (F : Fr h₀ L s.heap m) (N : News h₀ L s.heap news) (hl : raw.length ≤ 300) (hP : RawP (qcOf q) raw nm od)
    (w1 : ∀ i t2, 0 ≤ i → i ≤ 1000 → nm = .none → od = .int i t2 → ReadP (qcOf q) raw (some i) raw → wpAny (model prog w) Ar (eval x env) (CutP (DueP A q raw) h₀ L m news s) E s)
    (w2 : ∀ X t2, nm = .str (normF X) t2 → od = .none → ReadP (qcOf q) raw none X → wpAny (model prog w) Ar (eval x env) (CutP (DueP A q raw) h₀ L m news s) E s)
    (k : ∀ dx dk q' dt du h' tk', DueP A q raw dx dk → AllLt q' news → 1 ≤ tk' → Fr h₀ L h' m → News h₀ L h' ((q', pairObj (.str dx dt) (.int dk du)) :: news) → Q (.ref q') { s with heap := h', toks := tk' }) :
    wpAny (model prog w) Ar (eval x env) Q E s := by
  refine cut_go (R := DueP A q raw) (h₀ := h₀) (L := L) (m := m) (news := news) ?_ k
  rcases readP_of (q_is hq).2.1 hl hP with ⟨i, t2, h0, h1, e1, e2, h3⟩ | ⟨X, t2, e1, e2, h3⟩
  · exact w1 i t2 h0 h1 e1 e2 h3
  · exact w2 X t2 e1 e2 h3
theorem cut_late (hq : q ∈ QUOTES) (hA : A ∈ [Str.ofString "", Str.ofString "x "]) (F : Fr h₀ L s.heap m) (N : News h₀ L s.heap news) (hl : raw.length ≤ 300) (hP : RawS (qcOf q) raw od)
    (w1 : ∀ i t2, 0 ≤ i → i ≤ 1000 → od = .int i t2 → ReadS (qcOf q) raw (some i) raw → wpAny (model prog w) Ar (eval x env) (CutP (DueS A q raw) h₀ L m news s) E s)
    (w2 : od = .none → ReadS (qcOf q) raw none raw → wpAny (model prog w) Ar (eval x env) (CutP (DueS A q raw) h₀ L m news s) E s)
    (k : ∀ dx dk q' dt du h' tk', DueS A q raw dx dk → AllLt q' news → 1 ≤ tk' → Fr h₀ L h' m → News h₀ L h' ((q', pairObj (.str dx dt) (.int dk du)) :: news) → Q (.ref q') { s with heap := h', toks := tk' }) :
    wpAny (model prog w) Ar (eval x env) Q E s := by
  refine cut_go (R := DueS A q raw) (h₀ := h₀) (L := L) (m := m) (news := news) ?_ k
  rcases readS_of (q_is hq).2.1 hl hP with ⟨i, t2, h0, h1, e2, h3⟩ | ⟨e2, h3⟩
  · exact w1 i t2 h0 h1 e2 h3
  · exact w2 e2 h3
/-- is not None, of what _law_public or _law_system drew -/
theorem isNot_P (hq : q ∈ QUOTES) (hl : raw.length ≤ 300) (hP : RawP (qcOf q) raw nm od)
    (w1 : ∀ i t2, 0 ≤ i → i ≤ 1000 → nm = .none → od = .int i t2 → ReadP (qcOf q) raw (some i) raw → wpAny (model prog w) Ar (compareOp .IsNot od .none) Q E s)
    (w2 : ∀ X t2, nm = .str (normF X) t2 → od = .none → ReadP (qcOf q) raw none X → wpAny (model prog w) Ar (compareOp .IsNot od .none) Q E s) : wpAny (model prog w) Ar (compareOp .IsNot od .none) Q E s := by
  rcases readP_of (q_is hq).2.1 hl hP with ⟨i, t2, h0, h1, e1, e2, h3⟩ | ⟨X, t2, e1, e2, h3⟩
  · exact w1 i t2 h0 h1 e1 e2 h3
  · exact w2 X t2 e1 e2 h3
theorem isNot_S (hq : q ∈ QUOTES) (hl : raw.length ≤ 300) (hP : RawS (qcOf q) raw od)
    (w1 : ∀ i t2, 0 ≤ i → i ≤ 1000 → od = .int i t2 → ReadS (qcOf q) raw (some i) raw → wpAny (model prog w) Ar (compareOp .IsNot od .none) Q E s)
    (w2 : od = .none → ReadS (qcOf q) raw none raw → wpAny (model prog w) Ar (compareOp .IsNot od .none) Q E s) : wpAny (model prog w) Ar (compareOp .IsNot od .none) Q E s := by
  rcases readS_of (q_is hq).2.1 hl hP with ⟨i, t2, h0, h1, e2, h3⟩ | ⟨e2, h3⟩
  · exact w1 i t2 h0 h1 e2 h3
  · exact w2 e2 h3
end
section
variable {prog : Program} {w : World} {A : Around} {E : Value → Shared → Prop} {s : Shared} {a b a2 b2 L : Addr} {v1 v2 w1 w2 : Value} {Q : Value → Shared → Prop} {h₀ : Heap} {news : Led} {x x' mid : Str} {k k' : Int} {t t' u u' : Tok}
theorem ne_text2 (N : News h₀ L s.heap news) (ha : (a, pairObj (.str x t) (.int k u)) ∈ news) (hb : (b, pairObj (.str x' t') (.int k' u')) ∈ news) (hu : A.units + 64 < cLine) (hx : x = x') (hk : k = k') (h : Q (.bool false) s) : wpAny (model prog w) A (compareOp .NotEq (.ref a) (.ref b)) Q E s := by
  subst hx; subst hk; exact ne_text N ha hb hu h
theorem eq_text2 (N : News h₀ L s.heap news) (ha : (a, pairObj (.str x t) (.int k u)) ∈ news) (hb : (b, pairObj (.str x' t') (.int k' u')) ∈ news) (hu : A.units + 64 < cLine) (hx : x = x') (hk : k = k') (h : Q (.bool true) s) : wpAny (model prog w) A (compareOp .Eq (.ref a) (.ref b)) Q E s := by
  subst hx; subst hk; exact eq_text N ha hb hu h
theorem eq_deep2 (N : News h₀ L s.heap news) (ha : (a, pairObj (.ref a2) (.int k u)) ∈ news) (hb : (b, pairObj (.ref b2) (.int k' u')) ∈ news) (ha2 : (a2, pairObj v1 v2) ∈ news) (hb2 : (b2, pairObj w1 w2) ∈ news) (hne : a2 ≠ b2) (e1 : SameV v1 w1) (e2 : SameV v2 w2) (hu : A.units + 64 < cLine) (hk : k = k') (h : Q (.bool true) s) : wpAny (model prog w) A (compareOp .Eq (.ref a) (.ref b)) Q E s := by
  subst hk; exact eq_deep N ha hb ha2 hb2 hne e1 e2 hu h
theorem eq_mid (hm : mid ∈ MIDS) (k1 : mid = Str.ofString "" → Q (.bool true) s) (k2 : Sp mid → Q (.bool false) s) : wpAny (model prog w) A (compareOp .Eq (.str mid t) (.str (Str.ofString "") t')) Q E s := by
  refine eq_str ?_
  rcases mid_is hm with h | h
  · have : (mid == Str.ofString "") = false := by
      rw [beq_eq_false_iff_ne]
      intro e; subst e
      exact h.2.1 empty_cps
    rw [this]; exact k2 h
  · have : (mid == Str.ofString "") = true := by rw [h, beq_self_eq_true]
    rw [this]; exact k1 h
end
theorem mem_all5 {x : Str} {l : List Str} (h : ∀ x ∈ l, x.length ≤ 5) (hx : x ∈ l) : x.length ≤ 5 := h x hx
theorem lenPUB0 : (Str.ofString "PUBLIC").length = 6 := rfl
theorem lenSYS0 : (Str.ofString "SYSTEM").length = 6 := rfl
theorem keep1 {h₀ h : Heap} {L : Addr} {p : Addr × Obj} {news : Led} (N : News h₀ L h news) (hp : p ∈ news) : News h₀ L h [p] := cb_drop N (by intro x hx; simp only [List.mem_cons, List.not_mem_nil, or_false] at hx; subst hx; exact hp)
theorem keep2 {h₀ h : Heap} {L : Addr} {p q : Addr × Obj} {news : Led} (N : News h₀ L h news) (hp : p ∈ news) (hq : q ∈ news) : News h₀ L h [p, q] := cb_drop N (by intro x hx; simp only [List.mem_cons, List.not_mem_nil, or_false] at hx; rcases hx with rfl | rfl <;> assumption)
theorem add_bd {prog : Program} {w : World} {A : Around} {E : Value → Shared → Prop} {s : Shared} {x y : Str} {t u : Tok} {a b : Nat} {Q : Value → Shared → Prop} (hx : x.length ≤ a) (hy : y.length ≤ b) (hn : Nat.ble (a + b) 10000 = true) (h : (x ++ y).length ≤ a + b → ∀ t' k', Q (.str (x ++ y) t') { s with toks := k' }) : wpAny (model prog w) A (binaryOp .Add (.str x t) (.str y u)) Q E s := by
  have := Nat.le_of_ble_eq_true hn
  exact add_small (by omega) (by omega) (h (by rw [Str.length_append]; omega))
theorem q_len1 {q : Str} (h : q ∈ QUOTES) : q.length ≤ 1 := Nat.le_of_eq (q_is h).2.2
theorem len_pub : (Str.ofString "PUBLIC").length ≤ 6 := Nat.le_of_eq lenPUB0
theorem len_sys : (Str.ofString "SYSTEM").length ≤ 6 := Nat.le_of_eq lenSYS0
theorem len_nil : (Str.ofString "").length ≤ 0 := Nat.le_of_eq empty_len
theorem room_d {dp b : Nat} (h : dp ≤ 310 + 10 * 2) (hb : Nat.ble 331 (310 + 10 * b) = true) : dp + 1 ≤ 310 + 10 * b := Nat.le_trans (Nat.succ_le_succ h) (Nat.le_of_ble_eq_true hb)
theorem room_u {un b : Nat} (h : un ≤ 40 + 30 * 2) (hb : Nat.ble 103 (40 + 30 * b) = true) : un + 3 ≤ 40 + 30 * b := Nat.le_trans (Nat.add_le_add_right h 3) (Nat.le_of_ble_eq_true hb)
theorem room_c {un : Nat} (h : un ≤ 40 + 30 * 2) : un + 3 + 64 < cLine := Nat.lt_of_le_of_lt (Nat.add_le_add_right (Nat.add_le_add_right h 3) 64) (by decide)
theorem len_bd {prog : Program} {w : World} {A : Around} {E : Value → Shared → Prop} {s : Shared} {x : Str} {t : Tok} {a : Nat} {Q : Value → Shared → Prop} (hx : x.length ≤ a) (hn : Nat.ble a 10000 = true) (h : Q (.int x.length (s.toks + 1)) { s with toks := s.toks + 1 + 1 }) : wpAny (model prog w) A (call (.builtin "len") [.str x t]) Q E s := by
  have := Nat.le_of_ble_eq_true hn
  exact PyProof.Rows.len_str (by omega) h
end Mine
end
theorem Mine.resetYNames : True := by w_top off; k_with_none; exact trivial
section
open PySem PySem.Spec PySem.Calls PyProof.Rows PySem.W
namespace Mine
set_option maxRecDepth 100000
set_option maxHeartbeats 8000000
local macro_rules | `(tactic| k_all) => `(tactic| first | with_reducible assumption | with_reducible exact allNe_app (by assumption) (by assumption) | (with_reducible refine allNe_cons ?ka ?kb; (case ka => k_ne); (case kb => k_all)) | exact allNe_below (And.right (by assumption)) (by show @LE.le Nat _ _ _; omega))
section
variable (w : World) (mean : ExcName → Option Value) (mg mb : Str → Option Value) (rest : Led)
theorem s_names (c : Addr) (x y : Int) (t u : Tok) (hne : ∀ p ∈ rest, p.1 ≠ c) (hx : 0 ≤ x) (hy : 0 ≤ y) : SpecT w mean mg mb 2 345 [.ref c] ((c, srcObj x y t u) :: rest) (fun v l => v = .bool true) := by
  k_with_none
  (k_with "ktr_room" => first | ((try simp only [depth_under_make, depth_under_kw, depth_in1, depth_deeper, depth_caller, units_in1, units_deeper, Around.mark_units, units_caller]); (try dsimp only [around, aroundE]); (try simp only [recursionLimit, cLine]); omega) | (simp only [depth_under_make, depth_under_kw, depth_in1, depth_deeper, depth_caller, units_in1, units_deeper, Around.mark_units, units_caller] at *; dsimp only [around, aroundE] at *; (try simp only [recursionLimit, cLine] at *); omega))
  (k_with "exec Raise some none" => (k_here; k_dflt (refine' raise_made ?zqX ?zqq ?zqhh ?_; (case zqX => k_asm); (case zqq => kts_isx); (case zqhh => exact rfl); k_whole)))
  (k_with "call ref" => (k_here; (with_reducible show wpAny _ _ (call (Value.ref 122) _) _ _ _); k_dflt (refine' fault_in ?zqB ?zqF ?zqX ?zqN ?zqT ?zqf ?zqk ?zqd ?zqu ?_; (case zqf => first | exact rfl | assumption); (case zqB => k_asm); (case zqF => k_asm); (case zqX => k_asm); (case zqN => k_asm); (case zqT => k_asm); (case zqk => first | exact rfl | assumption); (case zqd => ktr_room); (case zqu => ktr_room); k_whole); intro e'Z dx'Z tu'Z h'Z tk'Z h1'Z h2'Z t1'Z t2'Z n'Z F'Z N'Z ne'Z; (try k_sweep)))
  (k_with "Thrown" => (k_here; k_dflt (refine' thrown_ ?zqF ?zqX ?zqN ?zqm ?_; (case zqF => k_asm); (case zqX => k_asm); (case zqN => k_asm); (case zqm => k_mem); k_whole)))
  (k_with "leaving ref" => (k_here; k_dflt (refine' raise_leaves ?zqK ?zqF ?zqN ?zqne ?zqc ?zqx ?zqd ?zqo ?_ ?zqk; (case zqF => assumption); (case zqN => assumption); (case zqK => assumption); (case zqne => assumption); (case zqc => exact rfl); (case zqx => exact rfl); (case zqd => exact rfl); (case zqo => exact rfl); (case zqk => exact rfl); k_whole); intro h'Z R'Z U'Z; (try dsimp only at R'Z U'Z ⊢)))
  (k_with "cell_enter" => (refine' code_def ?zqk1 ?zqk2 ?zqk3 ?zqk4 ?zqk5 ?zqkA ?zqkF ?zqkK ?zqk6 ?zqk7 ?zqk8 ?zqk9 ?zqkB ?_ ?zqc2 ?zqc3 ?zqc4 ?zqc5; (case zqkA => exact rfl); (case zqkF => first | exact rfl | assumption); (case zqkK => assumption); (case zqk1 => k_asm); (case zqk2 => k_asm); (case zqk3 => k_asm); (case zqk4 => k_asm); (case zqk5 => k_asm); (case zqk6 => k_is); (case zqk7 => k_is); (case zqk8 => ktr_room); (case zqk9 => first | exact BindsTo.of_eq rfl | exact binds_K (by k_in) rfl (by k_is) rfl rfl rfl); (case zqc5 => decide); (case zqkB => exact locs rfl); (case zqc2 => exact rfl); (case zqc3 => exact rfl); (case zqc4 => exact rfl); k_whole; intro g'Z L'Z h'Z FG'Z F'Z N'Z B'Z X'Z T'Z; (try dsimp only); (try k_lift B'Z); (try k_fold)))
  (k_with "leaving ref" => (k_here; k_dflt (refine' pass_leaves ?zqK ?zqF ?zqR ?zqU ?_; (case zqR => assumption); (case zqF => assumption); (case zqK => assumption); (case zqU => assumption); k_whole); intro h'Z R'Z U'Z; (try dsimp only at R'Z U'Z ⊢)))
  (k_with "tb_rel" => first | exact subSelf | exact subNil | (refine subCons ?zqa ?zqb; (case zqa => k_mem); (case zqb => tb_rel)) | (refine subInto ?_; tb_rel))
  (k_with "kts_go" => (refine' code_defS ?zqk1 ?zqk2 ?zqk3 ?zqk4 ?zqk5 ?zqXB ?zqTB ?zqD ?zqT0 ?zqkA ?zqk6 ?zqk7 ?zqk8 ?zqk9 ?zqkB ?_ ?zqcK ?zqc2 ?zqc3 ?zqc4 ?zqc5; (case zqkA => exact rfl); (case zqk2 => k_asm); (case zqk1 => k_asm); (case zqXB => assumption); (case zqTB => assumption); (case zqD => assumption); (case zqT0 => first | assumption | exact KtsTurn.refl); (case zqk3 => k_asm); (case zqk4 => k_asm); (case zqk5 => k_asm); (case zqk6 => k_is); (case zqk7 => k_is); (case zqk8 => ktr_room); (case zqk9 => first | exact BindsTo.of_eq rfl | exact binds_K (by k_in) rfl (by k_is) rfl rfl rfl | fail "kts_go: no rule for these arguments"); (case zqkB => exact locs rfl); (case zqcK => assumption); (case zqc2 => exact rfl); (case zqc3 => exact rfl); (case zqc4 => exact rfl); (case zqc5 => decide); k_whole; intro g'Z L'Z h'Z FG'Z F'Z N'Z B'Z X'Z T'Z D'Z; (try dsimp only); (try k_lift B'Z); (try k_fold)))
  (k_with "noteFrame ref" => (k_here; k_dflt (refine' caught_as ?zqR ?zqF ?zqK ?zqU ?zqXB ?zqTB ?zqD ?zqT0 ?zqex ?zqq ?_; (case zqR => assumption); (case zqF => assumption); (case zqK => assumption); (case zqU => assumption); (case zqXB => assumption); (case zqTB => assumption); (case zqD => assumption); (case zqT0 => first | assumption | exact KtsTurn.refl); (case zqq => kts_isx); (case zqex => k_is); k_whole); intro h'Z g'Z oeZ vsZ tk'Z T'Z F'Z hcZ hxZ hdZ N'Z K'Z X'Z P'Z D'Z; (try k_lift K'Z); (try k_sweep)))
  (k_with "execs cons" => (k_here; (with_reducible show wpAny _ _ _ _ _ (Shared.mk _ _ _ (_ + 1) _)); refine gen_toks (Nat.succ_le_succ (Nat.zero_le _)) ?_; intro tkZ htkZ))
  (k_with "execs nil" => (k_here; (with_reducible show wpAny _ _ _ _ _ (Shared.mk _ _ _ (_ + 1) _)); refine gen_toks (Nat.succ_le_succ (Nat.zero_le _)) ?_; intro tkZ htkZ))
  (k_with "binaryOp Add str str" => (k_here; (with_reducible show wpAny _ _ (binaryOp Operator.Add (Value.str _ _) (Value.str _ _)) _ _ _); k_dflt (refine' add_bd ?zqsx ?zqsy ?zqsn ?_; (case zqsx => (first | with_reducible assumption | exact len_pub | exact len_sys | exact len_nil)); (case zqsy => (first | with_reducible assumption | exact len_pub | exact len_sys | exact len_nil)); (case zqsn => exact rfl)); intro hbdZ t'Z k'Z))
  (k_with "exec If" => (k_here; with_reducible refine wpAny_If ?_))
  (k_with "ite" => (k_closed; with_reducible (first | refine ite_pos (by decide) ?_ | refine ite_neg (by decide) ?_)))
  (k_with "call builtin:len" => (k_here; (with_reducible show wpAny _ _ (call (Value.builtin _) [Value.str _ _]) _ _ _); (refine' len_bd ?zqhx ?zqhn ?_; (case zqhx => with_reducible assumption); (case zqhn => exact rfl))))
  (k_with "call ref" => (k_here; (with_reducible show wpAny _ _ (call (Value.ref 293) _) _ _ _); k_dflt (refine' Spec.useT (s_take _ _ _ _ [] _ _ _ _ _ _ _ ?zqp1 ?zqp2 ?zqp3 ?zqp4 ?zqp5) ?zqB ?zqF ?zqX ?zqN ?zqT ?zqf ?zqk ?zqd ?zqu ?_ ?zqexc; (case zqf => first | exact rfl | assumption); (case zqB => k_asm); (case zqF => k_asm); (case zqX => k_asm); (case zqN => first | exact keep1 (by assumption) (by k_mem) | exact keep2 (by assumption) (by k_mem) (by k_mem)); (case zqT => k_asm); (case zqk => first | exact rfl | assumption); (case zqd => exact room_d (by with_reducible assumption) rfl); (case zqu => exact room_u (by with_reducible assumption) rfl); (case zqp1 => k_all); (case zqp2 => assumption); (case zqp3 => assumption); (case zqp4 => omega); (case zqp5 => omega); (case zqexc => (intro kZ hEZ; exact hEZ.elim)); (intro vZ lZ h'Z tk'Z hleZ hRZ F'Z N'Z; (try dsimp only at hleZ); (try dsimp only at hRZ); obtain ⟨_, _, _, _, _, _, e1Z, ⟨hr0Z, hr1Z⟩, ⟨ha0Z, hb0Z⟩, e2Z⟩ := hRZ; subst e1Z; subst e2Z; (try k_sweep); (try dsimp only)))))
  (k_with "call ref" => (k_here; (with_reducible show wpAny _ _ (call (Value.ref 300) _) _ _ _); k_dflt (refine' Spec.useT (s_one _ _ _ _ [] _ _ _ _ _ _ _ _ ?zqp1 ?zqp2 ?zqp3 ?zqp4 ?zqp5) ?zqB ?zqF ?zqX ?zqN ?zqT ?zqf ?zqk ?zqd ?zqu ?_ ?zqexc; (case zqf => first | exact rfl | assumption); (case zqB => k_asm); (case zqF => k_asm); (case zqX => k_asm); (case zqN => first | exact keep1 (by assumption) (by k_mem) | exact keep2 (by assumption) (by k_mem) (by k_mem)); (case zqT => k_asm); (case zqk => first | exact rfl | assumption); (case zqd => exact room_d (by with_reducible assumption) rfl); (case zqu => exact room_u (by with_reducible assumption) rfl); (case zqp1 => k_all); (case zqp2 => assumption); (case zqp3 => assumption); (case zqp4 => exact Nat.le_of_ble_eq_true rfl); (case zqp5 => exact Nat.le_of_ble_eq_true rfl); (case zqexc => (intro kZ hEZ; exact hEZ.elim)); (intro vZ lZ h'Z tk'Z hleZ hRZ F'Z N'Z; (try dsimp only at hleZ); (try dsimp only at hRZ); obtain ⟨hvZ, _, _, _, _, ⟨ha0Z, hb0Z⟩, e2Z⟩ := hRZ; subst e2Z; (first | (obtain ⟨xvZ, tvZ, evZ, hvxZ⟩ := strs_mem (by repeat constructor) hvZ; subst evZ; (have hvlZ : PySem.Str.length xvZ ≤ 5 := by first | exact mem_small (n := 5) (by decide +kernel) hvxZ | exact mem_all5 (by (repeat (refine List.forall_mem_cons.mpr ⟨by first | decide | omega, ?_⟩)); exact List.forall_mem_nil _) hvxZ)) | (obtain ⟨_, _, evZ, hvxZ⟩ := ints_mem (by repeat constructor) hvZ; subst evZ)); (try k_sweep); (try dsimp only)))))
  (k_with "call ref" => (k_here; (with_reducible show wpAny _ _ (call (Value.ref 333) _) _ _ _); k_dflt (refine' Spec.useT (s_lpub _ _ _ _ [] _ _ _ _ _ _ _ ?zqp0 ?zqp1 ?zqp2 ?zqp3) ?zqB ?zqF ?zqX ?zqN ?zqT ?zqf ?zqk ?zqd ?zqu ?_ ?zqexc; (case zqf => first | exact rfl | assumption); (case zqB => k_asm); (case zqF => k_asm); (case zqX => k_asm); (case zqN => first | exact keep1 (by assumption) (by k_mem) | exact keep2 (by assumption) (by k_mem) (by k_mem)); (case zqT => k_asm); (case zqk => first | exact rfl | assumption); (case zqd => exact room_d (by with_reducible assumption) rfl); (case zqu => exact room_u (by with_reducible assumption) rfl); (case zqp0 => assumption); (case zqp1 => k_all); (case zqp2 => assumption); (case zqp3 => assumption); (case zqexc => (intro kZ hEZ; exact hEZ.elim)); (intro vZ lZ h'Z tk'Z hleZ hRZ F'Z N'Z; (try dsimp only at hleZ); (try dsimp only at hRZ); obtain ⟨_, _, _, _, _, _, hPZ, ⟨ha0Z, hb0Z⟩, e1Z, hltZ, e2Z⟩ := hRZ; subst e1Z; subst e2Z; (obtain ⟨rawZ, _, nmZ, odZ, hrlZ, eoZ, hPZ⟩ := pub_open2 hPZ; (try simp only [AllLt] at hltZ); subst eoZ); (try k_sweep); (try dsimp only)))))
  (k_with "call ref" => (k_here; (with_reducible show wpAny _ _ (call (Value.ref 338) _) _ _ _); k_dflt (refine' Spec.useT (s_lsys _ _ _ _ [] _ _ _ _ _ _ _ ?zqp0 ?zqp1 ?zqp2 ?zqp3) ?zqB ?zqF ?zqX ?zqN ?zqT ?zqf ?zqk ?zqd ?zqu ?_ ?zqexc; (case zqf => first | exact rfl | assumption); (case zqB => k_asm); (case zqF => k_asm); (case zqX => k_asm); (case zqN => first | exact keep1 (by assumption) (by k_mem) | exact keep2 (by assumption) (by k_mem) (by k_mem)); (case zqT => k_asm); (case zqk => first | exact rfl | assumption); (case zqd => exact room_d (by with_reducible assumption) rfl); (case zqu => exact room_u (by with_reducible assumption) rfl); (case zqp0 => assumption); (case zqp1 => k_all); (case zqp2 => assumption); (case zqp3 => assumption); (case zqexc => (intro kZ hEZ; exact hEZ.elim)); (intro vZ lZ h'Z tk'Z hleZ hRZ F'Z N'Z; (try dsimp only at hleZ); (try dsimp only at hRZ); obtain ⟨_, _, _, _, _, _, hPZ, ⟨ha0Z, hb0Z⟩, e1Z, hltZ, e2Z⟩ := hRZ; subst e1Z; subst e2Z; (obtain ⟨plainZ, _, wrZ, hplZ, eoZ, hSZ⟩ := sys_open2 hPZ; (try simp only [AllLt] at hltZ); subst eoZ); (try k_sweep); (try dsimp only)))))
  (k_with "call ref" => (k_here; (with_reducible show wpAny _ _ (call (Value.ref 307) [Value.str _ _, Value.int _ _, Value.str (Str.ofString "outer") _]) _ _ _); k_dflt (refine' SpecT.use (HSys.use ?zqhv _ _ _ _ _ _ _ _) ?zqB ?zqF ?zqX ?zqN ?zqT ?zqXB ?zqTB ?zqD ?zqT0 ?zqk ?zqd ?zqu ?_; (case zqhv => with_reducible exact o_sys_ok (by assumption) (by assumption) (by assumption) (gap_is (by assumption)) (by assumption) rfl); (case zqB => k_asm); (case zqF => k_asm); (case zqX => k_asm); (case zqN => k_asm); (case zqT => k_asm); (case zqXB => assumption); (case zqTB => assumption); (case zqD => assumption); (case zqT0 => first | assumption | exact KtsTurn.refl); (case zqk => first | exact rfl | assumption); (case zqd => exact room_d (by with_reducible assumption) rfl); (case zqu => exact room_u (by with_reducible assumption) rfl); (intro vZ lZ h'Z tk'Z g'Z T'Z hRZ F'Z N'Z B'Z X'Z P'Z D'Z; (try k_lift B'Z); obtain ⟨_, _, _, _, e1Z, hl0Z, hltZ, hl2Z, e2Z⟩ := hRZ; subst e1Z; subst e2Z; (try simp only [AllLt] at hltZ); (try simp only [AllLt] at hl2Z); (try k_sweep); (try dsimp only)))))
  (k_with "call ref" => (k_here; (with_reducible show wpAny _ _ (call (Value.ref 307) [Value.str _ _, Value.int _ _, Value.str (Str.ofString "outer") _]) _ _ _); k_dflt (refine' SpecT.use (HPub.use ?zqhv _ _ _ _ _ _ _ _) ?zqB ?zqF ?zqX ?zqN ?zqT ?zqXB ?zqTB ?zqD ?zqT0 ?zqk ?zqd ?zqu ?_; (case zqhv => with_reducible exact o_pub_ok (by assumption) (by assumption) (by assumption) (by assumption) (gap_is (by assumption)) (by assumption) (by assumption) (by assumption) rfl); (case zqB => k_asm); (case zqF => k_asm); (case zqX => k_asm); (case zqN => k_asm); (case zqT => k_asm); (case zqXB => assumption); (case zqTB => assumption); (case zqD => assumption); (case zqT0 => first | assumption | exact KtsTurn.refl); (case zqk => first | exact rfl | assumption); (case zqd => exact room_d (by with_reducible assumption) rfl); (case zqu => exact room_u (by with_reducible assumption) rfl); (intro vZ lZ h'Z tk'Z g'Z T'Z hRZ F'Z N'Z B'Z X'Z P'Z D'Z; (try k_lift B'Z); obtain ⟨_, _, _, _, _, e1Z, hl0Z, hltZ, hl2Z, e2Z⟩ := hRZ; subst e1Z; subst e2Z; (try simp only [AllLt] at hltZ); (try simp only [AllLt] at hl2Z); (try k_sweep); (try dsimp only)))))
  (k_with "call ref" => (k_here; (with_reducible show wpAny _ _ (call (Value.ref 307) [Value.str _ _, Value.int _ _, Value.str (Str.ofString "public") _]) _ _ _); k_dflt (refine' SpecT.use (HTxt.use ?zqhv _ _ _ _ _ _ _ _) ?zqB ?zqF ?zqX ?zqN ?zqT ?zqXB ?zqTB ?zqD ?zqT0 ?zqk ?zqd ?zqu ?_; (case zqhv => with_reducible exact dueP_at (by assumption) (by assumption)); (case zqB => k_asm); (case zqF => k_asm); (case zqX => k_asm); (case zqN => k_asm); (case zqT => k_asm); (case zqXB => assumption); (case zqTB => assumption); (case zqD => assumption); (case zqT0 => first | assumption | exact KtsTurn.refl); (case zqk => first | exact rfl | assumption); (case zqd => exact room_d (by with_reducible assumption) rfl); (case zqu => exact room_u (by with_reducible assumption) rfl); (intro vZ lZ h'Z tk'Z g'Z T'Z hRZ F'Z N'Z B'Z X'Z P'Z D'Z; (try k_lift B'Z); obtain ⟨_, _, _, e1Z, hltZ, e2Z⟩ := hRZ; subst e1Z; subst e2Z; (try simp only [AllLt] at hltZ); (try simp only [AllLt] at hl2); (try k_sweep); (try dsimp only)))))
  (k_with "call ref" => (k_here; (with_reducible show wpAny _ _ (call (Value.ref 307) [Value.str _ _, Value.int _ _, Value.str (Str.ofString "system") _]) _ _ _); k_dflt (refine' SpecT.use (HTxt.use ?zqhv _ _ _ _ _ _ _ _) ?zqB ?zqF ?zqX ?zqN ?zqT ?zqXB ?zqTB ?zqD ?zqT0 ?zqk ?zqd ?zqu ?_; (case zqhv => with_reducible exact dueS_at (by assumption) (by assumption)); (case zqB => k_asm); (case zqF => k_asm); (case zqX => k_asm); (case zqN => k_asm); (case zqT => k_asm); (case zqXB => assumption); (case zqTB => assumption); (case zqD => assumption); (case zqT0 => first | assumption | exact KtsTurn.refl); (case zqk => first | exact rfl | assumption); (case zqd => exact room_d (by with_reducible assumption) rfl); (case zqu => exact room_u (by with_reducible assumption) rfl); (intro vZ lZ h'Z tk'Z g'Z T'Z hRZ F'Z N'Z B'Z X'Z P'Z D'Z; (try k_lift B'Z); obtain ⟨_, _, _, e1Z, hltZ, e2Z⟩ := hRZ; subst e1Z; subst e2Z; (try simp only [AllLt] at hltZ); (try simp only [AllLt] at hl2); (try k_sweep); (try dsimp only)))))
  (k_with "call ref" => (k_here; (with_reducible show wpAny _ _ (call (Value.ref 307) [Value.str _ _, Value.int _ _, Value.str (Str.ofString "outer") _]) _ _ _); k_dflt (refine' SpecT.use (HTxt.use ?zqhv _ _ _ _ _ _ _ _) ?zqB ?zqF ?zqX ?zqN ?zqT ?zqXB ?zqTB ?zqD ?zqT0 ?zqk ?zqd ?zqu ?_; (case zqhv => (first | with_reducible exact o_sys_odd (by assumption) (by assumption) (by assumption) (gap_is (by assumption)) (by assumption) rfl | with_reducible exact o_pub_odd (by assumption) (by assumption) (by assumption) (by assumption) (gap_is (by assumption)) (by assumption) (by assumption) (by assumption) rfl | with_reducible exact o_pub_gap (by assumption) (by assumption) (by assumption) (by assumption) (gap_is (by assumption)) (by assumption) (by assumption) rfl | with_reducible exact o_pub_late (by assumption) (by assumption) (by assumption) (by assumption) (gap_is (by assumption)) (by assumption) (by assumption) (by assumption) rfl)); (case zqB => k_asm); (case zqF => k_asm); (case zqX => k_asm); (case zqN => k_asm); (case zqT => k_asm); (case zqXB => assumption); (case zqTB => assumption); (case zqD => assumption); (case zqT0 => first | assumption | exact KtsTurn.refl); (case zqk => first | exact rfl | assumption); (case zqd => exact room_d (by with_reducible assumption) rfl); (case zqu => exact room_u (by with_reducible assumption) rfl); (intro vZ lZ h'Z tk'Z g'Z T'Z hRZ F'Z N'Z B'Z X'Z P'Z D'Z; (try k_lift B'Z); obtain ⟨_, _, _, e1Z, hltZ, e2Z⟩ := hRZ; subst e1Z; subst e2Z; (try simp only [AllLt] at hltZ); (try simp only [AllLt] at hl2); (try k_sweep); (try dsimp only)))))
  (k_with "compareOp NotEq ref ref" => (k_here; (with_reducible show wpAny _ _ (compareOp CmpOp.NotEq (Value.ref _) (Value.ref _)) _ _ _); k_dflt (refine' ne_text2 ?zqN ?zqa ?zqb ?zqu ?zqx ?zqk ?_; (case zqN => k_asm); (case zqa => k_mem); (case zqb => k_mem); (case zqu => exact room_c (by with_reducible assumption)); (case zqx => with_reducible rfl); (case zqk => first | with_reducible rfl | omega | (simp only [Str.length_append]; omega)); k_whole)))
  (k_with "compareOp Eq ref ref" => (k_here; (with_reducible show wpAny _ _ (compareOp CmpOp.Eq (Value.ref _) (Value.ref _)) _ _ _); k_dflt (first | (refine' eq_text2 ?zqN ?zqa ?zqb ?zqu ?zqx ?zqk ?_; (case zqN => k_asm); (case zqa => k_mem); (case zqb => k_mem); (case zqu => exact room_c (by with_reducible assumption)); (case zqx => with_reducible rfl); (case zqk => first | with_reducible rfl | omega | (simp only [Str.length_append]; omega))) | (refine' eq_deep2 ?zqN ?zqa ?zqb ?zqa2 ?zqb2 ?zqne ?zqe1 ?zqe2 ?zqu ?zqk ?_; (case zqN => k_asm); (case zqa => k_mem); (case zqb => k_mem); (case zqa2 => k_mem); (case zqb2 => k_mem); (case zqne => first | omega | k_ne); (case zqe1 => first | exact SameV.str | exact .inl rfl); (case zqe2 => first | exact SameV.str | exact .inl rfl); (case zqu => exact room_c (by with_reducible assumption)); (case zqk => first | with_reducible rfl | omega | (simp only [Str.length_append]; omega)))); k_whole))
  (k_with "compareOp Eq str str" => (k_here; (with_reducible show wpAny _ _ (compareOp CmpOp.Eq (Value.str _ _) (Value.str (Str.ofString "") _)) _ _ _); k_dflt (refine' eq_mid ?zqm ?_ ?_; (case zqm => assumption); k_whole) <;> (intro hmidZ; (try subst hmidZ))))
  (k_with "CutP" => (k_here; (with_reducible show CutP _ _ _ _ _ _ _ _); k_dflt (refine' cut_end ?zqF ?zqN ?zql ?zqt ?zqr; (case zqF => k_asm); (case zqN => k_asm); (case zql => first | assumption | ((simp only [AllLt, and_true]); assumption)); (case zqt => omega); (case zqr => first | exact dueP_ok (by assumption) (by assumption) (by assumption) (by first | with_reducible rfl | omega) | exact dueP_odd (by assumption) (by assumption) (by assumption) (by first | with_reducible rfl | omega) | exact dueS_ok (by assumption) (by assumption) (by assumption) (by first | with_reducible rfl | omega) | exact dueS_odd (by assumption) (by assumption) (by assumption) (by first | with_reducible rfl | omega)))))
  (k_with "eval IfExp" => (k_here; (with_reducible show wpAny _ _ (eval (Expr.IfExp (Expr.Compare (Expr.Name (Str.ofString "odd") _) _ _ _) _ _ _) _) (fun v s₁ => wpAny _ _ (storeName _ _ _) _ _ _) _ _); k_dflt (refine' cut_due ?zqhq ?zqhA ?zqF ?zqN ?zqhl ?zqhP ?_ ?_ ?_; (case zqhP => assumption); (case zqhq => assumption); (case zqhA => assumption); (case zqF => k_asm); (case zqN => k_asm); (case zqhl => assumption); k_whole); rotate_left 2; (intro dxZ dkZ qdZ dtZ duZ h'Z tk'Z hDZ hltZ htkZ F'Z N'Z; (try simp only [AllLt] at hltZ); (try k_sweep)); rotate_right 1; (intro XZ t2Z e1Z e2Z hRPZ; subst e1Z; subst e2Z); rotate_right 1; (intro iZ t2Z h0Z h1Z e1Z e2Z hRPZ; subst e1Z; subst e2Z)))
  (k_with "eval IfExp" => (k_here; (with_reducible show wpAny _ _ (eval (Expr.IfExp (Expr.Compare (Expr.Name (Str.ofString "wrong") _) _ _ _) _ _ _) _) (fun v s₁ => wpAny _ _ (storeName _ _ _) _ _ _) _ _); k_dflt (refine' cut_late ?zqhq ?zqhA ?zqF ?zqN ?zqhl ?zqhP ?_ ?_ ?_; (case zqhP => assumption); (case zqhq => assumption); (case zqhA => assumption); (case zqF => k_asm); (case zqN => k_asm); (case zqhl => assumption); k_whole); rotate_left 2; (intro dxZ dkZ qdZ dtZ duZ h'Z tk'Z hDZ hltZ htkZ F'Z N'Z; (try simp only [AllLt] at hltZ); (try k_sweep)); rotate_right 1; (intro e2Z hRSZ; subst e2Z); rotate_right 1; (intro iZ t2Z h0Z h1Z e2Z hRSZ; subst e2Z)))
  (k_with "compareOp IsNot" => (k_here; (with_reducible show wpAny _ _ (compareOp CmpOp.IsNot _ Value.none) _ _ _); k_dflt (first | (refine' isNot_P ?zqhq ?zqhl ?zqhP ?_ ?_; (case zqhP => with_reducible assumption); (case zqhq => assumption); (case zqhl => assumption); rotate_left 1; (intro XZ t2Z e1Z e2Z hRPZ; (rename RawP _ _ _ _ => hP0Z); clear hP0Z; subst e1Z; subst e2Z); rotate_right 1; (intro iZ t2Z h0Z h1Z e1Z e2Z hRPZ; (rename RawP _ _ _ _ => hP0Z); clear hP0Z; subst e1Z; subst e2Z)) | (refine' isNot_S ?zqhq ?zqhl ?zqhP ?_ ?_; (case zqhP => with_reducible assumption); (case zqhq => assumption); (case zqhl => assumption); rotate_left 1; (intro e2Z hRSZ; (rename RawS _ _ _ => hP0Z); clear hP0Z; subst e2Z); rotate_right 1; (intro iZ t2Z h0Z h1Z e2Z hRSZ; (rename RawS _ _ _ => hP0Z); clear hP0Z; subst e2Z)))))
  unfold SpecT
  k_fill
  intro dp un gd cn cs a ccd outer A₀ base g₀ h₀ L m s Q E B F X N TP XB TB D T0 hk hdp hun hret
  refine wpAny_call ?_
  k_dflt kts_go
  k_steps
  all_goals (
    refine' hret _ _ _ _ _ ?T1 rfl ?F1 ?N1 ?B1 ?X1 ?P1 ?D1
    (case F1 => assumption)
    (case T1 => assumption)
    (case N1 => assumption)
    (case B1 => assumption)
    (case X1 => assumption)
    (case P1 => assumption)
    (case D1 => assumption))
end
end Mine
end
section
open PySem PySem.Spec PySem.Calls PyProof.Rows PySem.W
namespace Mine
theorem keep_back {h₀ h₁ h' : Heap} {L : Addr} {m : Str → Option Value} (T : KtsTurn [] h₀ h₁) (F : Fr h₁ L h' m) : Fr h₀ L h' m :=
  ⟨F.ns, fun b o e => F.keep b o (T.other b o e (fun x => nomatch x)), T.size ▸ F.above⟩
theorem news_back {h₀ h₁ h' : Heap} {L : Addr} {news : Led} (T : KtsTurn [] h₀ h₁) (N : News h₁ L h' news) : News h₀ L h' news := fun p hp => by
  obtain ⟨h1, h2, h3⟩ := N p hp
  refine ⟨h1, h2, ?_⟩
  cases e : h₀.get? p.1 with
  | none => rfl
  | some o => rw [T.other _ _ e (fun x => nomatch x)] at h3; cases h3
theorem SpecT.use0 {w : World} {mean : ExcName → Option Value} {mg mb : Str → Option Value} {lv : Nat} {f : Addr} {vs : List Value} {news : Led} {Ret : Value → Led → Prop} (S : SpecT w mean mg mb lv f vs news Ret)
    {dp un : Nat} {gd : Option (List Code)} {cn : Str} {cs : Scope} {a : Addr} {ccd : Value} {A₀ : Around} {h₀ : Heap} {L : Addr} {m : Str → Option Value} {s : Shared} {Q E : Value → Shared → Prop}
    (B : Below A₀ h₀ [] h₀) (F : Fr h₀ L s.heap m) (X : (hd.heap_1 w.params).In h₀) (N : News h₀ L s.heap news) (T : Top viewQ (looseW viewQ [Str.ofString "SyntaxFault"]) mean mg mb h₀)
    (hk : cs.kind = .function) (hdp : dp ≤ 310 + 10 * lv) (hun : un ≤ 40 + 30 * lv)
    (ret : ∀ v news' h' tk', Ret v news' → Fr h₀ L h' m → News h₀ L h' news' → Q v { s with heap := h', toks := tk' }) :
    wpAny (model PySem.Challenge.rw_xw0204_01.row.prog w) (around dp un gd cn cs L a ccd []) (call (.ref f) vs) Q E s := by
  refine S.use (g₀ := h₀) B F X N T X T ktsDicts_nil KtsTurn.refl hk hdp hun ?_
  intro v l h' tk' g hT hR F' N' _ _ _ _
  exact ret v l h' tk' hR (keep_back hT F') (news_back hT N')
theorem callerA_around (cn : Str) (cs : Scope) (L a : Addr) (ccd : Value) : callerA.deeper (envOf cn cs L a ccd) = around 302 7 (some []) cn cs L a ccd [] := rfl
theorem below_at {A : Around} {p : Program} {loose : List Str} {mean : ExcName → Option Value} {mg mb : Str → Option Value} {h : Heap} {T : Top p loose mean mg mb h} (B : Below A T.heap [] T.heap) : Below A h [] h := B
end Mine
end
theorem Mine.resetYLaw1 : True := by w_top off; k_with_none; exact trivial
section
open PySem PySem.Spec PySem.Calls PyProof.Rows PySem.W
namespace Mine
local macro_rules | `(tactic| k_qdec) => `(tactic| decide +kernel)
set_option maxRecDepth 100000
set_option maxHeartbeats 8000000
local macro_rules | `(tactic| k_all) => `(tactic| first | with_reducible assumption | with_reducible exact allNe_app (by assumption) (by assumption) | (with_reducible refine allNe_cons ?ka ?kb; (case ka => k_ne); (case kb => k_all)) | exact allNe_below (And.right (by assumption)) (by show @LE.le Nat _ _ _; omega))
theorem told_word {word : Str} (h : word ∈ [Str.ofString "public 'p'", Str.ofString "system 's'", Str.ofString "NDATA n", Str.ofString ">", Str.ofString "SYS"]) : HNo (Str.ofString "y" ++ word) 1 (Str.ofString "outer") 1 := by
  simp only [List.mem_cons, List.not_mem_nil, or_false] at h
  rcases h with rfl | rfl | rfl | rfl | rfl
  · exact h_outN (by omega) (by decide +kernel) (by decide +kernel) (by kernel_rfl)
  · exact h_outN (by omega) (by decide +kernel) (by decide +kernel) (by kernel_rfl)
  · exact h_outN (by omega) (by decide +kernel) (by decide +kernel) (by kernel_rfl)
  · exact h_outN (by omega) (by decide +kernel) (by decide +kernel) (by kernel_rfl)
  · exact h_outN (by omega) (by decide +kernel) (by decide +kernel) (by kernel_rfl)
theorem word_len {word : Str} (h : word ∈ [Str.ofString "public 'p'", Str.ofString "system 's'", Str.ofString "NDATA n", Str.ofString ">", Str.ofString "SYS"]) : word.length ≤ 10 := mem_small (n := 10) (by decide +kernel) h
theorem lenY : (Str.ofString "y").length = 1 := by decide +kernel
theorem great_nn (n : Int) : 0 ≤ (if -1 - n > n then -1 - n else n) := by split <;> omega
theorem bit_nn {p : Prop} [Decidable p] : (0 : Int) ≤ (if p then 1 else 0) := by split <;> omega
theorem src_gen {h₀ h : Heap} {L q c : Addr} {ol : Obj} {g b Y : Int} {t u : Tok} (N : News h₀ L h [(q, ol), (c, srcObj (g * b) (Y.fmod 2147483647) t u)]) (hg : 0 ≤ g) (hb : 0 ≤ b) : ∃ x y, 0 ≤ x ∧ 0 ≤ y ∧ News h₀ L h [(q, ol), (c, srcObj x y t u)] :=
  ⟨_, _, Int.mul_nonneg hg hb, Int.fmod_nonneg_of_pos _ (by decide), N⟩
theorem law_holds : PySem.Challenge.rw_xw0204_01.Holds := hd (by
  k_with_none
  (k_with "ktr_room" => first | ((try simp only [depth_under_make, depth_under_kw, depth_in1, depth_deeper, depth_caller, units_in1, units_deeper, Around.mark_units, units_caller]); (try dsimp only [around, aroundE]); (try simp only [recursionLimit, cLine]); omega) | (simp only [depth_under_make, depth_under_kw, depth_in1, depth_deeper, depth_caller, units_in1, units_deeper, Around.mark_units, units_caller] at *; dsimp only [around, aroundE] at *; (try simp only [recursionLimit, cLine] at *); omega))
  (k_with "exec Raise some none" => (k_here; k_dflt (refine' raise_made ?zqX ?zqq ?zqhh ?_; (case zqX => k_asm); (case zqq => kts_isx); (case zqhh => exact rfl); k_whole)))
  (k_with "call ref" => (k_here; (with_reducible show wpAny _ _ (call (Value.ref 122) _) _ _ _); k_dflt (refine' fault_in ?zqB ?zqF ?zqX ?zqN ?zqT ?zqf ?zqk ?zqd ?zqu ?_; (case zqf => first | exact rfl | assumption); (case zqB => k_asm); (case zqF => k_asm); (case zqX => k_asm); (case zqN => k_asm); (case zqT => k_asm); (case zqk => first | exact rfl | assumption); (case zqd => ktr_room); (case zqu => ktr_room); k_whole); intro e'Z dx'Z tu'Z h'Z tk'Z h1'Z h2'Z t1'Z t2'Z n'Z F'Z N'Z ne'Z; (try k_sweep)))
  (k_with "Thrown" => (k_here; k_dflt (refine' thrown_ ?zqF ?zqX ?zqN ?zqm ?_; (case zqF => k_asm); (case zqX => k_asm); (case zqN => k_asm); (case zqm => k_mem); k_whole)))
  (k_with "leaving ref" => (k_here; k_dflt (refine' raise_leaves ?zqK ?zqF ?zqN ?zqne ?zqc ?zqx ?zqd ?zqo ?_ ?zqk; (case zqF => assumption); (case zqN => assumption); (case zqK => assumption); (case zqne => assumption); (case zqc => exact rfl); (case zqx => exact rfl); (case zqd => exact rfl); (case zqo => exact rfl); (case zqk => exact rfl); k_whole); intro h'Z R'Z U'Z; (try dsimp only at R'Z U'Z ⊢)))
  (k_with "cell_enter" => (refine' code_def ?zqk1 ?zqk2 ?zqk3 ?zqk4 ?zqk5 ?zqkA ?zqkF ?zqkK ?zqk6 ?zqk7 ?zqk8 ?zqk9 ?zqkB ?_ ?zqc2 ?zqc3 ?zqc4 ?zqc5; (case zqkA => exact rfl); (case zqkF => first | exact rfl | assumption); (case zqkK => assumption); (case zqk1 => k_asm); (case zqk2 => k_asm); (case zqk3 => k_asm); (case zqk4 => k_asm); (case zqk5 => k_asm); (case zqk6 => k_is); (case zqk7 => k_is); (case zqk8 => ktr_room); (case zqk9 => first | exact BindsTo.of_eq rfl | exact binds_K (by k_in) rfl (by k_is) rfl rfl rfl); (case zqc5 => decide); (case zqkB => exact locs rfl); (case zqc2 => exact rfl); (case zqc3 => exact rfl); (case zqc4 => exact rfl); k_whole; intro g'Z L'Z h'Z FG'Z F'Z N'Z B'Z X'Z T'Z; (try dsimp only); (try k_lift B'Z); (try k_fold)))
  (k_with "leaving ref" => (k_here; k_dflt (refine' pass_leaves ?zqK ?zqF ?zqR ?zqU ?_; (case zqR => assumption); (case zqF => assumption); (case zqK => assumption); (case zqU => assumption); k_whole); intro h'Z R'Z U'Z; (try dsimp only at R'Z U'Z ⊢)))
  (k_with "tb_rel" => first | exact subSelf | exact subNil | (refine subCons ?zqa ?zqb; (case zqa => k_mem); (case zqb => tb_rel)) | (refine subInto ?_; tb_rel))
  (k_with "kts_go" => (refine' code_defS ?zqk1 ?zqk2 ?zqk3 ?zqk4 ?zqk5 ?zqXB ?zqTB ?zqD ?zqT0 ?zqkA ?zqk6 ?zqk7 ?zqk8 ?zqk9 ?zqkB ?_ ?zqcK ?zqc2 ?zqc3 ?zqc4 ?zqc5; (case zqkA => exact rfl); (case zqk2 => k_asm); (case zqk1 => k_asm); (case zqXB => assumption); (case zqTB => assumption); (case zqD => assumption); (case zqT0 => first | assumption | exact KtsTurn.refl); (case zqk3 => k_asm); (case zqk4 => k_asm); (case zqk5 => k_asm); (case zqk6 => k_is); (case zqk7 => k_is); (case zqk8 => ktr_room); (case zqk9 => first | exact BindsTo.of_eq rfl | exact binds_K (by k_in) rfl (by k_is) rfl rfl rfl | fail "kts_go: no rule for these arguments"); (case zqkB => exact locs rfl); (case zqcK => assumption); (case zqc2 => exact rfl); (case zqc3 => exact rfl); (case zqc4 => exact rfl); (case zqc5 => decide); k_whole; intro g'Z L'Z h'Z FG'Z F'Z N'Z B'Z X'Z T'Z D'Z; (try dsimp only); (try k_lift B'Z); (try k_fold)))
  (k_with "noteFrame ref" => (k_here; k_dflt (refine' caught_as ?zqR ?zqF ?zqK ?zqU ?zqXB ?zqTB ?zqD ?zqT0 ?zqex ?zqq ?_; (case zqR => assumption); (case zqF => assumption); (case zqK => assumption); (case zqU => assumption); (case zqXB => assumption); (case zqTB => assumption); (case zqD => assumption); (case zqT0 => first | assumption | exact KtsTurn.refl); (case zqq => kts_isx); (case zqex => k_is); k_whole); intro h'Z g'Z oeZ vsZ tk'Z T'Z F'Z hcZ hxZ hdZ N'Z K'Z X'Z P'Z D'Z; (try k_lift K'Z); (try k_sweep)))
  (k_with "execs cons" => (k_here; (with_reducible show wpAny _ _ _ _ _ (Shared.mk _ _ _ (_ + 1) _)); refine gen_toks (Nat.succ_le_succ (Nat.zero_le _)) ?_; intro tkZ htkZ))
  (k_with "execs nil" => (k_here; (with_reducible show wpAny _ _ _ _ _ (Shared.mk _ _ _ (_ + 1) _)); refine gen_toks (Nat.succ_le_succ (Nat.zero_le _)) ?_; intro tkZ htkZ))
  (k_with "binaryOp Add str str" => (k_here; (with_reducible show wpAny _ _ (binaryOp Operator.Add (Value.str _ _) (Value.str _ _)) _ _ _); (refine' add_small ?zqsx ?zqsy ?_; (case zqsx => (simp only [Str.length_append, lenPUB0, lenSYS0]; omega)); (case zqsy => (simp only [Str.length_append, lenPUB0, lenSYS0]; omega))); intro t'Z k'Z))
  (k_with "call ref" => (k_here; (with_reducible show wpAny _ _ (call (Value.ref 300) _) _ _ _); refine halt ?_))
  (k_with "call ref" => (k_here; (with_reducible show wpAny _ _ (call (Value.ref 300) _) _ _ _); k_dflt (refine' Spec.useT (s_one _ _ _ _ [] _ _ _ _ _ _ _ _ ?zqp1 ?zqp2 ?zqp3 ?zqp4 ?zqp5) ?zqB ?zqF ?zqX ?zqN ?zqT ?zqf ?zqk ?zqd ?zqu ?_ ?zqexc; (case zqf => first | exact rfl | assumption); (case zqB => k_asm); (case zqF => k_asm); (case zqX => k_asm); (case zqN => first | exact keep1 (by assumption) (by k_mem) | exact keep2 (by assumption) (by k_mem) (by k_mem)); (case zqT => k_asm); (case zqk => first | exact rfl | assumption); (case zqd => ktr_room); (case zqu => ktr_room); (case zqp1 => k_all); (case zqp2 => with_reducible assumption); (case zqp3 => with_reducible assumption); (case zqp4 => exact Nat.le_of_ble_eq_true rfl); (case zqp5 => exact Nat.le_of_ble_eq_true rfl); (case zqexc => (intro kZ hEZ; exact hEZ.elim)); (intro vZ lZ h'Z tk'Z hleZ hRZ F'Z N'Z; (try dsimp only at hleZ); (try dsimp only at hRZ); obtain ⟨hvZ, _, _, _, _, ⟨ha0Z, hb0Z⟩, e2Z⟩ := hRZ; subst e2Z; ((obtain ⟨xvZ, tvZ, evZ, hvxZ⟩ := strs_mem (by repeat constructor) hvZ; subst evZ; (have hvlZ := word_len hvxZ))); (try k_sweep); (try dsimp only)))))
  (k_with "call ref" => (k_here; (with_reducible show wpAny _ _ (call (Value.ref 314) _) _ _ _); k_dflt (refine' SpecT.use0 (s_told _ _ _ _ _) ?zqB ?zqF ?zqX ?zqN ?zqT ?zqk ?zqd ?zqu ?_; (case zqB => first | with_reducible assumption | assumption); (case zqF => k_asm); (case zqX => k_asm); (case zqN => first | with_reducible assumption); (case zqT => k_asm); (case zqk => exact rfl); (case zqd => exact Nat.le_of_ble_eq_true rfl); (case zqu => exact Nat.le_of_ble_eq_true rfl); (intro vZ lZ h'Z tk'Z hRZ F'Z N'Z; (try dsimp only at hRZ); obtain ⟨e1Z, e2Z⟩ := hRZ; subst e1Z; subst e2Z; (try k_sweep); (try dsimp only)))))
  (k_with "call ref" => (k_here; (with_reducible show wpAny _ _ (call (Value.ref 328) _) _ _ _); k_dflt (refine' SpecT.use0 (s_signs _ _ _ _ _) ?zqB ?zqF ?zqX ?zqN ?zqT ?zqk ?zqd ?zqu ?_; (case zqB => first | with_reducible assumption | assumption); (case zqF => k_asm); (case zqX => k_asm); (case zqN => first | with_reducible assumption); (case zqT => k_asm); (case zqk => exact rfl); (case zqd => exact Nat.le_of_ble_eq_true rfl); (case zqu => exact Nat.le_of_ble_eq_true rfl); (intro vZ lZ h'Z tk'Z hRZ F'Z N'Z; (try dsimp only at hRZ); obtain ⟨e1Z, e2Z⟩ := hRZ; subst e1Z; subst e2Z; (try k_sweep); (try dsimp only)))))
  (k_with "call ref" => (k_here; (with_reducible show wpAny _ _ (call (Value.ref 345) _) _ _ _); k_dflt (refine' SpecT.use0 (s_names _ _ _ _ [] _ _ _ _ _ ?zqp1 ?zqp2 ?zqp3) ?zqB ?zqF ?zqX ?zqN ?zqT ?zqk ?zqd ?zqu ?_; (case zqB => first | with_reducible assumption | assumption); (case zqF => k_asm); (case zqX => k_asm); (case zqN => exact keep1 (by assumption) (by k_mem)); (case zqT => k_asm); (case zqk => exact rfl); (case zqd => exact Nat.le_of_ble_eq_true rfl); (case zqu => exact Nat.le_of_ble_eq_true rfl); (case zqp1 => exact List.forall_mem_nil _); (case zqp2 => assumption); (case zqp3 => assumption); (intro vZ lZ h'Z tk'Z hRZ F'Z N'Z; (try dsimp only at hRZ); have e1Z := hRZ; subst e1Z; (try k_sweep); (try dsimp only)))))
  (k_with "call ref" => (k_here; (with_reducible show wpAny _ _ (call (Value.ref 307) _) _ _ _); k_dflt (refine' SpecT.use0 (HNo.use ?zqhv _ _ _ _ _ _ _ _) ?zqB ?zqF ?zqX ?zqN ?zqT ?zqk ?zqd ?zqu ?_; (case zqB => first | with_reducible assumption | assumption); (case zqF => k_asm); (case zqX => k_asm); (case zqN => first | with_reducible assumption); (case zqT => k_asm); (case zqk => exact rfl); (case zqd => exact Nat.le_of_ble_eq_true rfl); (case zqu => exact Nat.le_of_ble_eq_true rfl); (case zqhv => exact told_word (by assumption)); (intro vZ lZ h'Z tk'Z hRZ F'Z N'Z; (try dsimp only at hRZ); obtain ⟨_, _, _, e1Z, hl0Z, hltZ, hl2Z, e2Z⟩ := hRZ; subst e1Z; subst e2Z; (try k_sweep); (try dsimp only)))))
  (k_with "binaryOp Add str str" => (k_here; (with_reducible show wpAny _ _ (binaryOp Operator.Add (Value.str _ _) (Value.str _ _)) _ _ _); (refine' add_small ?zqsx ?zqsy ?_; (case zqsx => (simp only [lenY]; omega)); (case zqsy => omega)); intro t'Z k'Z))
  (k_with "compareOp Eq ref ref" => (k_here; (with_reducible show wpAny _ _ (compareOp CmpOp.Eq (Value.ref _) (Value.ref _)) _ _ _); k_dflt (refine' eq_deep2 ?zqN ?zqa ?zqb ?zqa2 ?zqb2 ?zqne ?zqe1 ?zqe2 ?zqu ?zqk ?_; (case zqN => k_asm); (case zqa => k_mem); (case zqb => k_mem); (case zqa2 => k_mem); (case zqb2 => k_mem); (case zqne => first | omega | k_ne); (case zqe1 => exact .inl rfl); (case zqe2 => exact .inl rfl); (case zqu => ke_room); (case zqk => rfl)); k_whole))
  k_go0
  (all_goals try k_fold)
  (rename Below _ _ _ _ => hBel)
  (have hBel2 := below_at hBel)
  k_steps
  all_goals (
    unfold Halt
    (rename News _ _ _ _ => N9)
    obtain ⟨x, y, hx, hy, N8⟩ := src_gen N9 (great_nn _) bit_nn
    clear N9
    k_steps))
end Mine
end
theorem PySem.Challenge.cw_xw0204_01_holds : PySem.Challenge.rw_xw0204_01.Holds :=
  Mine.law_holds
