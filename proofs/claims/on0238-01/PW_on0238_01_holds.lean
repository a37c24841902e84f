import PyProof.Rows.All
import Wide.All
import OpenK.AllK
import Wide.FinOn
import PySem.Challenge.RW_on0238_01
set_option Elab.async false
set_option maxRecDepth 100000
set_option maxHeartbeats 8000000
set_option compiler.extract_closed false
namespace Mine
section
open PySem PySem.W PyProof.Rows
set_option maxHeartbeats 0
/-- the top's run over a heap that is a tree -/
noncomputable def topTG (thr ok : Thread → Bool) (stp : SharedT → Thread → Option (SharedT × Thread)) : Nat → SharedT → Thread → Option SharedT
  | 0, _, _ => none
  | n + 1, s, t => match thr t with
    | true => some s
    | false => match ok t with
      | false => none
      | true => match stp s t with
        | some r => topTG thr ok stp n r.1 r.2
        | none => none
theorem topTG_of {tb : String → Option Builtin} {p : Program} {w : World} {n₀ : Nat} {ann : Option Value} : ∀ (n : Nat) (s : SharedT) (t : Thread) (s' : SharedT), topTG through (stepOk n₀ ann) (stepT (denote tb) p w) n s t = some s' → topRun tb p w n₀ ann n s.abs t = some s'.abs
  | 0, _, _, _, h => by cases h
  | n + 1, s, t, s', h => by
    unfold topTG at h
    unfold topRun
    cases ht : through t with
    | true => rw [ht] at h; cases h; rfl
    | false =>
      rw [ht] at h
      cases hk : stepOk n₀ ann t with
      | false => rw [hk] at h; cases h
      | true =>
        rw [hk] at h
        cases hs : stepT (denote tb) p w s t with
        | none => rw [hs] at h; cases h
        | some r => rw [hs] at h; rw [stepT_spec hs]; exact topTG_of n _ _ _ h
noncomputable def growT : List Obj → BT → Nat → Option (BT × Nat)
  | [], T, n => some (T, n)
  | o :: l, T, n => match ((T.ins n o).get n).isSome with
    | true => growT l (T.ins n o) (n + 1)
    | false => none
theorem growT_of {life : Life} : ∀ (l : List Obj) (T : BT) (n : Nat) (r : BT × Nat), growT l T n = some r → absHeap r.1 r.2 life = ⟨((absHeap T n life).objs.toList ++ l).toArray, life⟩
  | [], T, n, r, h => by cases h; rw [List.append_nil]; rfl
  | o :: l, T, n, r, h => by
    unfold growT at h
    cases e : ((T.ins n o).get n).isSome with
    | false => rw [e] at h; cases h
    | true =>
      rw [e] at h
      rw [growT_of l _ _ r h, absHeap_ins e]
      show Heap.mk ((((absHeap T n life).objs.push o).toList ++ l).toArray) life = _
      rw [Array.toList_push, List.append_assoc]; rfl
noncomputable def toST (s : Shared) : Option SharedT := (growT s.heap.objs.toList .nil 0).map fun r => ⟨r.1, r.2, s.heap.life, s.gens, s.drawn, s.toks, s.os⟩
theorem toST_of {s : Shared} {S : SharedT} (h : toST s = some S) : S.abs = s := by
  unfold toST at h
  obtain ⟨r, hr, rfl⟩ := Option.map_eq_some_iff.mp h
  obtain ⟨⟨objs, life⟩, g, d, k, os⟩ := s
  show Shared.mk (absHeap r.1 r.2 life) g d k os = _
  rw [growT_of _ _ _ _ hr]
  rfl
noncomputable def openT {α : Type} (tb : String → Option Builtin) (p : Program) (w : World) (N : Nat) (ok : Nat → Option Value → Thread → Bool) (stp : SharedT → Thread → Option (SharedT × Thread)) (f : Shared → α) : Option α :=
  (fencedOpening tb p w N).bind fun s₀ => match s₀.heap.isNs mainGlobals && s₀.gens.size == 0 with
    | true => (toST s₀).bind fun S₀ => (topTG through (ok s₀.heap.objs.size (s₀.heap.nsMap mainGlobals "__annotations__")) stp N S₀ (topStub p)).bind fun S₁ =>
      match staticsOk (importedModules p.main.body) s₀.heap S₁.abs.heap && namesBound p S₁.abs.heap && gensDone S₁.abs && laidKept s₀.heap S₁.abs.heap with
      | true => some (f S₁.abs)
      | false => none
    | false => none
theorem openT_of {α : Type} {tb : String → Option Builtin} {p : Program} {w : World} {N : Nat} {f : Shared → α} {v : α} (h : openT tb p w N stepOk (stepT (denote tb) p w) f = some v) : (openEnds tb p w N).map f = some v := by
  unfold openT at h
  unfold openEnds
  obtain ⟨s₀, e0, h⟩ := Option.bind_eq_some_iff.mp h
  rw [e0]
  show (topFrom tb p w N s₀).map f = some v
  unfold topFrom
  cases c : s₀.heap.isNs mainGlobals && s₀.gens.size == 0 with
  | false => rw [c] at h; cases h
  | true =>
    rw [c] at h
    obtain ⟨S₀, e1, h⟩ := Option.bind_eq_some_iff.mp h
    obtain ⟨S₁, e2, h⟩ := Option.bind_eq_some_iff.mp h
    have r := topTG_of _ _ _ _ e2
    rw [toST_of e1] at r
    dsimp only
    rw [r, Option.bind_some]
    cases k : staticsOk (importedModules p.main.body) s₀.heap S₁.abs.heap && namesBound p S₁.abs.heap && gensDone S₁.abs && laidKept s₀.heap S₁.abs.heap with
    | false => rw [k] at h; cases h
    | true => rw [k] at h; exact h
end
section
open PySem PySem.W PyProof.Rows
set_option maxHeartbeats 0
def vw : Program := { PySem.Challenge.pw_on0238_01 with main := { PySem.Challenge.pw_on0238_01.main with body := ([0, 2, 3, 5, 6, 7, 8, 10, 11, 12, 13, 15, 16, 17, 18, 19, 20, 21, 22, 23, 24, 25, 26, 28, 29, 31, 32, 33, 34, 35, 36, 37, 38, 39, 40, 41, 42, 43, 44, 45].filterMap fun i => PySem.Challenge.pw_on0238_01.main.body[i]?) } }
theorem opt_pair {α β γ : Type} {o : Option α} {f : α → β} {g : α → γ} {a : β} {b : γ} (h1 : o.map f = some a) (h2 : o.map g = some b) : o.map (fun s => (f s, g s)) = some (a, b) := by
  cases o with
  | none => cases h1
  | some x =>
    simp only [Option.map_some, Option.some.injEq] at h1 h2 ⊢
    rw [h1, h2]
theorem law_said : OpenLaw.wellSaid PySem.Challenge.rw_on0238_01 = true := by
  unfold OpenLaw.wellSaid
  (repeat' (first | (with_reducible refine look_both ?_ ?_) | unfold OpenRow.wellSaid | unfold OpenRow.partSaid | unfold looksOpen)) <;> decide +kernel
theorem seen_ok : ∀ w : World, (openEnds treeTable PySem.Challenge.pw_on0238_01 w 4918).map (fun s => openSeen Mine.vw [PySem.Str.ofString "Outline", PySem.Str.ofString "Part"] (importedModules PySem.Challenge.pw_on0238_01.main.body) (fun s => xlAt Mine.vw [] s && recOk (RowW.records (OpenRow.toRowW (OpenLaw.row PySem.Challenge.rw_on0238_01))) s) true s) = some (openGood Mine.vw [PySem.Str.ofString "Outline", PySem.Str.ofString "Part"]) := by
  intro w; refine openT_of ?_; unfold openT fencedOpening; rw [PySem.W.Fast.te10156331382660048174, PySem.W.Fast.te6613529449190102663, PySem.W.Fast.te11892475500146522536, PySem.W.Fast.te14364793385576792824, PySem.W.Fast.te1435165496053646825, PySem.W.Fast.te10274390034422433532, PySem.W.Fast.te5923862056798008813, PySem.W.Fast.te14289696077712309145, PySem.W.Fast.te4187177175401517315]; kernel_rfl
end
section
open PySem PySem.W PyProof.Rows
set_option maxHeartbeats 0
theorem hook_go {K : Params → Frag} {as : List Addr} {e : ∀ P, as = (K P).map (·.1)} {ts : List Addr} {w : World} {X : Option Shared} (h1 : X.map (fun s => (K w.params).map fun p => s.heap.get? p.1) = some ((K w.params).map fun p => some p.2)) (h2 : X.map (fun s => ts.map s.heap.get?) = some (ts.map fun _ => some (tabObj #[]))) :
    X.map (Hook.obs (kmHook K as e ts)) = some (Hook.val (kmHook K as e ts) w) := by
  cases X with
  | none => cases h1
  | some s =>
    have a := Option.some.inj h1
    have b : ts.map s.heap.get? = ts.map fun _ => some (tabObj #[]) := Option.some.inj h2
    show some (as.map s.heap.get?, ts.map s.heap.get?) = some ((K w.params).map (fun p => some p.2), ts.map fun _ => some (tabObj #[]))
    rw [b, e w.params, List.map_map]
    exact congrArg some (congrArg (·, _) a)
local macro_rules | `(tactic| o_law) => `(tactic| (refine holds_law law_said fun said => ?_))
local macro_rules | `(tactic| o_head $H:term) => `(tactic| (
  refine holds_open (q := Mine.vw) (loose := [PySem.Str.ofString "Outline", PySem.Str.ofString "Part"]) (Xt := (fun s => xlAt Mine.vw [] s && recOk (RowW.records (OpenRow.toRowW (OpenLaw.row PySem.Challenge.rw_on0238_01))) s)) (XP := XL Mine.vw []) (Yf := Hook.obs $H) (Ya := Hook.val $H) (YP := Hook.says $H) (N := 4918) ?hl (Hook.of $H) (Hook.keeps $H) (fun s e => xl_of s (Bool.and_eq_true_iff.mp e).1) XL.keeps (by rfl) (by rfl) (by rfl) (fun s e => recFacts_of (Bool.and_eq_true_iff.mp e).2) (by rfl) (by first | assumption | decide +kernel) (by decide +kernel) ⟨rfl, rfl, rfl, rfl, rfl, by decide +kernel⟩ ?hw ?hc; (case hl => (intro w; refine opt_pair (seen_ok w) ?_; refine hook_go ?_ ?_ <;> (refine openT_of ?_; unfold openT fencedOpening; rw [PySem.W.Fast.te10156331382660048174, PySem.W.Fast.te6613529449190102663, PySem.W.Fast.te11892475500146522536, PySem.W.Fast.te14364793385576792824, PySem.W.Fast.te1435165496053646825, PySem.W.Fast.te10274390034422433532, PySem.W.Fast.te5923862056798008813, PySem.W.Fast.te14289696077712309145]; kernel_rfl)))))
open_top hd for PySem.Challenge.rw_on0238_01
end
section
open PySem PySem.Spec PySem.Calls PySem.W PyProof.Rows

abbrev AA (dp un : Nat) (gd : Option (List Code)) (l : List Env) : Around := { handled := none, depth := dp, frames := some l, guards := gd, units := un }

/-- the context of a call: the written part, the top, the frames on the stack -/
structure Cx (K : Frag) (p : Program) (loose : List Str) (mean : ExcName → Option Value) (mg mb : Str → Option Value) (H₀ : Heap) (l : List Env) (h : Heap) : Prop where
  X : K.In H₀
  T : Top p loose mean mg mb H₀
  st : H₀.StaysIn h
  ff : h.FunFrames H₀ l

/-- an object of the law's own: no part of the base, no frame -/
def Own (H₀ : Heap) (l : List Env) (h : Heap) (a : Addr) (o : Obj) : Prop := h.get? a = some o ∧ H₀.get? a = none ∧ ∀ env ∈ l, env.frame ≠ some a

/-- all stands as it stood, but S -/
def Kp (h h' : Heap) (S : List Addr) : Prop := ∀ b o, h.get? b = some o → b ∉ S → h'.get? b = some o

theorem Kp.refl (h : Heap) (S : List Addr) : Kp h h S := fun _ _ e _ => e
theorem Kp.trans {h h' h'' : Heap} {S : List Addr} (a : Kp h h' S) (b : Kp h' h'' S) : Kp h h'' S := fun c o e n => b c o (a c o e n) n
theorem Kp.weak {h h' : Heap} {S S' : List Addr} (a : Kp h h' S) (s : ∀ b ∈ S, b ∈ S') : Kp h h' S' := fun c o e n => a c o e fun q => n (s c q)

section
variable {K : Frag} {p : Program} {loose : List Str} {mean : ExcName → Option Value} {mg mb : Str → Option Value} {H₀ g h h' : Heap} {l : List Env} {A A₀ : Around} {L a fa : Addr} {m : Str → Option Value} {news news' : List (Addr × Obj)} {o o' : Obj} {S : List Addr}

theorem ff_of (B : Below A₀ H₀ l g) (F : Fr g L h m) {env : Env} (hf : env.frame = some L) (hk : env.scope.kind = .function) : h.FunFrames H₀ (env :: l) := by
  have hn : H₀.get? L = none := by
    cases q : H₀.get? L with
    | none => rfl
    | some o => exact absurd (Nat.lt_of_lt_of_le (Heap.lt_size (B.stays L o q)) F.above) (Nat.lt_irrefl _)
  refine .cons (by rw [hk]; decide) hf F.ns hn ?_
  exact B.frames.of_keeps fun b o e _ => ⟨o, F.keep b o e, rfl⟩

theorem Cx.next {H : Heap} (C : Cx K p loose mean mg mb H₀ l H) (B : Below A₀ H₀ l g) (F : Fr g L h m) {env : Env} (hf : env.frame = some L) (hk : env.scope.kind = .function) : Cx K p loose mean mg mb H₀ (env :: l) h :=
  ⟨C.X, C.T, fun b o e => F.keep b o (B.stays b o e), ff_of B F hf hk⟩

theorem Cx.kp (C : Cx K p loose mean mg mb H₀ l h) (k : Kp h h' S) (hS : ∀ b ∈ S, H₀.get? b = none ∧ ∀ env ∈ l, env.frame ≠ some b) : Cx K p loose mean mg mb H₀ l h' := by
  refine ⟨C.X, C.T, fun b o e => k b o (C.st b o e) fun q => ?_, ?_⟩
  · rw [(hS b q).1] at e; cases e
  · have : ∀ l' : List Env, (∀ env ∈ l', env ∈ l) → h.FunFrames H₀ l' → h'.FunFrames H₀ l' := by
      intro l'
      induction l' with
      | nil => intro _ _; trivial
      | cons env r ih =>
        rintro hs ⟨hk, ⟨L, o, hf, hn, ho, hd⟩, hr⟩
        exact ⟨hk, ⟨L, o, hf, hn, k L o ho (fun q => (hS L q).2 env (hs env (.head _)) hf), hd⟩, ih (fun e he => hs e (.tail _ he)) hr⟩
    exact this l (fun _ h => h) C.ff

theorem own_of (B : Below A₀ H₀ l g) (N : News g L h news) (hm : (a, o) ∈ news) {env : Env} (hf : env.frame = some L) : Own H₀ (env :: l) h a o := by
  obtain ⟨h1, h2, h3⟩ := N _ hm
  refine ⟨h1, ?_, fun e he q => ?_⟩
  · cases q : H₀.get? a with
    | none => rfl
    | some o => have := B.stays a o q; rw [h3] at this; cases this
  · rcases List.mem_cons.mp he with rfl | he
    · rw [hf] at q; exact h2 (Option.some.inj q).symm
    · obtain ⟨o', ho', _⟩ := (B.frames.mem (List.mem_filterMap.mpr ⟨e, he, q⟩)).2
      rw [h3] at ho'; cases ho'

theorem Own.kp (O : Own H₀ l h a o) (k : Kp h h' S) (hn : a ∉ S) : Own H₀ l h' a o := ⟨k a o O.1 hn, O.2⟩
theorem Own.set (O : Own H₀ l h a o) (e : h'.get? a = some o') : Own H₀ l h' a o' := ⟨e, O.2⟩

theorem fr_kp (F : Fr g L h m) (k : Kp h h' S) (hS : ∀ b ∈ S, b ≠ L ∧ g.get? b = none) : Fr g L h' m := by
  obtain ⟨⟨oL, es, ep, hL, r⟩, kp, ab⟩ := F
  refine ⟨⟨oL, es, ep, k L oL hL fun q => (hS L q).1 rfl, r⟩, fun b o e => k b o (kp b o e) fun q => ?_, ab⟩
  rw [(hS b q).2] at e; cases e
theorem fr_kp0 (F : Fr g L h m) (k : Kp h h' []) : Fr g L h' m := fr_kp F k fun _ q => nomatch q
theorem fr_kp1 (F : Fr g L h m) (N : News g L h news) (hm : (a, o) ∈ news) (k : Kp h h' [a]) : Fr g L h' m := fr_kp F k fun b q => by
  rw [List.mem_singleton.mp q]; exact (N _ hm).2
theorem news_kp0 (N : News g L h news) (k : Kp h h' []) : News g L h' news := fun p hp => ⟨k _ _ (N p hp).1 (fun q => nomatch q), (N p hp).2⟩
theorem news_upd (N : News g L h news) (k : Kp h h' [a]) (U : Upd a o o' news news') (e : h'.get? a = some o') : News g L h' news' := by
  obtain ⟨pre, post, rfl, rfl, h1, h2⟩ := U.split
  have hm := N (a, o) (List.mem_append_right _ (.head _))
  intro q hq
  rcases List.mem_append.mp hq with hq | hq
  · exact ⟨k _ _ (N q (List.mem_append_left _ hq)).1 (fun z => h1 q hq (List.mem_singleton.mp z)), (N q (List.mem_append_left _ hq)).2⟩
  · rcases List.mem_cons.mp hq with rfl | hq
    · exact ⟨e, hm.2⟩
    · exact ⟨k _ _ (N q (List.mem_append_right _ (.tail _ hq))).1 (fun z => h2 q hq (List.mem_singleton.mp z)), (N q (List.mem_append_right _ (.tail _ hq))).2⟩
theorem news_new (F : Fr g L h m) (N : News g L h' news) {r : Addr} (hr : h.get? r = none) (e : h'.get? r = some o) : News g L h' ((r, o) :: news) := by
  intro q hq
  rcases List.mem_cons.mp hq with rfl | hq
  · refine ⟨e, fun z => ?_, ?_⟩
    · obtain ⟨oL, _, _, hL, _⟩ := F.ns
      have z' : r = L := z
      rw [z', hL] at hr; cases hr
    · cases q : g.get? r with
      | none => rfl
      | some o => have := F.keep r o q; rw [hr] at this; cases this
  · exact N q hq

def NeAll (r : Addr) : List (Addr × Obj) → Prop
  | [] => True
  | p :: q => @Ne Nat p.1 r ∧ NeAll r q
theorem neAll (r : Addr) : ∀ {news : List (Addr × Obj)}, News g L h news → h.get? r = none → NeAll r news
  | [], _, _ => trivial
  | p :: q, N, e => ⟨fun z => (by have := (N p (.head _)).1; rw [show p.1 = r from z, e] at this; cases this), neAll r (fun x hx => N x (.tail _ hx)) e⟩

/-- what the callee's own frame says of the heap at the call -/
theorem kp_of (hg : ∀ b o, h.get? b = some o → b ∉ S → g.get? b = some o) (F : Fr g L h' m) : Kp h h' S := fun b o e n => F.keep b o (hg b o e n)
theorem kp_of1 (hg : ∀ b o, h.get? b = some o → b ∉ news.map (·.1) → g.get? b = some o) (F : Fr g L h' m) (h1 : ∀ q ∈ news, h.get? q.1 = some q.2) (N : ∀ q ∈ news, h'.get? q.1 = some q.2) (S : List Addr) : Kp h h' S := fun b o e _ => by
  by_cases q : b ∈ news.map (·.1)
  · obtain ⟨x, hx, rfl⟩ := List.mem_map.mp q
    rw [← e, h1 x hx]; exact N x hx
  · exact F.keep b o (hg b o e q)
theorem kp_ofS (hg : ∀ b o, h.get? b = some o → b ∉ news.map (·.1) → g.get? b = some o) (F : Fr g L h' m) (N : ∀ q ∈ news, q.1 ∈ S ∨ (h.get? q.1 = some q.2 ∧ h'.get? q.1 = some q.2)) : Kp h h' S := fun b o e n => by
  by_cases q : b ∈ news.map (·.1)
  · obtain ⟨x, hx, rfl⟩ := List.mem_map.mp q
    rcases N x hx with y | ⟨y, z⟩
    · exact absurd y n
    · rw [← e, y]; exact z
  · exact F.keep b o (hg b o e q)
theorem fresh_of (hg : ∀ b o, h.get? b = some o → b ∉ S → g.get? b = some o) (N : News g L h' news) {r : Addr} (hm : (r, o) ∈ news) (hn : r ∉ S) : h.get? r = none := by
  cases q : h.get? r with
  | none => rfl
  | some o' => have := hg r o' q hn; rw [(N _ hm).2.2] at this; cases this
end

section
variable {prog : Program} {w : World} {A A₀ : Around} {s : Shared} {K : Frag} {L : Addr} {H₀ : Heap} {mg mb : Str → Option Value} {news : List (Addr × Obj)} {p : Program} {loose : List Str} {mean : ExcName → Option Value} {l : List Env}

theorem enter {R : Result → Shared → Prop} {name qual : Str} {params : Arguments} {body : List Stmt} {scope : Scope} {cl : List (Str × Addr)} {dV kV doc pm cdv ct : Value} {an : Option Addr} {fo : Obj} {f : Addr} {args : Args} {binds : List (Str × Value)}
    (C : Cx K p loose mean mg mb H₀ l s.heap) (O : ∀ q ∈ news, Own H₀ l s.heap q.1 q.2) (hA : A.frames = some l)
    (ho : s.heap.get? f = some fo) (hfo : fo.data = .func (fnX name qual params body scope cl dV kV doc pm an cdv ct)) (hcd : s.heap.CodeRec cdv qual) (hroom : A.depth < recursionLimit)
    (hbind : BindsTo s (fnX name qual params body scope cl dV kV doc pm an cdv ct) args binds) (hloc : ∀ y ∈ binds, scope.names.lookup y.1 = some .local)
    (h : ∀ g h₁, s.heap.get? s.heap.objs.size = none → (∀ b o, s.heap.get? b = some o → b ∉ news.map (·.1) → g.get? b = some o) → Fr g s.heap.objs.size h₁ (fun y => binds.reverse.lookup y) → News g s.heap.objs.size h₁ news → Below A H₀ l g → K.In g → Top p loose mean mg mb g →
      wpAny (model prog w) (A.deeper (envX qual scope s.heap.objs.size f cdv cl)) (execs body (envX qual scope s.heap.objs.size f cdv cl))
        (fun fl s' => R (.ok (.ret (match fl with | .ret v => v | _ => .none))) s')
        (fun e s' => wpAny (model prog w) (A.deeper (envX qual scope s.heap.objs.size f cdv cl)) (leaving (envX qual scope s.heap.objs.size f cdv cl) e) (fun _ s'' => R (.error e) s'') (fun e' s'' => R (.error e') s'') s')
        { s with heap := h₁, toks := s.toks + binds.length })
    (hco : scope.isCoroutine = false := by rfl) (hgen : scope.isGenerator = false := by rfl) (hk : scope.kind = .function := by rfl)
    (hcell : ∀ x ∈ scope.names, x.2 ≠ .cell := by decide) : codeAny (model prog w) A (.call (.ref f) args) R s := by
  have hb : ∀ b o, H₀.get? b = some o → b ∉ news.map (·.1) := fun b o e q => by
    obtain ⟨x, hx, rfl⟩ := List.mem_map.mp q
    rw [(O x hx).2.1] at e; cases e
  have st : H₀.StaysIn (hideAll s.heap (news.map (·.1))) := fun b o e => hideAll_get _ (C.st b o e) (hb b o e)
  have fn : ∀ env ∈ l, ∀ a ∈ news.map (·.1), env.frame ≠ some a := fun env he a ha => by
    obtain ⟨x, hx, rfl⟩ := List.mem_map.mp ha
    exact (O x hx).2.2 env he
  refine codeAny_call_def (fd := fnX name qual params body scope cl dV kV doc pm an cdv ct) (body := body) (binds := binds) hroom ho hfo (C.T.nolimit.keeps C.st) hcd rfl hbind hcell hloc (fun h₁ hns hk₁ => ?_) hco hgen hk
  refine h (hideAll s.heap (news.map (·.1))) h₁ (Heap.get?_none_of_le (Nat.le_refl _)) (fun b o e n => hideAll_get _ e n) ⟨hns, fun b o e => hk₁ b o (of_hideAll _ e), Nat.le_of_eq (hideAll_size _ _)⟩ (fun q hq => ?_) ⟨hA, st, funFrames_hideAll C.ff fn⟩ (C.X.keeps (fun b o e => st b o e)) (C.T.keeps (fun b o e => st b o e))
  exact ⟨hk₁ _ _ (O q hq).1, Nat.ne_of_lt (Heap.lt_size (O q hq).1), hideAll_none _ (List.mem_map_of_mem hq)⟩

theorem enterK {R : Result → Shared → Prop} {name qual : Str} {params : Arguments} {body : List Stmt} {scope : Scope} {dV kV doc pm cdv ct oc : Value} {an od : Option Addr} {osl : Array (Option Value)} {f : Addr} {args : Args} {binds : List (Str × Value)}
    (C : Cx K p loose mean mg mb H₀ l s.heap) (news : List (Addr × Obj)) (O : ∀ q ∈ news, Own H₀ l s.heap q.1 q.2) (hA : A.frames = some l)
    (ho : K.lookup f = some ⟨oc, od, .func (fnOf name qual params body scope dV kV doc pm an cdv ct), osl⟩) (hcd : codeIn K cdv qual = true) (hroom : A.depth < recursionLimit)
    (hbind : BindsTo s (fnOf name qual params body scope dV kV doc pm an cdv ct) args binds) (hloc : ∀ y ∈ binds, scope.names.lookup y.1 = some .local)
    (h : ∀ g L' h₁, s.heap.get? L' = none → (∀ b o, s.heap.get? b = some o → b ∉ news.map (·.1) → g.get? b = some o) → Fr g L' h₁ (fun y => binds.reverse.lookup y) → News g L' h₁ news → Below A H₀ l g → K.In g → Top p loose mean mg mb g →
      wpAny (model prog w) (A.deeper (envOf qual scope L' f cdv)) (execs body (envOf qual scope L' f cdv))
        (fun fl s' => R (.ok (.ret (match fl with | .ret v => v | _ => .none))) s')
        (fun e s' => wpAny (model prog w) (A.deeper (envOf qual scope L' f cdv)) (leaving (envOf qual scope L' f cdv) e) (fun _ s'' => R (.error e) s'') (fun e' s'' => R (.error e') s'') s')
        { s with heap := h₁, toks := s.toks + binds.length })
    (hco : scope.isCoroutine = false) (hgen : scope.isGenerator = false) (hk : scope.kind = .function)
    (hcell : ∀ x ∈ scope.names, x.2 ≠ .cell) : codeAny (model prog w) A (.call (.ref f) args) R s :=
  enter (cl := []) C O hA ((C.X.keeps C.st) _ _ ho) rfl (codeRec_of (C.X.keeps C.st) hcd) hroom hbind hloc (fun g h₁ hL hg F N B X T => h g _ h₁ hL hg F N B X T) hco hgen hk hcell
end
end
section
open PySem PySem.Spec PySem.Calls PySem.W PyProof.Rows
theorem room_a {a b c d e : Nat} (h : a + b ≤ c) (k : e + d ≤ b) : a + e + d ≤ c := by
  rw [Nat.add_assoc]; exact Nat.le_trans (Nat.add_le_add_left k a) h
theorem room_b {a b c e : Nat} (h : a + b ≤ c) (k : e ≤ b) : a + e ≤ c := Nat.le_trans (Nat.add_le_add_left k a) h
theorem room_z {a b c : Nat} (h : a + b ≤ c) : a ≤ c := Nat.le_trans (Nat.le_add_right a b) h
theorem room_t {a b c d e f : Nat} (h : a + b ≤ c) (k : e + f + d ≤ b) : a + e + f + d ≤ c := by
  rw [Nat.add_assoc a e f]; exact room_a h k
theorem room_c {a b : Nat} (h : a + b ≤ 400) : a < recursionLimit := Nat.lt_of_le_of_lt (room_z h) (by decide)
theorem room_d {a b e : Nat} (h : a + b ≤ 400) (k : e ≤ b) : a + e < recursionLimit := Nat.lt_of_le_of_lt (room_b h k) (by decide)
theorem ltm {d : Addr} : ∀ {l : List (Addr × Obj)}, AllLt d l → ∀ p ∈ l, @LT.lt Nat _ p.1 d
  | [], _, _, h => nomatch h
  | q :: r, a, p, h => by
    rcases List.mem_cons.mp h with rfl | h
    · exact a.1
    · exact ltm a.2 p h
theorem ne_lt {d a : Addr} {o : Obj} {l : List (Addr × Obj)} (h : AllLt d l) (m : (a, o) ∈ l) : a ≠ d := Nat.ne_of_lt (ltm h _ m)
theorem ne_gt {d a : Addr} {o : Obj} {l : List (Addr × Obj)} (h : AllLt d l) (m : (a, o) ∈ l) : d ≠ a := Nat.ne_of_gt (ltm h _ m)
theorem lt1 {x : Nat} : x < x + 1 := Nat.lt_succ_self x
theorem nel {d a b : Addr} {o : Obj} {l : List (Addr × Obj)} (k : @LT.lt Nat _ d b) (h : AllLt d l) (m : (a, o) ∈ l) : a ≠ b := Nat.ne_of_lt (Nat.lt_trans (ltm h _ m) k)
theorem neg {d a b : Addr} {o : Obj} {l : List (Addr × Obj)} (k : @LT.lt Nat _ d b) (h : AllLt d l) (m : (a, o) ∈ l) : b ≠ a := Ne.symm (nel k h m)
theorem all_lt {d : Addr} {l r : List (Addr × Obj)} (h : AllLt d l) (m : ∀ p ∈ r, p ∈ l) : ∀ p ∈ r, p.1 ≠ d := fun p hp => Nat.ne_of_lt (ltm h p (m p hp))
theorem all_ltk {d b : Addr} {l r : List (Addr × Obj)} (k : @LT.lt Nat _ d b) (h : AllLt d l) (m : ∀ p ∈ r, p ∈ l) : ∀ p ∈ r, p.1 ≠ b := fun p hp => Nat.ne_of_lt (Nat.lt_trans (ltm h p (m p hp)) k)
theorem ne_c1 {d a : Addr} {o : Obj} {l : List (Addr × Obj)} (h : AllLt d l) (m : (a, o) ∈ l) : @Ne Nat a (d + 1) := Nat.ne_of_lt (Nat.lt_of_lt_of_le (ltm h _ m) (Nat.le_add_right d 1))
theorem ne_d1 {d a : Addr} {o : Obj} {l : List (Addr × Obj)} (h : AllLt d l) (m : (a, o) ∈ l) : @Ne Nat (d + 1) a := Nat.ne_of_gt (Nat.lt_of_lt_of_le (ltm h _ m) (Nat.le_add_right d 1))
theorem ne_u1 {d : Nat} : @Ne Nat d (d + 1) := Nat.ne_of_lt (Nat.lt_add_of_pos_right (show 0 < 1 by decide))
theorem ne_v1 {d : Nat} : @Ne Nat (d + 1) d := Nat.ne_of_gt (Nat.lt_add_of_pos_right (show 0 < 1 by decide))
theorem al_c1 {d : Addr} {l r : List (Addr × Obj)} (h : AllLt d l) (m : ∀ p ∈ r, p ∈ l) : ∀ p ∈ r, @Ne Nat p.1 (d + 1) := fun p hp => Nat.ne_of_lt (Nat.lt_of_lt_of_le (ltm h p (m p hp)) (Nat.le_add_right d 1))
theorem ne_c2 {d a : Addr} {o : Obj} {l : List (Addr × Obj)} (h : AllLt d l) (m : (a, o) ∈ l) : @Ne Nat a (d + 1 + 1) := Nat.ne_of_lt (Nat.lt_of_lt_of_le (ltm h _ m) (Nat.le_add_right d 2))
theorem ne_d2 {d a : Addr} {o : Obj} {l : List (Addr × Obj)} (h : AllLt d l) (m : (a, o) ∈ l) : @Ne Nat (d + 1 + 1) a := Nat.ne_of_gt (Nat.lt_of_lt_of_le (ltm h _ m) (Nat.le_add_right d 2))
theorem ne_u2 {d : Nat} : @Ne Nat d (d + 1 + 1) := Nat.ne_of_lt (Nat.lt_add_of_pos_right (show 0 < 2 by decide))
theorem ne_v2 {d : Nat} : @Ne Nat (d + 1 + 1) d := Nat.ne_of_gt (Nat.lt_add_of_pos_right (show 0 < 2 by decide))
theorem al_c2 {d : Addr} {l r : List (Addr × Obj)} (h : AllLt d l) (m : ∀ p ∈ r, p ∈ l) : ∀ p ∈ r, @Ne Nat p.1 (d + 1 + 1) := fun p hp => Nat.ne_of_lt (Nat.lt_of_lt_of_le (ltm h p (m p hp)) (Nat.le_add_right d 2))
theorem ne_c3 {d a : Addr} {o : Obj} {l : List (Addr × Obj)} (h : AllLt d l) (m : (a, o) ∈ l) : @Ne Nat a (d + 1 + 1 + 1) := Nat.ne_of_lt (Nat.lt_of_lt_of_le (ltm h _ m) (Nat.le_add_right d 3))
theorem ne_d3 {d a : Addr} {o : Obj} {l : List (Addr × Obj)} (h : AllLt d l) (m : (a, o) ∈ l) : @Ne Nat (d + 1 + 1 + 1) a := Nat.ne_of_gt (Nat.lt_of_lt_of_le (ltm h _ m) (Nat.le_add_right d 3))
theorem ne_u3 {d : Nat} : @Ne Nat d (d + 1 + 1 + 1) := Nat.ne_of_lt (Nat.lt_add_of_pos_right (show 0 < 3 by decide))
theorem ne_v3 {d : Nat} : @Ne Nat (d + 1 + 1 + 1) d := Nat.ne_of_gt (Nat.lt_add_of_pos_right (show 0 < 3 by decide))
theorem al_c3 {d : Addr} {l r : List (Addr × Obj)} (h : AllLt d l) (m : ∀ p ∈ r, p ∈ l) : ∀ p ∈ r, @Ne Nat p.1 (d + 1 + 1 + 1) := fun p hp => Nat.ne_of_lt (Nat.lt_of_lt_of_le (ltm h p (m p hp)) (Nat.le_add_right d 3))
theorem ne_c4 {d a : Addr} {o : Obj} {l : List (Addr × Obj)} (h : AllLt d l) (m : (a, o) ∈ l) : @Ne Nat a (d + 1 + 1 + 1 + 1) := Nat.ne_of_lt (Nat.lt_of_lt_of_le (ltm h _ m) (Nat.le_add_right d 4))
theorem ne_d4 {d a : Addr} {o : Obj} {l : List (Addr × Obj)} (h : AllLt d l) (m : (a, o) ∈ l) : @Ne Nat (d + 1 + 1 + 1 + 1) a := Nat.ne_of_gt (Nat.lt_of_lt_of_le (ltm h _ m) (Nat.le_add_right d 4))
theorem ne_u4 {d : Nat} : @Ne Nat d (d + 1 + 1 + 1 + 1) := Nat.ne_of_lt (Nat.lt_add_of_pos_right (show 0 < 4 by decide))
theorem ne_v4 {d : Nat} : @Ne Nat (d + 1 + 1 + 1 + 1) d := Nat.ne_of_gt (Nat.lt_add_of_pos_right (show 0 < 4 by decide))
theorem al_c4 {d : Addr} {l r : List (Addr × Obj)} (h : AllLt d l) (m : ∀ p ∈ r, p ∈ l) : ∀ p ∈ r, @Ne Nat p.1 (d + 1 + 1 + 1 + 1) := fun p hp => Nat.ne_of_lt (Nat.lt_of_lt_of_le (ltm h p (m p hp)) (Nat.le_add_right d 4))
theorem ne_c5 {d a : Addr} {o : Obj} {l : List (Addr × Obj)} (h : AllLt d l) (m : (a, o) ∈ l) : @Ne Nat a (d + 1 + 1 + 1 + 1 + 1) := Nat.ne_of_lt (Nat.lt_of_lt_of_le (ltm h _ m) (Nat.le_add_right d 5))
theorem ne_d5 {d a : Addr} {o : Obj} {l : List (Addr × Obj)} (h : AllLt d l) (m : (a, o) ∈ l) : @Ne Nat (d + 1 + 1 + 1 + 1 + 1) a := Nat.ne_of_gt (Nat.lt_of_lt_of_le (ltm h _ m) (Nat.le_add_right d 5))
theorem ne_u5 {d : Nat} : @Ne Nat d (d + 1 + 1 + 1 + 1 + 1) := Nat.ne_of_lt (Nat.lt_add_of_pos_right (show 0 < 5 by decide))
theorem ne_v5 {d : Nat} : @Ne Nat (d + 1 + 1 + 1 + 1 + 1) d := Nat.ne_of_gt (Nat.lt_add_of_pos_right (show 0 < 5 by decide))
theorem al_c5 {d : Addr} {l r : List (Addr × Obj)} (h : AllLt d l) (m : ∀ p ∈ r, p ∈ l) : ∀ p ∈ r, @Ne Nat p.1 (d + 1 + 1 + 1 + 1 + 1) := fun p hp => Nat.ne_of_lt (Nat.lt_of_lt_of_le (ltm h p (m p hp)) (Nat.le_add_right d 5))
theorem ne_c6 {d a : Addr} {o : Obj} {l : List (Addr × Obj)} (h : AllLt d l) (m : (a, o) ∈ l) : @Ne Nat a (d + 1 + 1 + 1 + 1 + 1 + 1) := Nat.ne_of_lt (Nat.lt_of_lt_of_le (ltm h _ m) (Nat.le_add_right d 6))
theorem ne_d6 {d a : Addr} {o : Obj} {l : List (Addr × Obj)} (h : AllLt d l) (m : (a, o) ∈ l) : @Ne Nat (d + 1 + 1 + 1 + 1 + 1 + 1) a := Nat.ne_of_gt (Nat.lt_of_lt_of_le (ltm h _ m) (Nat.le_add_right d 6))
theorem ne_u6 {d : Nat} : @Ne Nat d (d + 1 + 1 + 1 + 1 + 1 + 1) := Nat.ne_of_lt (Nat.lt_add_of_pos_right (show 0 < 6 by decide))
theorem ne_v6 {d : Nat} : @Ne Nat (d + 1 + 1 + 1 + 1 + 1 + 1) d := Nat.ne_of_gt (Nat.lt_add_of_pos_right (show 0 < 6 by decide))
theorem al_c6 {d : Addr} {l r : List (Addr × Obj)} (h : AllLt d l) (m : ∀ p ∈ r, p ∈ l) : ∀ p ∈ r, @Ne Nat p.1 (d + 1 + 1 + 1 + 1 + 1 + 1) := fun p hp => Nat.ne_of_lt (Nat.lt_of_lt_of_le (ltm h p (m p hp)) (Nat.le_add_right d 6))
theorem ne_c7 {d a : Addr} {o : Obj} {l : List (Addr × Obj)} (h : AllLt d l) (m : (a, o) ∈ l) : @Ne Nat a (d + 1 + 1 + 1 + 1 + 1 + 1 + 1) := Nat.ne_of_lt (Nat.lt_of_lt_of_le (ltm h _ m) (Nat.le_add_right d 7))
theorem ne_d7 {d a : Addr} {o : Obj} {l : List (Addr × Obj)} (h : AllLt d l) (m : (a, o) ∈ l) : @Ne Nat (d + 1 + 1 + 1 + 1 + 1 + 1 + 1) a := Nat.ne_of_gt (Nat.lt_of_lt_of_le (ltm h _ m) (Nat.le_add_right d 7))
theorem ne_u7 {d : Nat} : @Ne Nat d (d + 1 + 1 + 1 + 1 + 1 + 1 + 1) := Nat.ne_of_lt (Nat.lt_add_of_pos_right (show 0 < 7 by decide))
theorem ne_v7 {d : Nat} : @Ne Nat (d + 1 + 1 + 1 + 1 + 1 + 1 + 1) d := Nat.ne_of_gt (Nat.lt_add_of_pos_right (show 0 < 7 by decide))
theorem al_c7 {d : Addr} {l r : List (Addr × Obj)} (h : AllLt d l) (m : ∀ p ∈ r, p ∈ l) : ∀ p ∈ r, @Ne Nat p.1 (d + 1 + 1 + 1 + 1 + 1 + 1 + 1) := fun p hp => Nat.ne_of_lt (Nat.lt_of_lt_of_le (ltm h p (m p hp)) (Nat.le_add_right d 7))
theorem ne_c8 {d a : Addr} {o : Obj} {l : List (Addr × Obj)} (h : AllLt d l) (m : (a, o) ∈ l) : @Ne Nat a (d + 1 + 1 + 1 + 1 + 1 + 1 + 1 + 1) := Nat.ne_of_lt (Nat.lt_of_lt_of_le (ltm h _ m) (Nat.le_add_right d 8))
theorem ne_d8 {d a : Addr} {o : Obj} {l : List (Addr × Obj)} (h : AllLt d l) (m : (a, o) ∈ l) : @Ne Nat (d + 1 + 1 + 1 + 1 + 1 + 1 + 1 + 1) a := Nat.ne_of_gt (Nat.lt_of_lt_of_le (ltm h _ m) (Nat.le_add_right d 8))
theorem ne_u8 {d : Nat} : @Ne Nat d (d + 1 + 1 + 1 + 1 + 1 + 1 + 1 + 1) := Nat.ne_of_lt (Nat.lt_add_of_pos_right (show 0 < 8 by decide))
theorem ne_v8 {d : Nat} : @Ne Nat (d + 1 + 1 + 1 + 1 + 1 + 1 + 1 + 1) d := Nat.ne_of_gt (Nat.lt_add_of_pos_right (show 0 < 8 by decide))
theorem al_c8 {d : Addr} {l r : List (Addr × Obj)} (h : AllLt d l) (m : ∀ p ∈ r, p ∈ l) : ∀ p ∈ r, @Ne Nat p.1 (d + 1 + 1 + 1 + 1 + 1 + 1 + 1 + 1) := fun p hp => Nat.ne_of_lt (Nat.lt_of_lt_of_le (ltm h p (m p hp)) (Nat.le_add_right d 8))
theorem ne_c9 {d a : Addr} {o : Obj} {l : List (Addr × Obj)} (h : AllLt d l) (m : (a, o) ∈ l) : @Ne Nat a (d + 1 + 1 + 1 + 1 + 1 + 1 + 1 + 1 + 1) := Nat.ne_of_lt (Nat.lt_of_lt_of_le (ltm h _ m) (Nat.le_add_right d 9))
theorem ne_d9 {d a : Addr} {o : Obj} {l : List (Addr × Obj)} (h : AllLt d l) (m : (a, o) ∈ l) : @Ne Nat (d + 1 + 1 + 1 + 1 + 1 + 1 + 1 + 1 + 1) a := Nat.ne_of_gt (Nat.lt_of_lt_of_le (ltm h _ m) (Nat.le_add_right d 9))
theorem ne_u9 {d : Nat} : @Ne Nat d (d + 1 + 1 + 1 + 1 + 1 + 1 + 1 + 1 + 1) := Nat.ne_of_lt (Nat.lt_add_of_pos_right (show 0 < 9 by decide))
theorem ne_v9 {d : Nat} : @Ne Nat (d + 1 + 1 + 1 + 1 + 1 + 1 + 1 + 1 + 1) d := Nat.ne_of_gt (Nat.lt_add_of_pos_right (show 0 < 9 by decide))
theorem al_c9 {d : Addr} {l r : List (Addr × Obj)} (h : AllLt d l) (m : ∀ p ∈ r, p ∈ l) : ∀ p ∈ r, @Ne Nat p.1 (d + 1 + 1 + 1 + 1 + 1 + 1 + 1 + 1 + 1) := fun p hp => Nat.ne_of_lt (Nat.lt_of_lt_of_le (ltm h p (m p hp)) (Nat.le_add_right d 9))
theorem ne_all3 {r : Addr} : ∀ {news rest : List (Addr × Obj)}, NeAll r news → (∀ p ∈ rest, p ∈ news) → ∀ p ∈ rest, p.1 ≠ r := fun {news rest} h m p hp => by
  have : ∀ {l : List (Addr × Obj)}, NeAll r l → ∀ q ∈ l, q.1 ≠ r := by
    intro l
    induction l with
    | nil => intro _ q hq; cases hq
    | cons a t ih =>
      intro h q hq
      rcases List.mem_cons.mp hq with rfl | hq
      · exact h.1
      · exact ih h.2 q hq
  exact this h p (m p hp)
theorem lt_of1 {L d : Addr} {o : Obj} {l : List (Addr × Obj)} (h : AllLt d l) (m : ((L + 1 : Nat), o) ∈ l) : @LT.lt Nat _ L d := Nat.lt_trans lt1 (ltm h _ m)
theorem acons {α : Type} {P : α → Prop} {a : α} {l : List α} (h : P a) (t : ∀ x ∈ l, P x) : ∀ x ∈ a :: l, P x := List.forall_mem_cons.mpr ⟨h, t⟩
theorem mem1 {α : Type} {a0 a1 : α} {l : List α} : a1 ∈ a0 :: a1 :: l := .tail _ (.head _)
theorem mem2 {α : Type} {a0 a1 a2 : α} {l : List α} : a2 ∈ a0 :: a1 :: a2 :: l := .tail _ (.tail _ (.head _))
theorem mem3 {α : Type} {a0 a1 a2 a3 : α} {l : List α} : a3 ∈ a0 :: a1 :: a2 :: a3 :: l := .tail _ (.tail _ (.tail _ (.head _)))
end
section
open PySem PySem.Spec PySem.Calls PySem.W PyProof.Rows
/-- the name x stands in the table as k, and is no name of the machine's own -/
def okK (k : NameKind) (names : List (Str × NameKind)) (x : Str) : Bool := names.lookup x == some k && !(x == ("__debug__" : Str))
theorem okK_l {k : NameKind} {names : List (Str × NameKind)} {x : Str} (h : okK k names x = true) : names.lookup x = some k ∧ (x == ("__debug__" : Str)) = false := by
  unfold okK at h
  simp only [Bool.and_eq_true, Bool.not_eq_true', beq_iff_eq] at h
  exact ⟨h.1, by simpa using h.2⟩
section
variable {M : Model} {A : Around} {E : Value → Shared → Prop} {h₀ : Heap} {L a : Addr} {cn : Str} {cs : Scope} {ccd : Value} {m mg mb : Str → Option Value} {s : Shared} {x : Str} {pos : Pos} {v : Value} {Q : Value → Shared → Prop} {K : Frag} {p : Program} {loose : List Str} {news : List (Addr × Obj)} {c : Addr} {o : Obj}
theorem nmO (F : Fr h₀ L s.heap m) (hv : m x = some v) (h : Q v s) (ok : okK .local cs.names x = true) (hk : cs.kind = .function) : wpAny M A (eval (.Name x pos) (envOf cn cs L a ccd)) Q E s :=
  nameX_L (cl := []) F hv h hk (okK_l ok).1 (okK_l ok).2
theorem nmOG (F : Fr h₀ L s.heap m) (X : K.In h₀) (T : TopRead p loose mg mb h₀) (e : nsIn K mainGlobals x = some (some v)) (h : Q v s) (ok : okK .globalImplicit cs.names x = true) (hk : cs.kind = .function) : wpAny M A (eval (.Name x pos) (envOf cn cs L a ccd)) Q E s :=
  nameX_K (cl := []) F X T e h hk (okK_l ok).1 (okK_l ok).2
theorem nmOB (F : Fr h₀ L s.heap m) (X : K.In h₀) (T : TopRead p loose mg mb h₀) (e : nsIn K mainGlobals x = some none) (hv : bootBuiltins x = some v) (hn : (x != "__name__") = true) (h : Q v s) (ok : okK .globalImplicit cs.names x = true) (hk : cs.kind = .function) : wpAny M A (eval (.Name x pos) (envOf cn cs L a ccd)) Q E s :=
  nameX_B (cl := []) F X T e hv (bne_iff_ne.mp hn) h hk (okK_l ok).1 (okK_l ok).2
theorem nmC (F : Fr h₀ L s.heap m) (hv : m x = some v) (h : Q v s) (ok : okK .local cs.names x = true) (hk : cs.kind = .function) : wpAny M A (eval (.Name x pos) (envOfC cn cs L a ccd)) Q E s :=
  nameX_L (cl := cellsFrom (L + 1) cs.names []) F hv h hk (okK_l ok).1 (okK_l ok).2
theorem nmCG (F : Fr h₀ L s.heap m) (X : K.In h₀) (T : TopRead p loose mg mb h₀) (e : nsIn K mainGlobals x = some (some v)) (h : Q v s) (ok : okK .globalImplicit cs.names x = true) (hk : cs.kind = .function) : wpAny M A (eval (.Name x pos) (envOfC cn cs L a ccd)) Q E s :=
  nameX_K (cl := cellsFrom (L + 1) cs.names []) F X T e h hk (okK_l ok).1 (okK_l ok).2
theorem nmCB (F : Fr h₀ L s.heap m) (X : K.In h₀) (T : TopRead p loose mg mb h₀) (e : nsIn K mainGlobals x = some none) (hv : bootBuiltins x = some v) (hn : (x != "__name__") = true) (h : Q v s) (ok : okK .globalImplicit cs.names x = true) (hk : cs.kind = .function) : wpAny M A (eval (.Name x pos) (envOfC cn cs L a ccd)) Q E s :=
  nameX_B (cl := cellsFrom (L + 1) cs.names []) F X T e hv (bne_iff_ne.mp hn) h hk (okK_l ok).1 (okK_l ok).2
theorem nmCC (N : News h₀ L s.heap news) (hc : (cellsFrom (L + 1) cs.names []).lookup x = some c) (hm : (c, o) ∈ news) (hd : o.data = .cell (some v)) (h : Q v s) (ok : okK .cell cs.names x = true) (hk : cs.kind = .function) : wpAny M A (eval (.Name x pos) (envOfC cn cs L a ccd)) Q E s :=
  nameX_C (cl := cellsFrom (L + 1) cs.names []) N hc hm hd h hk (okK_l ok).1 (okK_l ok).2
end
section
variable {M : Model} {A : Around} {E : Value → Shared → Prop} {h₀ : Heap} {L a : Addr} {cn : Str} {cs : Scope} {ccd : Value} {m : Str → Option Value} {hp : Heap} {gn : Array GenState} {dr : Drawn} {tk : Tok} {os : OsState} {x : Str} {v : Value} {Q : Unit → Shared → Prop} {news : List (Addr × Obj)} {g : Obj → List (Addr × Obj)} {c : Addr} {o : Obj} {v₀ : Option Value}
theorem stO (F : Fr h₀ L hp m) (N : News h₀ L hp news) (h : ∀ h', Fr h₀ L h' (fun y => if y = x then some v else m y) → News h₀ L h' news → Q () ⟨h', gn, dr, tk + 1, os⟩)
    (ok : okK .local cs.names x = true) (hk : cs.kind = .function) : wpAny M A (storeName (envOf cn cs L a ccd) x v) Q E ⟨hp, gn, dr, tk, os⟩ := storeX_L (cl := []) F N h hk (okK_l ok).1
theorem stC (F : Fr h₀ L hp m) (N : News h₀ L hp news) (h : ∀ h', Fr h₀ L h' (fun y => if y = x then some v else m y) → News h₀ L h' news → Q () ⟨h', gn, dr, tk + 1, os⟩)
    (ok : okK .local cs.names x = true) (hk : cs.kind = .function) : wpAny M A (storeName (envOfC cn cs L a ccd) x v) Q E ⟨hp, gn, dr, tk, os⟩ := storeX_L (cl := cellsFrom (L + 1) cs.names []) F N h hk (okK_l ok).1
theorem stCC (F : Fr h₀ L hp m) (N : News h₀ L hp news) (hc : (cellsFrom (L + 1) cs.names []).lookup x = some c) (U : UpdF c o news g) (hd : o.data = .cell v₀)
    (h : ∀ h' o', Fr h₀ L h' m → News h₀ L h' (g o') → o'.data = .cell (some v) → Q () ⟨h', gn, dr, tk, os⟩)
    (ok : okK .cell cs.names x = true) (hk : cs.kind = .function) : wpAny M A (storeName (envOfC cn cs L a ccd) x v) Q E ⟨hp, gn, dr, tk, os⟩ := storeX_C (cl := cellsFrom (L + 1) cs.names []) F N hc U hd h hk (okK_l ok).1
end
theorem foldL {A : Around} {E : Value → Shared → Prop} {body : List Stmt} {e : Env} {M : Model} {s : Shared} {Q : Flow → Shared → Prop} (h : let env := e; let A' := A; wpAny M A' (execs body env) Q E s) : wpAny M A (execs body e) Q E s := h
theorem memQ {α : Type} {x a b c d : α} {l : List α} (h : x ∈ l) : x ∈ a :: b :: c :: d :: l := .tail _ (.tail _ (.tail _ (.tail _ h)))
theorem exT {M : Model} {A : Around} {E : Value → Shared → Prop} {st : Stmt} {rest : List Stmt} {env : Env} {Q : Flow → Shared → Prop} {h : Heap} {g : Array GenState} {d : Drawn} {t : Tok} {os : OsState}
    (H : ∀ t', wpAny M A (exec st env) (fun f s' => match f with | .next => wpAny M A (execs rest env) Q E s' | f => Q f s') E ⟨h, g, d, t', os⟩) : wpAny M A (execs (st :: rest) env) Q E ⟨h, g, d, t, os⟩ := wpAny_execs_cons (H t)
theorem up_ne0 {L r : Nat} (h : r < L) : r < L + 1 := Nat.lt_succ_of_lt h
theorem up_ne1 {L r : Nat} (h : r < L) : L + 1 ≠ r := Nat.ne_of_gt (up_ne0 h)
theorem up_ne2 {L r : Nat} (h : r < L) : L + 1 + 1 ≠ r := Nat.ne_of_gt (up_ne0 (up_ne0 h))
theorem up_ne3 {L r : Nat} (h : r < L) : L + 1 + 1 + 1 ≠ r := Nat.ne_of_gt (up_ne0 (up_ne0 (up_ne0 h)))
theorem up_ne4 {L r : Nat} (h : r < L) : L + 1 + 1 + 1 + 1 ≠ r := Nat.ne_of_gt (up_ne0 (up_ne0 (up_ne0 (up_ne0 h))))
theorem up_ne5 {L r : Nat} (h : r < L) : L + 1 + 1 + 1 + 1 + 1 ≠ r := Nat.ne_of_gt (up_ne0 (up_ne0 (up_ne0 (up_ne0 (up_ne0 h)))))
theorem up_ne6 {L r : Nat} (h : r < L) : L + 1 + 1 + 1 + 1 + 1 + 1 ≠ r := Nat.ne_of_gt (up_ne0 (up_ne0 (up_ne0 (up_ne0 (up_ne0 (up_ne0 h))))))
theorem up_ne7 {L r : Nat} (h : r < L) : L + 1 + 1 + 1 + 1 + 1 + 1 + 1 ≠ r := Nat.ne_of_gt (up_ne0 (up_ne0 (up_ne0 (up_ne0 (up_ne0 (up_ne0 (up_ne0 h)))))))
theorem up_ne8 {L r : Nat} (h : r < L) : L + 1 + 1 + 1 + 1 + 1 + 1 + 1 + 1 ≠ r := Nat.ne_of_gt (up_ne0 (up_ne0 (up_ne0 (up_ne0 (up_ne0 (up_ne0 (up_ne0 (up_ne0 h))))))))
theorem up_ne9 {L r : Nat} (h : r < L) : L + 1 + 1 + 1 + 1 + 1 + 1 + 1 + 1 + 1 ≠ r := Nat.ne_of_gt (up_ne0 (up_ne0 (up_ne0 (up_ne0 (up_ne0 (up_ne0 (up_ne0 (up_ne0 (up_ne0 h)))))))))
theorem cells9 {L r : Nat} (h : r < L) {o1 o2 o3 o4 o5 o6 o7 o8 o9 : Obj} : NeAll r [(L + 1 + 1 + 1 + 1 + 1 + 1 + 1 + 1 + 1, o9), (L + 1 + 1 + 1 + 1 + 1 + 1 + 1 + 1, o8), (L + 1 + 1 + 1 + 1 + 1 + 1 + 1, o7), (L + 1 + 1 + 1 + 1 + 1 + 1, o6), (L + 1 + 1 + 1 + 1 + 1, o5), (L + 1 + 1 + 1 + 1, o4), (L + 1 + 1 + 1, o3), (L + 1 + 1, o2), (L + 1, o1)] := ⟨up_ne9 h, up_ne8 h, up_ne7 h, up_ne6 h, up_ne5 h, up_ne4 h, up_ne3 h, up_ne2 h, up_ne1 h, trivial⟩
theorem cells3 {L r : Nat} (h : r < L) {o1 o2 o3 : Obj} : NeAll r [(L + 1 + 1 + 1, o3), (L + 1 + 1, o2), (L + 1, o1)] := ⟨up_ne3 h, up_ne2 h, up_ne1 h, trivial⟩
theorem lt_toN {f : Int} {n m : Nat} (h0 : 0 ≤ f) (h1 : f.toNat < n) (h2 : m = n) : f < (m : Int) := h2 ▸ (Int.toNat_lt h0).mp h1
theorem nle_toN {f : Int} {n m : Nat} (h0 : 0 ≤ f) (h1 : f.toNat < n) (h2 : m = n) : ¬ (m : Int) ≤ f := Int.not_le.mpr (lt_toN h0 h1 h2)
theorem bnd {z : Int} (h1 : -32768 ≤ z) (h2 : z ≤ 32767) : -32768 ≤ z ∧ z < 32768 := ⟨h1, Int.lt_of_le_of_lt h2 (by decide)⟩
theorem nle_toD {f : Int} {n m : Nat} [Decidable ((m : Int) ≤ f)] (h0 : 0 ≤ f) (h1 : f.toNat < n) (h2 : m = n) : ¬ decide ((m : Int) ≤ f) = true := fun z => nle_toN h0 h1 h2 (of_decide_eq_true z)
theorem mm_t {f n a b c : Int} (h1 : a ≤ if n < f then n else f) (h2 : (if f < n then n else f) ≤ b) (h3 : c = b + 1) : a ≤ f ∧ f < c ∧ a ≤ n ∧ n < c := by
  subst h3
  split at h1 <;> split at h2 <;> omega
theorem bnd0 : -32768 ≤ (0 : Int) ∧ (0 : Int) < 32768 := ⟨by decide, by decide⟩
theorem bnd1 : -32768 ≤ (16384 : Int) ∧ (16384 : Int) < 32768 := ⟨by decide, by decide⟩
theorem exT2 {M : Model} {A : Around} {E : Value → Shared → Prop} {st : Stmt} {rest : List Stmt} {env : Env} {Q : Flow → Shared → Prop} {h : Heap} {g : Array GenState} {d : Drawn} {t : Tok} {os : OsState} {h₀ : Heap} {L : Addr} {m : Str → Option Value} {D : List (Addr × Obj)} (F : Fr h₀ L h m) (N : News h₀ L h D)
    (H : ∀ t', let m' := m; let D' := D; Fr h₀ L h m' → News h₀ L h D' → wpAny M A (exec st env) (fun f s' => match f with | .next => wpAny M A (execs rest env) Q E s' | f => Q f s') E ⟨h, g, d, t', os⟩) : wpAny M A (execs (st :: rest) env) Q E ⟨h, g, d, t, os⟩ := wpAny_execs_cons (H t F N)
end
section
open PySem PySem.Spec PySem.Calls PySem.W PyProof.Rows
/-- the value of an expression that is a local name or a written int, flag or text -/
def pv (m : Str → Option Value) (e : Expr) (t : Tok) : Option (Value × Tok) := match e with
  | .Name x _ => (m x).map fun v => (v, t)
  | .Constant c _ _ => match c with
    | .int i => some (.int i t, t + 1)
    | .bool b => some (.bool b, t)
    | .str x => some (.str x t, t + 1)
    | _ => none
  | _ => none
def pvs (m : Str → Option Value) : List Expr → Tok → Option (List Value × Tok)
  | [], t => some ([], t)
  | e :: es, t => match pv m e t with
    | some (v, t1) => match pvs m es t1 with
      | some (vs, t2) => some (v :: vs, t2)
      | none => none
    | none => none
def okName (names : List (Str × NameKind)) (x : Str) : Bool := names.lookup x == some .local && !(x == ("__debug__" : Str))
def okE (names : List (Str × NameKind)) (e : Expr) : Bool := match e with
  | .Name x _ => okName names x
  | .Constant _ _ _ => true
  | _ => false
def okEs (names : List (Str × NameKind)) : List Expr → Bool
  | [] => true
  | e :: es => okE names e && okEs names es
section
variable {prog : Program} {w : World} {A : Around} {E : Value → Shared → Prop} {h₀ : Heap} {L a : Addr} {cn : Str} {cs : Scope} {ccd : Value} {cl : List (Str × Addr)} {m : Str → Option Value} {hh : Heap} {gn : Array GenState} {dr : Drawn} {tk : Tok} {os : OsState}
theorem pv_eval (hk : cs.kind = .function) {h : Heap} {g : Array GenState} {d : Drawn} {os : OsState} (F : Fr h₀ L h m) (e : Expr) (t : Tok) (v : Value) (t' : Tok) (Q : Value → Shared → Prop) (hp : pv m e t = some (v, t')) (ok : okE cs.names e = true)
    (q : Q v ⟨h, g, d, t', os⟩) : wpAny (model prog w) A (eval e (envX cn cs L a ccd cl)) Q E ⟨h, g, d, t, os⟩ := by
  cases e
  case Name x p =>
    have ok' : okName cs.names x = true := ok
    unfold okName at ok'
    simp only [Bool.and_eq_true, Bool.not_eq_true', beq_iff_eq] at ok'
    have hp' : (m x).map (fun v => (v, t)) = some (v, t') := hp
    cases hm : m x with
    | none => rw [hm] at hp'; cases hp'
    | some u => rw [hm] at hp'; cases hp'; exact nameX_L F hm q hk ok'.1 (by simpa using ok'.2)
  case Constant c k p =>
    cases c
    case int i => cases hp; exact wpAny_Constant_int q
    case bool b => cases hp; exact Constant_bool q
    case str x => cases hp; exact Constant_str q
    all_goals cases hp
  all_goals cases hp
theorem ok_star {e : Expr} {rest : List Expr} {env : Env} (h : okE cs.names e = true) : starEach (e :: rest) env = (false, eval e env) :: starEach rest env := by
  cases e <;> first | rfl | (unfold okE at h; cases h)
theorem pvs_eval (hk : cs.kind = .function) {h : Heap} {g : Array GenState} {d : Drawn} {os : OsState} (F : Fr h₀ L h m) {pos : Pos} : ∀ (es : List Expr) (t : Tok) (vs : List Value) (t' : Tok) (Q : List Value → Shared → Prop), pvs m es t = some (vs, t') → okEs cs.names es = true →
    Q vs ⟨h, g, d, t', os⟩ → wpAny (model prog w) A (spliced (backTo pos (starEach es (envX cn cs L a ccd cl)))) Q E ⟨h, g, d, t, os⟩
  | [], t, vs, t', Q, hp, ok, q => by unfold pvs at hp; cases hp; exact args_nil q
  | e :: es, t, vs, t', Q, hp, ok, q => by
    unfold pvs at hp
    unfold okEs at ok
    simp only [Bool.and_eq_true] at ok
    split at hp
    · rename_i v t1 hv
      split at hp
      · rename_i vs' t2 hvs
        cases hp
        exact args_cons (pv_eval hk F e _ _ _ _ hv ok.1 (pvs_eval hk F es _ _ _ _ hvs ok.2 q)) (ok_star ok.1)
      · cases hp
    · cases hp
theorem args_pv (F : Fr h₀ L hh m) {es : List Expr} {pos : Pos} {vs : List Value} {t' : Tok} {Q : List Value → Shared → Prop} (hk : cs.kind = .function) (hp : pvs m es tk = some (vs, t')) (ok : okEs cs.names es = true)
    (h : Q vs ⟨hh, gn, dr, t', os⟩) : wpAny (model prog w) A (spliced (backTo pos (starEach es (envX cn cs L a ccd cl)))) Q E ⟨hh, gn, dr, tk, os⟩ := pvs_eval hk F es _ _ _ _ hp ok h
theorem ok_any {pos : Pos} {env : Env} : ∀ {es : List Expr}, okEs cs.names es = true → (backTo pos (starEach es env)).any (·.1) = false
  | [], _ => rfl
  | e :: es, h => by
    unfold okEs at h
    simp only [Bool.and_eq_true] at h
    rw [ok_star h.1]
    show (false || (backTo pos (starEach es env)).any (·.1)) = false
    rw [ok_any h.2]; rfl
theorem pv1 (F : Fr h₀ L hh m) {e : Expr} {v : Value} {t' : Tok} {Q : Value → Shared → Prop} (hk : cs.kind = .function) (hp : pv m e tk = some (v, t')) (ok : okE cs.names e = true)
    (h : Q v ⟨hh, gn, dr, t', os⟩) : wpAny (model prog w) A (eval e (envX cn cs L a ccd cl)) Q E ⟨hh, gn, dr, tk, os⟩ := pv_eval hk F e _ _ _ _ hp ok h
def okG (names : List (Str × NameKind)) (x : Str) : Bool := names.lookup x == some .globalImplicit && !(x == ("__debug__" : Str))
theorem okG_l {x : Str} (h : okG cs.names x = true) : cs.names.lookup x = some .globalImplicit ∧ (x == ("__debug__" : Str)) = false := by
  unfold okG at h
  simp only [Bool.and_eq_true, Bool.not_eq_true', beq_iff_eq] at h
  exact ⟨h.1, by simpa using h.2⟩
theorem callN {K : Frag} {p : Program} {loose : List Str} {mg mb : Str → Option Value} {x : Str} {pos pos' : Pos} {f : Addr} {es : List Expr} {vs : List Value} {t' : Tok} {Q : Value → Shared → Prop}
    (F : Fr h₀ L hh m) (X : K.In h₀) (T : TopRead p loose mg mb h₀) (e : nsIn K mainGlobals x = some (some (.ref f))) (hf : keepIn K (.ref f) = true) (hk : cs.kind = .function)
    (hp : pvs m es tk = some (vs, t')) (ok : (okG cs.names x && okEs cs.names es) = true)
    (h : wpAny (model prog w) A (call (.ref f) vs) Q E ⟨hh, gn, dr, t', os⟩) : wpAny (model prog w) A (eval (.Call (.Name x pos) es [] pos') (envX cn cs L a ccd cl)) Q E ⟨hh, gn, dr, tk, os⟩ := by
  rw [Bool.and_eq_true] at ok
  refine Call_ (nameX_K F X T e ?_ hk (okG_l ok.1).1 (okG_l ok.1).2)
  cases es with
  | nil => unfold pvs at hp; cases hp; exact callWith_K0 (X.keeps F.keep) hf h
  | cons e rest =>
    have ok2 := ok.2
    unfold okEs at ok2
    rw [Bool.and_eq_true] at ok2
    refine callWith_K X hf (args_pv F hk hp ok.2 ⟨X.keeps F.keep, h⟩) (ok_star ok2.1) (ok_any ok2.2)
theorem callB {K : Frag} {p : Program} {loose : List Str} {mg mb : Str → Option Value} {x : Str} {pos pos' : Pos} {id : String} {e : Expr} {es : List Expr} {vs : List Value} {t' : Tok} {Q : Value → Shared → Prop}
    (F : Fr h₀ L hh m) (X : K.In h₀) (T : TopRead p loose mg mb h₀) (eg : nsIn K mainGlobals x = some none) (hv : bootBuiltins x = some (.builtin id)) (hn : x ≠ "__name__") (hk : cs.kind = .function)
    (hp : pvs m (e :: es) tk = some (vs, t')) (ok : (okG cs.names x && okEs cs.names (e :: es)) = true)
    (h : wpAny (model prog w) A (call (.builtin id) vs) Q E ⟨hh, gn, dr, t', os⟩) : wpAny (model prog w) A (eval (.Call (.Name x pos) (e :: es) [] pos') (envX cn cs L a ccd cl)) Q E ⟨hh, gn, dr, tk, os⟩ := by
  rw [Bool.and_eq_true] at ok
  refine Call_ (nameX_B F X T eg hv hn ?_ hk (okG_l ok.1).1 (okG_l ok.1).2)
  have ok2 := ok.2
  unfold okEs at ok2
  rw [Bool.and_eq_true] at ok2
  exact callWith_builtin1 (args_pv F hk hp ok.2 h) (ok_star ok2.1) (ok_any ok2.2)
theorem callT {K : Frag} {p : Program} {loose : List Str} {mg mb : Str → Option Value} {x : Str} {pos pos' : Pos} {id : String} {e : Expr} {es : List Expr} {vs : List Value} {t' : Tok} {Q : Value → Shared → Prop}
    (F : Fr h₀ L hh m) (X : K.In h₀) (T : TopRead p loose mg mb h₀) (eg : nsIn K mainGlobals x = some none) (hv : bootBuiltins x = some (.type id)) (hn : x ≠ "__name__") (hk : cs.kind = .function)
    (hp : pvs m (e :: es) tk = some (vs, t')) (ok : (okG cs.names x && okEs cs.names (e :: es)) = true)
    (h : wpAny (model prog w) A (call (.type id) vs) Q E ⟨hh, gn, dr, t', os⟩) : wpAny (model prog w) A (eval (.Call (.Name x pos) (e :: es) [] pos') (envX cn cs L a ccd cl)) Q E ⟨hh, gn, dr, tk, os⟩ := by
  rw [Bool.and_eq_true] at ok
  refine Call_ (nameX_B F X T eg hv hn ?_ hk (okG_l ok.1).1 (okG_l ok.1).2)
  have ok2 := ok.2
  unfold okEs at ok2
  rw [Bool.and_eq_true] at ok2
  exact callWith_type1 (args_pv F hk hp ok.2 h) (ok_star ok2.1) (ok_any ok2.2)
theorem tupK {news : List (Addr × Obj)} {es : List Expr} {k : Nat} {pos : Pos} {vs : List Value} {t' : Tok} {Q : Value → Shared → Prop} (F : Fr h₀ L hh m) (N : News h₀ L hh news) (hk : cs.kind = .function)
    (hp : pvs m es tk = some (vs, t')) (ok : okEs cs.names es = true) (hz : vs.length ≤ sizeLine)
    (h : ∀ D h', Fr h₀ L h' m → News h₀ L h' ((D, ({ cls := .type "tuple", data := .seq vs.toArray } : Obj)) :: news) → AllLt D news → Q (.ref D) ⟨h', gn, dr, t', os⟩) : wpAny (model prog w) A (eval (.Tuple es k pos) (envX cn cs L a ccd cl)) Q E ⟨hh, gn, dr, tk, os⟩ :=
  Tuple_ (args_pv F hk hp ok (kup_newTuple (s := ⟨hh, gn, dr, t', os⟩) F N (fun D h' F' N' l => h D h' F' N' (allLt_of l)) hz))
theorem lstK {news : List (Addr × Obj)} {es : List Expr} {pos : Pos} {vs : List Value} {t' : Tok} {Q : Value → Shared → Prop} (F : Fr h₀ L hh m) (N : News h₀ L hh news) (hk : cs.kind = .function)
    (hp : pvs m es tk = some (vs, t')) (ok : okEs cs.names es = true) (hz : vs.length ≤ sizeLine)
    (h : ∀ D h', Fr h₀ L h' m → News h₀ L h' ((D, listOf vs.toArray 0) :: news) → AllLt D news → Q (.ref D) ⟨h', gn, dr, t', os⟩) : wpAny (model prog w) A (eval (.List es pos) (envX cn cs L a ccd cl)) Q E ⟨hh, gn, dr, tk, os⟩ :=
  List_ (args_pv F hk hp ok (newList_K (s := ⟨hh, gn, dr, t', os⟩) F N (fun D h' F' N' l => h D h' F' N' (allLt_of l)) hz))
theorem binN {l r : Expr} {op : Operator} {pos : Pos} {va vb : Value} {t1 t' : Tok} {Q : Value → Shared → Prop} (F : Fr h₀ L hh m) (hk : cs.kind = .function) (hl : pv m l tk = some (va, t1)) (hr : pv m r t1 = some (vb, t'))
    (ok : (okE cs.names l && okE cs.names r) = true) (h : wpAny (model prog w) A (binaryOp op va vb) Q E ⟨hh, gn, dr, t', os⟩) : wpAny (model prog w) A (eval (.BinOp l op r pos) (envX cn cs L a ccd cl)) Q E ⟨hh, gn, dr, tk, os⟩ := by
  rw [Bool.and_eq_true] at ok
  exact wpAny_BinOp (pv1 F hk hl ok.1 (pv1 F hk hr ok.2 h))
theorem cmpT {l r : Expr} {op : CmpOp} {pos : Pos} {whole : Sem Value} {va vb : Value} {t1 t' : Tok} {Q : Bool → Shared → Prop} (F : Fr h₀ L hh m) (hk : cs.kind = .function) (hl : pv m l tk = some (va, t1)) (hr : pv m r t1 = some (vb, t'))
    (ok : (okE cs.names l && okE cs.names r && !behindInMarks op r) = true) (h : wpAny (model prog w) A (compareOp op va vb) (fun c s => wpAny (model prog w) A (truthy c) Q E s) E ⟨hh, gn, dr, t', os⟩) : wpAny (model prog w) A (isTrue (.Compare l [op] [r] pos) (envX cn cs L a ccd cl) whole) Q E ⟨hh, gn, dr, tk, os⟩ := by
  simp only [Bool.and_eq_true, Bool.not_eq_true'] at ok
  exact wpAny_isTrue_Compare1 (pv1 F hk hl ok.1.1 (pv1 F hk hr ok.1.2 h)) ok.2
theorem attrN {x attr : Str} {xp pos : Pos} {v : Value} {Q : Value → Shared → Prop} (F : Fr h₀ L hh m) (hk : cs.kind = .function) (hv : m x = some v) (ok : okName cs.names x = true)
    (h : wpAny (model prog w) A (getAttr v attr true) Q E ⟨hh, gn, dr, tk, os⟩) : wpAny (model prog w) A (eval (.Attribute (.Name x xp) attr pos) (envX cn cs L a ccd cl)) Q E ⟨hh, gn, dr, tk, os⟩ := by
  unfold okName at ok
  simp only [Bool.and_eq_true, Bool.not_eq_true', beq_iff_eq] at ok
  exact Attribute_Name_ (nameX_L F hv h hk ok.1 (by simpa using ok.2))
theorem retN {e : Expr} {pos : Pos} {v : Value} {t' : Tok} {Q : Flow → Shared → Prop} (F : Fr h₀ L hh m) (hk : cs.kind = .function) (hp : pv m e tk = some (v, t')) (ok : okE cs.names e = true)
    (h : Q (.ret v) ⟨hh, gn, dr, t', os⟩) : wpAny (model prog w) A (exec (.Return (some e) pos) (envX cn cs L a ccd cl)) Q E ⟨hh, gn, dr, tk, os⟩ := wpAny_Return_some (pv1 F hk hp ok h)
end
end
section
open PySem PySem.Spec PySem.Calls PySem.W PyProof.Rows
theorem ne_all {a r : Addr} {o : Obj} {news : List (Addr × Obj)} (h : NeAll r news) (hm : (a, o) ∈ news) : a ≠ r := by
  induction news with
  | nil => cases hm
  | cons p q ih =>
    rcases List.mem_cons.mp hm with rfl | hm
    · exact h.1
    · exact ih h.2 hm
def NeA (a b : Addr) : Prop := a ≠ b
theorem NeA.a {a b : Addr} (h : NeA a b) : a ≠ b := h
theorem NeA.b {a b : Addr} (h : NeA a b) : b ≠ a := Ne.symm h
def Off (rest news : List (Addr × Obj)) : Prop := ∀ q ∈ news, ∀ p ∈ rest, p.1 ≠ q.1
theorem off_get {rest news : List (Addr × Obj)} {a : Addr} {o : Obj} (h : Off rest news) (hm : (a, o) ∈ news) : ∀ p ∈ rest, p.1 ≠ a := fun p hp => h (a, o) hm p hp
end
open PySem PySem.Spec PySem.Calls PySem.W PyProof.Rows
local macro_rules | `(tactic| k_lt $h) => `(tactic| replace $h := allLt_of $h)
local macro_rules | `(tactic| k_ne) => `(tactic| ((try dsimp only); first | exact NeA.a (by with_reducible assumption) | exact NeA.b (by with_reducible assumption) | exact ne_all (by with_reducible assumption) (by k_mem) | exact Ne.symm (ne_all (by with_reducible assumption) (by k_mem)) | exact ne_lt (by with_reducible assumption) (by k_mem) | exact ne_gt (by with_reducible assumption) (by k_mem) | exact ne_c2 (by with_reducible assumption) (by k_mem) | exact ne_c3 (by with_reducible assumption) (by k_mem) | exact ne_c7 (by with_reducible assumption) (by k_mem) | exact ne_c8 (by with_reducible assumption) (by k_mem) | exact ne_d1 (by with_reducible assumption) (by k_mem) | exact ne_d2 (by with_reducible assumption) (by k_mem) | exact ne_d3 (by with_reducible assumption) (by k_mem) | exact ne_d4 (by with_reducible assumption) (by k_mem) | exact ne_d5 (by with_reducible assumption) (by k_mem) | exact ne_d6 (by with_reducible assumption) (by k_mem) | exact ne_d7 (by with_reducible assumption) (by k_mem) | exact ne_d8 (by with_reducible assumption) (by k_mem) | exact ne_d9 (by with_reducible assumption) (by k_mem) | exact ne_u1 | exact ne_u2 | exact ne_u3 | exact ne_u4 | exact ne_u5 | exact ne_u6 | exact ne_u7 | exact ne_u8 | exact ne_v1 | exact ne_v2 | exact ne_v3 | exact ne_v4 | exact ne_v5 | exact ne_v6 | exact ne_v7 | exact Nat.ne_of_lt (by with_reducible assumption) | exact Nat.ne_of_gt (by with_reducible assumption) | exact nel (by with_reducible assumption) (by with_reducible assumption) (by k_mem) | exact neg (by with_reducible assumption) (by with_reducible assumption) (by k_mem) | (refine neN ?_; omega)))
local macro_rules | `(tactic| k_all) => `(tactic| first | with_reducible assumption | exact off_get (by with_reducible assumption) (by k_mem) | (refine List.forall_mem_append.mpr ⟨?a, ?b⟩; (case a => k_all); (case b => k_all)) | (focus (refine ne_all3 (by with_reducible assumption) (fun p hp => ?_); (repeat (first | exact hp | exact List.mem_append_left _ hp | exact List.mem_append_right _ hp | refine List.Mem.tail _ ?_ | refine List.mem_append_right _ ?_)); all_goals fail)) | (focus (refine all_lt (by with_reducible assumption) (fun p hp => ?_); (repeat (first | exact hp | exact List.mem_append_left _ hp | exact List.mem_append_right _ hp | refine List.Mem.tail _ ?_ | refine List.mem_append_right _ ?_)); all_goals fail)) | (focus (refine al_c1 (by with_reducible assumption) (fun p hp => ?_); (repeat (first | exact hp | exact List.mem_append_left _ hp | exact List.mem_append_right _ hp | refine List.Mem.tail _ ?_ | refine List.mem_append_right _ ?_)); all_goals fail)) | (focus (refine al_c2 (by with_reducible assumption) (fun p hp => ?_); (repeat (first | exact hp | exact List.mem_append_left _ hp | exact List.mem_append_right _ hp | refine List.Mem.tail _ ?_ | refine List.mem_append_right _ ?_)); all_goals fail)) | (focus (refine al_c3 (by with_reducible assumption) (fun p hp => ?_); (repeat (first | exact hp | exact List.mem_append_left _ hp | exact List.mem_append_right _ hp | refine List.Mem.tail _ ?_ | refine List.mem_append_right _ ?_)); all_goals fail)) | (focus (refine al_c4 (by with_reducible assumption) (fun p hp => ?_); (repeat (first | exact hp | exact List.mem_append_left _ hp | exact List.mem_append_right _ hp | refine List.Mem.tail _ ?_ | refine List.mem_append_right _ ?_)); all_goals fail)) | (focus (refine al_c7 (by with_reducible assumption) (fun p hp => ?_); (repeat (first | exact hp | exact List.mem_append_left _ hp | exact List.mem_append_right _ hp | refine List.Mem.tail _ ?_ | refine List.mem_append_right _ ?_)); all_goals fail)) | (focus (refine al_c8 (by with_reducible assumption) (fun p hp => ?_); (repeat (first | exact hp | exact List.mem_append_left _ hp | exact List.mem_append_right _ hp | refine List.Mem.tail _ ?_ | refine List.mem_append_right _ ?_)); all_goals fail)) | fail "k_all")
local macro_rules | `(tactic| ktr_room) => `(tactic| first | exact room_b (by with_reducible assumption) (by decide) | exact room_a (by with_reducible assumption) (by decide) | exact room_z (by with_reducible assumption) | exact room_c (by with_reducible assumption) | fail "room")
local macro_rules | `(tactic| ktr_units) => `(tactic| ktr_room)
local macro_rules | `(tactic| walk_at "ite") => `(tactic| (k_closed; first | ((with_reducible refine ite_pos ?h ?_); (case h => decide)) | ((with_reducible refine ite_neg ?h ?_); (case h => decide))))
local macro_rules | `(tactic| walk_at "eval Name") => `(tactic| (k_here; (with_reducible rename Fr _ _ _ _ => kF); first | ((with_reducible show wpAny _ _ (eval (Expr.Name _ _) (envOf _ _ _ _ _)) _ _ _); first | ((with_reducible refine' nmO kF ?v ?_ ?o ?k); (case o => kernel_rfl!); (case k => exact rfl); (case v => with_unfolding_all exact Eq.refl (some _))) | (with_reducible (refine' nmOG kF ?k1 ?k2 ?k3 ?_ ?o ?k); k_dflt ((case o => kernel_rfl!); (case k => exact rfl); (case k1 => with_reducible assumption); (case k2 => k_asm); (case k3 => k_is); k_whole)) | (with_reducible (refine' nmOB kF ?k1 ?k2 ?k3 ?k4 ?k5 ?_ ?o ?k); k_dflt ((case o => kernel_rfl!); (case k => exact rfl); (case k1 => with_reducible assumption); (case k2 => k_asm); (case k3 => k_is); (case k4 => boot_by_name); (case k5 => kernel_rfl!); k_whole))) | ((with_reducible show wpAny _ _ (eval (Expr.Name _ _) (envOfC _ _ _ _ _)) _ _ _); first | ((with_reducible refine' nmC kF ?v ?_ ?o ?k); (case o => kernel_rfl!); (case k => exact rfl); (case v => with_unfolding_all exact Eq.refl (some _))) | (with_reducible (refine' nmCC ?N ?c ?m ?d ?_ ?o ?k); k_dflt ((case o => kernel_rfl!); (case k => exact rfl); (case N => k_asm); (case c => exact rfl); (case m => k_mem); (case d => k_asm); k_whole)) | (with_reducible (refine' nmCG kF ?k1 ?k2 ?k3 ?_ ?o ?k); k_dflt ((case o => kernel_rfl!); (case k => exact rfl); (case k1 => with_reducible assumption); (case k2 => k_asm); (case k3 => k_is); k_whole)) | (with_reducible (refine' nmCB kF ?k1 ?k2 ?k3 ?k4 ?k5 ?_ ?o ?k); k_dflt ((case o => kernel_rfl!); (case k => exact rfl); (case k1 => with_reducible assumption); (case k2 => k_asm); (case k3 => k_is); (case k4 => boot_by_name); (case k5 => kernel_rfl!); k_whole)))))
local macro_rules | `(tactic| walk_at "execs cons") => `(tactic| (k_here; (with_reducible refine exT ?_); intro t'; k_fold))
local macro_rules | `(tactic| walk_at "storeName") => `(tactic| (k_here; (with_reducible rename Fr _ _ _ _ => kF); (with_reducible rename News _ _ _ _ => kN); first | ((with_reducible show wpAny _ _ (storeName (envOf _ _ _ _ _) _ _) _ _ _); (with_reducible refine' stO kF kN ?_ ?o ?k); (case o => kernel_rfl!); (case k => exact rfl); k_whole; intro h' F' N'; (try k_sweep)) | ((with_reducible show wpAny _ _ (storeName (envOfC _ _ _ _ _) _ _) _ _ _); first | ((with_reducible refine' stC kF kN ?_ ?o ?k); (case o => kernel_rfl!); (case k => exact rfl); k_whole; intro h' F' N'; (try k_sweep)) | (with_reducible (refine' stCC kF kN ?c ?U ?d ?_ ?o ?k); k_dflt ((case o => kernel_rfl!); (case k => exact rfl); (case c => exact rfl); (case U => k_updF); (case d => k_asm); k_whole; intro h' o' F' N' d'; (try dsimp only at N'); (try k_sweep))))))
local macro_rules | `(tactic| walk_at "eval Call") => `(tactic| (k_here; (with_reducible show wpAny _ _ (eval (Expr.Call (Expr.Name _ _) _ [] _) _) _ _ _); (with_reducible rename Fr _ _ _ _ => kF); k_dflt (first | (refine' callN kF ?X ?T ?e ?f ?k ?p ?o ?_; (case o => kernel_rfl!); (case X => with_reducible assumption); (case T => k_asm); (case e => k_is); (case f => k_is); (case k => exact rfl); (case p => with_unfolding_all exact rfl); k_whole) | (refine' callB kF ?X ?T ?e ?v ?n ?k ?p ?o ?_; (case o => kernel_rfl!); (case X => with_reducible assumption); (case T => k_asm); (case e => k_is); (case v => boot_by_name); (case n => decide); (case k => exact rfl); (case p => with_unfolding_all exact rfl); k_whole))))
local macro_rules | `(tactic| walk_at "eval Tuple") => `(tactic| (k_here; (with_reducible rename Fr _ _ _ _ => kF); (with_reducible rename News _ _ _ _ => kN); k_dflt (refine' tupK kF kN ?k ?p ?o ?z ?_; (case o => kernel_rfl!); (case k => exact rfl); (case p => with_unfolding_all exact rfl); (case z => kmk_size); k_whole; intro D' h' F' N' l1; (try k_sweep))))
local macro_rules | `(tactic| walk_at "eval List") => `(tactic| (k_here; (with_reducible rename Fr _ _ _ _ => kF); (with_reducible rename News _ _ _ _ => kN); k_dflt (refine' lstK kF kN ?k ?p ?o ?z ?_; (case o => kernel_rfl!); (case k => exact rfl); (case p => with_unfolding_all exact rfl); (case z => size_fits); k_whole; intro D' h' F' N' l1; (try k_sweep))))
local macro_rules | `(tactic| walk_at "eval BinOp") => `(tactic| (k_here; (with_reducible rename Fr _ _ _ _ => kF); k_dflt (refine' binN kF ?k ?p ?q ?o ?_; (case o => kernel_rfl!); (case k => exact rfl); (case p => with_unfolding_all exact rfl); (case q => with_unfolding_all exact rfl); k_whole)))
local macro_rules | `(tactic| walk_at "isTrue Compare") => `(tactic| (k_here; (with_reducible rename Fr _ _ _ _ => kF); k_dflt (refine' cmpT kF ?k ?p ?q ?o ?_; (case o => kernel_rfl!); (case k => exact rfl); (case p => with_unfolding_all exact rfl); (case q => with_unfolding_all exact rfl); k_whole)))
local macro_rules | `(tactic| walk_at "eval Attribute Name") => `(tactic| (k_here; (with_reducible rename Fr _ _ _ _ => kF); k_dflt (refine' attrN kF ?k ?p ?o ?_; (case o => kernel_rfl!); (case k => exact rfl); (case p => with_unfolding_all exact rfl); k_whole)))
local macro_rules | `(tactic| k_mem) => `(tactic| first | exact List.Mem.head _ | exact mem1 | exact mem2 | exact mem3 | (refine' memQ ?_; k_mem))
local macro_rules | `(tactic| walk_at "callWith") => `(tactic| (k_here; (with_reducible show wpAny _ _ (callWith _ (Value.builtin "list.append") [_] _ _) _ _ _); k_dflt (refine callWith_method1 ?_)))
local macro_rules | `(tactic| walk_at "callWith ref") => `(tactic| (k_here; k_dflt (refine' callWith_K ?k1 ?k2 ?_; (case k1 => k_asm); (case k2 => k_is); k_whole)))
section
open PySem PySem.Spec PySem.Calls PySem.W PyProof.Rows
theorem fm31 (a : Int) : 0 ≤ a.fmod 2147483647 ∧ a.fmod 2147483647 < 2147483647 := by
  rw [Int.fmod_eq_emod_of_nonneg _ (by decide)]
  exact ⟨Int.emod_nonneg _ (by decide), Int.emod_lt_of_pos _ (by decide)⟩
theorem mul31 (a b : Int) : IntMulOk (a.fmod 2147483647) b := IntMulOk.of_left (intBits_le_64 (by have := fm31 a; omega) (by have := fm31 a; omega))
theorem mul31' (a b : Int) (h0 : 0 ≤ a) (h : a < 2147483647) : IntMulOk a b := IntMulOk.of_left (intBits_le_64 (by omega) (by omega))
theorem fm_pos (a b : Int) (h : 0 < b) : 0 ≤ a.fmod b ∧ a.fmod b < b := by
  rw [Int.fmod_eq_emod_of_nonneg _ (by omega)]
  exact ⟨Int.emod_nonneg _ (by omega), Int.emod_lt_of_pos _ h⟩
theorem fd_pos (a b : Int) (ha : 0 ≤ a) (h : 0 < b) : 0 ≤ a.fdiv b := by
  rw [Int.fdiv_eq_ediv_of_nonneg _ (by omega)]
  exact Int.ediv_nonneg ha (by omega)
local macro_rules | `(tactic| mul_fits) => `(tactic| ((try simp only [show Int.toNat 0 = 0 from rfl, show Int.toNat 1 = 1 from rfl, List.getD_cons_zero, List.getD_cons_succ]); exact mul31 _ _))

theorem take_ok : ∀ (w : World) (p : Program) (loose : List Str) (mean : ExcName → Option Value) (mg mb : Str → Option Value) (H₀ : Heap)
  (dp un : Nat) (gd : Option (List Code)) (l : List Env) (s : Shared) (Q E : Value → Shared → Prop) (src : Addr) (x y top : Int) (t1 t2 t3 : Tok) (n : Nat),
  Cx (Mine.hd.heap_1 w.params) p loose mean mg mb H₀ l s.heap → Own H₀ l s.heap src (listOf #[.int x t1, .int y t2] n) →
  0 ≤ x → 0 ≤ y → y < 2147483647 → 0 < top → top ≤ 400 → dp + 3 ≤ 400 → un + 24 ≤ 400 →
  (∀ (r x' y' : Int) t t1 t2 h' tk', 0 ≤ r → r < top → 0 ≤ x' → 0 ≤ y' → y' < 2147483647 → Kp s.heap h' [src] → h'.get? src = some (listOf #[.int x' t1, .int y' t2] n) → Q (.int r t) {s with heap := h', toks := tk'}) →
  wpAny (model PySem.Challenge.rw_on0238_01.row.prog w) (AA dp un gd l) (call (.ref 281) [.ref src, .int top t3]) Q E s := by
  k_fill
  w_top off
  intro w p loose mean mg mb H₀ dp un gd l s Q E src x y top t1 t2 t3 n C O hx hy hy2 ht ht2 hd hu hret
  refine wpAny_call ?_
  let oq0 : Obj := listOf #[.int x t1, .int y t2] n; k_dflt (refine' enterK C [(src, oq0)] ?O ?kA ?k6 ?k7 ?k8 ?k9 ?kB ?_ ?c2 ?c3 ?c4 ?c5; (case O => exact List.forall_mem_singleton.mpr O); (case kA => exact rfl); (case k6 => k_is); (case k7 => k_is); (case k8 => ktr_room); (case k9 => exact BindsTo.of_eq rfl); (case c5 => decide); (case kB => exact locs rfl); (case c2 => exact rfl); (case c3 => exact rfl); (case c4 => exact rfl); k_whole; intro g L' h₁ hL hg F' N' B' X' T'; (try dsimp only); (try k_fold); (try (refine foldL ?_; intro eV aV)))
  k_steps
  · try dsimp only
    (with_reducible rename Fr _ _ _ _ => kF)
    (with_reducible rename News _ _ _ _ => kN)
    exact hret _ _ _ _ _ _ _ _ (fm_pos _ _ ht).1 (fm_pos _ _ ht).2 (fd_pos _ _ hx ht) hy hy2 (kp_of hg kF) (kN _ (.head _)).1
  · try dsimp only
    (with_reducible rename Fr _ _ _ _ => kF)
    (with_reducible rename News _ _ _ _ => kN)
    exact hret _ _ _ _ _ _ _ _ (fm_pos _ _ ht).1 (fm_pos _ _ ht).2 hx (fm31 _).1 (fm31 _).2 (kp_of hg kF) (kN _ (.head _)).1
end
section
open PySem PySem.Spec PySem.Calls PySem.W PyProof.Rows

section
variable {prog : Program} {w : World} {A : Around} {E : Value → Shared → Prop} {s : Shared}
theorem my_len {l : Addr} {vs : List Value} {Q : Value → Shared → Prop} (hl : s.heap.IsList l vs.toArray) (hf : vs.length ≤ 400) (h : Q (.int (vs.length : Nat) (s.toks + 1)) { s with toks := s.toks + 1 + 1 }) : wpAny (model prog w) A (call (.builtin "len") [.ref l]) Q E s := by
  have e : vs.toArray.size = vs.length := by simp
  refine Calls.call_len_list hl (by omega) ?_
  rw [e]
  exact h
theorem my_item {value slice : PySem.Expr} {l : Addr} {vs : List Value} {k : Int} {u : Tok} {Q : Value → Shared → Prop} (hl : s.heap.IsList l vs.toArray) (h0 : 0 ≤ k) (h1 : k < (vs.length : Nat)) (hf : vs.length ≤ 400) (h : ∀ v ∈ vs, Q v s)
    (hs : subscripted slice false (.ref l) (.int k u) = operate [.ref l, .int k u] (getItem (.ref l) (.int k u)) := by with_unfolding_all rfl) (hg : ∀ r, letTemporaryGo value (.ref l) r = pure () := by intro _; with_unfolding_all rfl) :
    wpAny (model prog w) A (subscriptTail value slice (.ref l) (.int k u)) Q E s := by
  have hk : k.toNat < vs.length := by omega
  exact item_list hl h0 (by omega) (x := vs[k.toNat]) (by simp [hk]) (h _ (List.getElem_mem hk)) hs hg
end

theorem one_ok : ∀ (w : World) (p : Program) (loose : List Str) (mean : ExcName → Option Value) (mg mb : Str → Option Value) (H₀ : Heap)
  (dp un : Nat) (gd : Option (List Code)) (l : List Env) (s : Shared) (Q E : Value → Shared → Prop) (src th : Addr) (x y : Int) (t1 t2 : Tok) (n n' : Nat) (vs : List Value),
  Cx (Mine.hd.heap_1 w.params) p loose mean mg mb H₀ l s.heap → Own H₀ l s.heap src (listOf #[.int x t1, .int y t2] n) → Own H₀ l s.heap th (listOf vs.toArray n') → th ≠ src → 0 < vs.length → vs.length ≤ 400 →
  0 ≤ x → 0 ≤ y → y < 2147483647 → dp + 4 ≤ 400 → un + 32 ≤ 400 →
  (∀ (v : Value) (x' y' : Int) t1 t2 h' tk', v ∈ vs → 0 ≤ x' → 0 ≤ y' → y' < 2147483647 → Kp s.heap h' [src] → h'.get? src = some (listOf #[.int x' t1, .int y' t2] n) → Q v {s with heap := h', toks := tk'}) →
  wpAny (model PySem.Challenge.rw_on0238_01.row.prog w) (AA dp un gd l) (call (.ref 288) [.ref src, .ref th]) Q E s := by
  k_fill
  w_top off
  intro w p loose mean mg mb H₀ dp un gd l s Q E src th x y t1 t2 n n' vs C O Ot hne hv hv2 hx hy hy2 hd hu hret
  refine wpAny_call ?_
  let oq1 : Obj := listOf #[.int x t1, .int y t2] n; k_dflt (refine' enterK C [(th, listOf vs.toArray n'), (src, oq1)] ?O ?kA ?k6 ?k7 ?k8 ?k9 ?kB ?_ ?c2 ?c3 ?c4 ?c5; (case O => exact (acons (Ot) (List.forall_mem_singleton.mpr O))); (case kA => exact rfl); (case k6 => k_is); (case k7 => k_is); (case k8 => ktr_room); (case k9 => exact BindsTo.of_eq rfl); (case c5 => decide); (case kB => exact locs rfl); (case c2 => exact rfl); (case c3 => exact rfl); (case c4 => exact rfl); k_whole; intro g L' h₁ hL hg F' N' B' X' T'; (try dsimp only); (try k_fold); (try (refine foldL ?_; intro eV aV)))
  (repeat' (first | (k_unfold; (try dsimp only)) | (k_end; wrow_close) | ((with_reducible show wpAny _ _ (subscriptTail _ _ _ _) _ _ _); first | (with_reducible (k_here; (with_reducible show wpAny _ _ (subscriptTail _ _ (Value.ref _) (Value.int _ _)) _ _ _); (with_unfolding_all refine' my_item ?k1 ?k2 ?k3 ?k4 ?_; (case k1 => is_list); (case k2 => assumption); (case k3 => assumption); (case k4 => assumption); k_whole); intro vq hvq))) | ((with_reducible show wpAny _ _ (call (Value.builtin _) _) _ _ _); first | (with_reducible (k_here; (with_reducible show wpAny _ _ (call (Value.builtin _) [Value.ref _]) _ _ _); (with_unfolding_all refine' my_len ?k1 ?k2 ?_; (case k1 => is_list); (case k2 => assumption); k_whole)))) | ((with_reducible show wpAny _ _ (call (Value.ref _) _) _ _ _); first | (with_reducible (k_here; k_dflt ( (with_reducible show wpAny _ _ (call (Value.ref 281) _) _ _ _); refine' take_ok _ _ _ _ _ _ _ _ _ _ _ _ _ _ _ _ _ _ _ _ _ _ ?C ?O ?hx ?hy ?hy2 ?ht ?ht2 ?hd ?hu ?_; (case C => exact Cx.next (by assumption) (by assumption) (by assumption) rfl rfl); (case O => exact own_of (by assumption) (by assumption) (by k_mem) rfl); (case hx => assumption); (case hy => assumption); (case hy2 => assumption); (case ht => first | decide | omega | (push_cast; omega)); (case ht2 => first | decide | omega); (case hd => ktr_room); (case hu => ktr_units); k_whole; intro rq x'q y'q tq t1q t2q h'q tk'q hr0q hr1q hx'q hy'q hy2'q hKq hsq; (with_reducible rename Fr _ _ _ _ => kF); (with_reducible rename News _ _ _ _ => kN); have F'q := fr_kp1 kF kN (by k_mem) hKq; have N'q := news_upd kN hKq (by k_upd) hsq; clear hKq hsq; (try k_sweep))))) | walk1 | (dsimp only; (with_reducible show wpAny _ _ _ _ _ _)) | (leave1; walk_say "STEP leave1"; try dsimp only) | fail "no step"))
  (with_reducible rename Fr _ _ _ _ => kF)
  (with_reducible rename News _ _ _ _ => kN)
  refine hret _ _ _ _ _ _ _ (by assumption) (by assumption) (by assumption) (by assumption) (kp_ofS hg kF ?_) (kN _ (.tail _ (.head _))).1
  exact (acons (.inr ⟨Ot.1, (kN _ (.head _)).1⟩) (List.forall_mem_singleton.mpr (.inl (.head _))))
end
section
open PySem PySem.Spec PySem.Calls PySem.W PyProof.Rows
theorem bb_lookup : typeLookup (.type "bytes") "__bytes__" = pure (some (.builtin "bytes.__bytes__")) := by rw [typeLookup_type, builtinLookup_eq_fast]; kernel_rfl
section
variable {prog : Program} {w : World} {A A₀ : Around} {E : Value → Shared → Prop} {s : Shared}
theorem call_bytes_bytes {b : Array UInt8} {t : Tok} {Q : Value → Shared → Prop} (h : Q (.bytes b t) s) : wpAny (model prog w) A (call (.type "bytes") [.bytes b t]) Q E s := by
  have hT : s.TypeIs (.bytes b t) "bytes" := PySem.W.typeIs_bytes _ _ _
  refine callType_codes (Q₁ := fun obj s₁ => s₁.TypeIs obj "bytes" ∧ Q obj s₁) F.bm_called (F.bm_typeCall _) F.entry_object_init ?new fun obj s₁ h₁ => ?_
  case new =>
    refine codeAny_of_tree ?_
    show wpAny _ A.in1.in1 (do checkBuiltinCall "bytes.__new__" ⟨[.type "bytes", .bytes b t], []⟩; again (.builtin "bytes.__new__" ⟨[.type "bytes", .bytes b t], []⟩)) _ _ s
    refine wpAny_bind (wpAny_of_eq (F.bm_newCall _) (wpAny_pure ⟨plainId_quiet F.bm_plain _, codeAny_builtin F.bm_entry ?_⟩))
    rw [Around.under_plainId F.bm_plain _]
    unfold Builtin.«bytes.__new__»
    refine wpAny_bind (wpAny_of_eq (a := true) rfl ?_)
    refine bm_if_false rfl ?_
    refine wpAny_bind (wpAny_of_eq F.bm_sub ?_)
    refine bm_if_false rfl ?_
    refine wpAny_bind (wpAny_of_eq (F.bm_bind _) ?_)
    refine wpAny_bind (wpAny_of_eq (a := ()) rfl ?_)
    refine wpAny_bind (wpAny_of_eq (a := ()) rfl ?_)
    refine bm_if_false rfl ?_
    refine wpAny_bind (wpAny_specialOf hT bb_lookup ?_)
    refine wpAny_bind (wpAny_rule ?_)
    refine wpAny_pure ?_
    exact And.intro hT h
  exact ⟨h₁.1, F.args_object_init_2 obj _, object_init_meets F.bm_called.init.lookup F.bm_called.made (by decide) prog w A.in1 _ s₁ ⟨h₁.1, rfl, h₁.2⟩⟩
end
section
variable {prog : Program} {w : World} {A A₀ : Around} {s : Shared} {K : Frag} {L : Addr} {H₀ : Heap} {mg mb : Str → Option Value} {p : Program} {loose : List Str} {mean : ExcName → Option Value} {l : List Env} {E : Value → Shared → Prop} {Q : Value → Shared → Prop}
theorem cx_push2 {h : Heap} (C : Cx K p loose mean mg mb H₀ l h) (o o' : Obj) : Cx K p loose mean mg mb H₀ l ((h.push o).push o') :=
  C.kp (S := []) (fun b x e _ => Heap.get?_push_of_some _ (Heap.get?_push_of_some _ e)) (fun _ q => nomatch q)
/-- the making of an object of a written plain class with an __init__ of its own -/
theorem enterI {cls : Addr} {rest : List Value} {kw : List (Str × Value)} {name qual : Str} {params : Arguments} {body : List Stmt} {scope : Scope} {dV kV doc pm cdv ct oc : Value} {an od : Option Addr} {osl : Array (Option Value)} {f : Addr} {bs : List (Str × Value)} {self : Str}
    (C : Cx K p loose mean mg mb H₀ l s.heap) (hA : A.frames = some l) (hm : makesIn K cls = true) (hi : findIn K (.ref cls) "__init__" = some (some (.ref f))) (hf : typeIn K (.ref f) = some (.type "function"))
    (ho : K.lookup f = some ⟨oc, od, .func (fnOf name qual params body scope dV kV doc pm an cdv ct), osl⟩) (hcd : codeIn K cdv qual = true) (hroom : A.depth + 1 < recursionLimit)
    (hbind : ∀ x h', (∀ b o, s.heap.get? b = some o → h'.get? b = some o) → BindsTo { s with heap := h' } (fnOf name qual params body scope dV kV doc pm an cdv ct) ⟨.ref x :: rest, kw⟩ ((self, .ref x) :: bs)) (hloc : ∀ y ∈ (self, Value.none) :: bs, scope.names.lookup y.1 = some .local)
    (h : ∀ x dx g L' h₁, s.heap.get? x = none → s.heap.get? dx = none → @LT.lt Nat _ dx x → (∀ b o, s.heap.get? b = some o → g.get? b = some o) → Fr g L' h₁ (fun y => ((self, .ref x) :: bs).reverse.lookup y) → News g L' h₁ [(x, instObj cls dx), (dx, dictOf [] 0)] → Below A H₀ l g → K.In g → Top p loose mean mg mb g →
      wpAny (model prog w) ((A.under (.builtin "type.__call__" ⟨.ref cls :: rest, kw⟩)).deeper (envOf qual scope L' f cdv)) (execs body (envOf qual scope L' f cdv))
        (fun fl s' => (match fl with | .ret v => v | _ => .none) = .none ∧ Q (.ref x) s')
        (fun e s' => wpAny (model prog w) ((A.under (.builtin "type.__call__" ⟨.ref cls :: rest, kw⟩)).deeper (envOf qual scope L' f cdv)) (leaving (envOf qual scope L' f cdv) e) (fun _ s'' => E e s'') (fun e' s'' => E e' s'') s')
        { s with heap := h₁, toks := s.toks + (bs.length + 1) })
    (hco : scope.isCoroutine = false) (hgen : scope.isGenerator = false) (hk : scope.kind = .function)
    (hcell : ∀ x ∈ scope.names, x.2 ≠ .cell) : wpAny (model prog w) A (call (.ref cls) rest kw) Q E s := by
  obtain ⟨hh, g, d, t, os⟩ := s
  refine wpAny_call (make_core (makes_of (C.X.keeps C.st) hm) (looks_findIn (C.X.keeps C.st) hi) (fun self => bind_fn (C.X.keeps C.st) self hf) (.inl rfl) ?_)
  have hx : hh.get? (hh.objs.size + 1) = none := Heap.get?_none_of_le (Nat.le_succ _)
  have hd : hh.get? hh.objs.size = none := Heap.get?_none_of_le (Nat.le_refl _)
  have px : ((hh.push emptyDict).push (instObj cls hh.objs.size)).get? (hh.objs.size + 1) = some (instObj cls hh.objs.size) := by heap_get
  have pd : ((hh.push emptyDict).push (instObj cls hh.objs.size)).get? hh.objs.size = some emptyDict := by heap_get
  have own : ∀ a o, hh.get? a = none → ((hh.push emptyDict).push (instObj cls hh.objs.size)).get? a = some o → Own H₀ l ((hh.push emptyDict).push (instObj cls hh.objs.size)) a o := fun a o q e => by
    refine ⟨e, ?_, fun env he z => ?_⟩
    · cases y : H₀.get? a with
      | none => rfl
      | some o' => have := C.st a o' y; rw [q] at this; cases this
    · obtain ⟨o', ho', _⟩ := (C.ff.mem (List.mem_filterMap.mpr ⟨env, he, z⟩)).2
      rw [q] at ho'; cases ho'
  refine enterK (A := A.under _) (s := ⟨(hh.push emptyDict).push (instObj cls hh.objs.size), g, d, t, os⟩) (cx_push2 C emptyDict (instObj cls hh.objs.size)) [(hh.objs.size + 1, instObj cls hh.objs.size), (hh.objs.size, emptyDict)] (fun q hq => ?_) hA ho hcd hroom (hbind _ _ (fun b o e => Heap.get?_push_of_some _ (Heap.get?_push_of_some _ e))) ?_ (fun g' L' h₁ hL hg F' N' B' X' T' => ?_) hco hgen hk hcell
  · rcases List.mem_cons.mp hq with rfl | hq
    · exact own _ _ hx px
    · rw [List.mem_singleton.mp hq]; exact own _ _ hd pd
  · intro y hy
    rcases List.mem_cons.mp hy with rfl | hy
    · exact hloc (self, .none) (.head _)
    · exact hloc y (.tail _ hy)
  · have := h (hh.objs.size + 1) hh.objs.size g' L' h₁ hx hd (Nat.lt_succ_self _) (fun b o e => hg b o (Heap.get?_push_of_some _ (Heap.get?_push_of_some _ e)) fun q => ?_) F' N' ⟨hA, B'.stays, B'.frames⟩ X' T'
    · exact this
    · have e' : hh.get? b = some o := e
      rcases List.mem_cons.mp q with rfl | q
      · rw [hx] at e'; cases e'
      · rw [List.mem_singleton.mp q, hd] at e'; cases e'
end
end
section
open PySem PySem.Spec PySem.Calls PySem.W PyProof.Rows
abbrev excTup (rest : List Value) : Obj := { cls := .type "tuple", data := .seq rest.toArray }
abbrev excObj (C t : Addr) : Obj := { cls := .ref C, data := .fields #[.ref t, .none, .none, .none, .bool false, .none] }
section
variable {prog : Program} {w : World} {A : Around} {E : Value → Shared → Prop} {h : Heap} {g : Array GenState} {d : Drawn} {t : Nat} {os : OsState}
variable {nm q : Str} {C N : Addr} {bs bm : List Value} {hdct : Bool} {sn : List Str} {sub : List Value} {ab : Bool} {col : Option Bool} {dd : Option Addr} {k0 k1 k2 k3 k5 : Option Value}
theorem fx_new {R : Result → Shared → Prop} {rest : List Value} (hcX : bm.contains (.type "Exception") = true) (hcA : (Value.ref C :: bm).contains (.type "AttributeError") = false) (hcN : (Value.ref C :: bm).contains (.type "NameError") = false)
    (hC : h.get? C = some (excClassObj nm q C N bs bm hdct sn sub ab col dd k0 k1 k2 k3 k5 "Exception.__new__"))
    (hq : R (.ok (.ret (.ref (h.objs.size + 1)))) ⟨(h.push (excTup rest)).push (excObj C h.objs.size), g, d, t, os⟩) (hrest : rest.length ≤ sizeLine) :
    codeAny (model prog w) A (.builtin "Exception.__new__" ⟨.ref C :: rest, []⟩) R ⟨h, g, d, t, os⟩ := by
  have Fn := PySem.F.excBase_Exception
  have hends := Fn.ends
  have hcB : (Value.ref C :: bm).contains (.type "Exception") = true := by rw [List.contains_cons, hcX, Bool.or_true]
  refine codeAny_builtinAt Fn.entry ?_
  unfold Builtin.«BaseException.__new__»
  refine PySem.wpAt_bind ?_
  show PySem.wpAt _ _ _ (stack >>= _) _ _ _
  refine PySem.wpAt_bind (PySem.wpAt_stack fun p below => PySem.wpAt_of_wpAny ?_)
  wp_walk
  refine PySem.wpAt_of_wpAny ?_
  rw [Fn.owner]
  repeat (first | with_reducible refine wpAny_madeHere_exc Fn.canon hC ?_ | with_reducible refine wpAny_loadPart_at hC ?_ | (with_reducible refine wpAny_isSubtype_exc hC ?_; first | rw [hcB] | rw [hcA] | rw [hcN]) | wp_step)
  show R _ _
  rw [Heap.size_push]
  exact hq
theorem fx_type_call {rest : List Value} {Q : Fin → Shared → Prop} {fI : Addr} (hcX : bm.contains (.type "Exception") = true) (hcA : (Value.ref C :: bm).contains (.type "AttributeError") = false) (hcN : (Value.ref C :: bm).contains (.type "NameError") = false)
    (hC : h.get? C = some (excClassObj nm q C N bs bm hdct sn sub false col dd k0 k1 k2 k3 k5 "Exception.__new__"))
    (hi : Looks (model prog w) h (typeLookup (.ref C) "__init__") (some (.ref fI))) (hb : ∀ self, Looks (model prog w) h (bindSpecial (.ref fI) self) (.ref fI, [self]))
    (hrest : rest.length ≤ sizeLine)
    (hq : wpAny (model prog w) A (call (.ref fI) (.ref (h.objs.size + 1) :: rest)) (fun r s' => r = .none ∧ Q (.done (.ret (.ref (h.objs.size + 1)))) s') E ⟨(h.push (excTup rest)).push (excObj C h.objs.size), g, d, t, os⟩) :
    wpAny (model prog w) A (Builtin.«type.__call__» ⟨.ref C :: rest, []⟩) Q E ⟨h, g, d, t, os⟩ := by
  have Fn := PySem.F.excBase_Exception
  repeat (first | with_reducible refine wpAny_loadPart_at hC ?_ | with_reducible refine wpAny_madeBy_exc hC ?_ | wp_step)
  refine codeAny_call_builtin_code (Code.quiet_builtin _ Fn.quiet) (wpAny_check_new_subU Fn hcX OwnTail.base hC ?_)
  refine fx_new hcX hcA hcN hC ?_ hrest
  show wpAny _ _ _ _ _ _
  have k : ∀ b o, h.get? b = some o → ((h.push (excTup rest)).push (excObj C h.objs.size)).get? b = some o := fun b o e => Heap.get?_push_of_some _ (Heap.get?_push_of_some _ e)
  have hC₁ := k _ _ hC
  have hget : ((h.push (excTup rest)).push (excObj C h.objs.size)).get? (h.objs.size + 1) = some (excObj C h.objs.size) := by heap_get
  have hcC : (Value.ref C :: bm).contains (.ref C) = true := by simp
  have i1 := hi.keeps k
  have b1 := (hb (.ref (h.objs.size + 1))).keeps k
  unfold isInstance
  repeat (first | with_reducible refine wpAny_loadPart_at hget ?_ | (with_reducible refine wpAny_isSubtype_exc hC₁ ?_; rw [hcC]) | wp_step)
  show wpAny _ _ (typeLookup (.ref C) _) _ _ _
  refine i1.at ?_
  refine wpAny_holding (wpAny_bind (b1.at ?_))
  refine wpAny_bind (wpAny_mono hq (fun r s' hr => ?_) fun _ _ x => x)
  obtain ⟨rfl, hQ⟩ := hr
  wp_walk
  exact hQ
theorem fx_call {rest : List Value} {Q : Value → Shared → Prop} {fI : Addr} (hcX : bm.contains (.type "Exception") = true) (hcA : (Value.ref C :: bm).contains (.type "AttributeError") = false) (hcN : (Value.ref C :: bm).contains (.type "NameError") = false)
    (hC : h.get? C = some (excClassObj nm q C N bs bm hdct sn sub false col dd k0 k1 k2 k3 k5 "Exception.__new__"))
    (hi : Looks (model prog w) h (typeLookup (.ref C) "__init__") (some (.ref fI))) (hb : ∀ self, Looks (model prog w) h (bindSpecial (.ref fI) self) (.ref fI, [self]))
    (hrest : rest.length ≤ sizeLine)
    (hq : wpAny (model prog w) (A.under (.builtin "type.__call__" ⟨.ref C :: rest, []⟩)) (call (.ref fI) (.ref (h.objs.size + 1) :: rest)) (fun r s' => r = .none ∧ Q (.ref (h.objs.size + 1)) s') E ⟨(h.push (excTup rest)).push (excObj C h.objs.size), g, d, t, os⟩) :
    wpAny (model prog w) A (call (.ref C) rest) Q E ⟨h, g, d, t, os⟩ := by
  have f1 := tc_lookup
  have f2 := tc_bind (.ref C)
  have hT : (⟨h, g, d, t, os⟩ : Shared).TypeIs (.ref C) "type" := ⟨_, hC, rfl⟩
  refine wpAny_call (codeAny_of_tree ?_)
  show wpAny _ _ (callAny (.ref C) _) _ _ _
  repeat (any_goals (first | assumption | with_reducible refine wpAny_loadPart_at hC ?_ | wp_step))
  refine ⟨rfl, ?_⟩
  exact codeAny_call_builtin_at (Code.quiet_builtin _ (by decide +kernel)) entry_typeCall (wpAny_check_type_call_sub hC (fx_type_call hcX hcA hcN hC hi hb hrest hq))
end
section
open Builtin Builtin.ObjectAttr
variable {prog : Program} {w : World} {A : Around} {K : Frag} {C x : Addr} {s : Shared} {R : Result → Shared → Prop} {E : Value → Shared → Prop}
theorem osx_open {cd : ClassData} {ox : Obj} {od : Option Obj} {name : Str} {tk : Tok} {v : Value} {r : Option Value} (X : K.In s.heap) (I : InstAt s.heap x ox C od) (hc : clsIn K C = some cd) (hr : ∀ self, refuseLoop self "__setattr__" cd.mro = pure ())
    (ne : cd.mro.isEmpty = false) (ho : cd.mro.contains (.type "object") = true) (ht : takerIn K C name = some r)
    (h : ∀ b, wpAny (model prog w) A.in1 (match r with | some a => setByDescriptor a (.ref x) v | none => storeInOwnDict (.ref x) (.ref C) (.str name tk) name v b)
      (fun fin s' => match fin with | .done f => R (.ok f) s' | .again c' => c'.quiet = true ∧ codeAny (model prog w) A c' R s') (fun e s' => R (.error e) s') s) :
    codeAny (model prog w) A (.call (.builtin "object.__setattr__") ⟨[.ref x, .str name tk, v], []⟩) R s := by
  have SF := PySem.F.store_object
  have sub : Looks (model prog w) s.heap (isInstance (.ref x) (.type "object")) true := I.type.andThen (looks_mroIn X (by unfold mroIn; rw [hc, Option.bind_some, if_neg (by rw [ne]; decide), ho]))
  refine codeAny_call_builtin SF.slot.plain SF.entry (@check_slot (model prog w) _ _ s "object.__setattr__" "object" "__setattr__" (.ref x) [.str name tk, v] [] _ SF.kind SF.split sub (SF.args (.ref x) (.str name tk) v) ?_)
  obtain ⟨attr, ha, hr'⟩ := Option.bind_eq_some_iff.mp ht
  have hm : Looks (model prog w) s.heap (mroOf (.ref C)) cd.mro := (looks_clsIn X hc).andThen .now
  have L3 : Looks (model prog w) s.heap (storeTaker? attr) r := by
    cases attr with
    | none => cases hr'; exact .now
    | some a =>
      obtain ⟨b, hb, rfl⟩ := Option.map_eq_some_iff.mp hr'
      refine (looks_takesIn X hb).andThen ?_
      cases b <;> exact .now
  rw [osa_eq, refuse_eq]
  refine wpAny_bind (wpAny_bind (I.type.here (wpAny_bind (hm.here ?_))))
  rw [hr]
  refine wpAny_pure (wpAny_bind (I.type.here (wpAny_bind ((looks_findIn X ha).here (wpAny_bind (L3.here ?_))))))
  exact h _
abbrev excAt (C : Addr) (vs : Array Value) (sl : Array (Option Value)) (dx : Option Addr) : Obj := { cls := .ref C, dict := dx, data := .fields vs, slots := sl }
theorem osx_call {cd : ClassData} {vs : Array Value} {sl : Array (Option Value)} {name : Str} {tk : Tok} {v : Value} (X : K.In s.heap) (hx : s.heap.get? x = some (excAt C vs sl none)) (hc : clsIn K C = some cd) (hd : cd.hasDict = true)
    (hr : ∀ self, refuseLoop self "__setattr__" cd.mro = pure ()) (ne : cd.mro.isEmpty = false) (ho : cd.mro.contains (.type "object") = true) (ht : takerIn K C name = some none)
    (h : ∀ h' dx tk, (∀ b o, b ≠ x → s.heap.get? b = some o → h'.get? b = some o) → h'.get? x = some (excAt C vs sl (some dx)) → R (.ok (.ret .none)) { s with heap := h', toks := tk }) :
    codeAny (model prog w) A (.call (.builtin "object.__setattr__") ⟨[.ref x, .str name tk, v], []⟩) R s := by
  have I : InstAt s.heap x (excAt C vs sl none) C none := ⟨hx, rfl, rfl, trivial⟩
  refine osx_open X I hc hr ne ho ht fun b => ?_
  obtain ⟨hh, g, d, t, os⟩ := s
  have nex : hh.objs.size ≠ x := fun z => absurd (Heap.lt_size hx) (by rw [z]; exact Nat.lt_irrefl _)
  have hx' : (hh.push emptyDict).get? x = some (excAt C vs sl none) := Heap.get?_push_of_some _ hx
  have D : ((hh.push emptyDict).update x fun o => { o with dict := some hh.objs.size }).get? hh.objs.size = some emptyDict := by
    rw [Heap.get?_update_other _ _ (Ne.symm nex)]; exact Heap.get?_push_at rfl rfl
  have U : ((hh.push emptyDict).update x fun o => { o with dict := some hh.objs.size }).get? x = some (excAt C vs sl (some hh.objs.size)) := Heap.get?_update_self _ hx' rfl
  refine wpAny_bind (wpAny_pure (wpAny_bind (wpAny_bind (wpAny_loadPart hx (wpAny_bind ((looks_clsIn X hc).here ?_))))))
  rw [hd]
  refine wpAny_bind (wpAny_alloc (wpAny_bind (wpAny_update hx' (wpAny_pure (wpAny_bind (wpAny_pure (wpAny_bind ?_)))))))
  unfold nsSet
  refine wpAny_bind (wpAny_bind (wpAny_askSetting (wpAny_pure (wpAny_bind (wpAny_mkText (wpAny_bind (wpAny_loadPart D ?_)))))))
  dsimp only
  have c : aRefKeyMayBeTheName name #[] = false := by rw [aRefKeyMayBeTheName_at]; simp
  rw [c]
  refine wpAny_updatePart D ?_
  refine wpAny_bind (wpAny_lookBehind (Heap.get?_update_self _ D rfl) ?_ ?_)
  · rw [show emptyDict = dictOf [] 0 from rfl, putName_dict]
    exact pastItsLine_dict (by rw [List.size_toArray]; exact Nat.le_of_ble_eq_true rfl)
  · refine wpAny_pure (h _ hh.objs.size _ (fun b o n e => ?_) ?_)
    · exact (Heap.get?_update_other _ _ (Ne.symm (Nat.ne_of_lt (Heap.lt_size e)))).trans ((Heap.get?_update_other _ _ (Ne.symm n)).trans (Heap.get?_push_of_some _ e))
    · exact (Heap.get?_update_other _ _ nex).trans U
theorem set_exc {cd : ClassData} {vs : Array Value} {sl : Array (Option Value)} {name : Str} {v : Value} {Q : Unit → Shared → Prop} (X : K.In s.heap) (hx : s.heap.get? x = some (excAt C vs sl none)) (hc : clsIn K C = some cd) (hd : cd.hasDict = true)
    (hr : ∀ self, refuseLoop self "__setattr__" cd.mro = pure ()) (ne : cd.mro.isEmpty = false) (ho : cd.mro.contains (.type "object") = true) (ht : takerIn K C name = some none)
    (hs : findIn K (.ref C) "__setattr__" = some (some (.builtin "object.__setattr__")))
    (h : ∀ h' dx tk, (∀ b o, b ≠ x → s.heap.get? b = some o → h'.get? b = some o) → h'.get? x = some (excAt C vs sl (some dx)) → Q () { s with heap := h', toks := tk }) :
    wpAny (model prog w) A (setAttr (.ref x) name v) Q E s := 
  set_plain (od := none) X ⟨hx, rfl, rfl, trivial⟩ hs (osx_call (s := { s with toks := s.toks + 1 }) X hx hc hd hr ne ho ht h)
end
section
variable {prog : Program} {w : World} {A : Around} {s : Shared} {K : Frag} {H₀ : Heap} {mg mb : Str → Option Value} {p : Program} {loose : List Str} {mean : ExcName → Option Value} {l : List Env} {E : Value → Shared → Prop} {Q : Value → Shared → Prop}
variable {nm q : Str} {cls N : Addr} {bs bm : List Value} {hdct : Bool} {sn : List Str} {sub : List Value} {col : Option Bool} {dd : Option Addr} {k0 k1 k2 k3 k5 : Option Value}
/-- the making of an object of a written class of exceptions with an __init__ of its own -/
theorem enterX {rest : List Value} {name qual : Str} {params : Arguments} {body : List Stmt} {scope : Scope} {dV kV doc pm cdv ct oc : Value} {an od : Option Addr} {osl : Array (Option Value)} {f : Addr} {bs' : List (Str × Value)} {self : Str}
    (C : Cx K p loose mean mg mb H₀ l s.heap) (hA : A.frames = some l) (hC : K.lookup cls = some (excClassObj nm q cls N bs bm hdct sn sub false col dd k0 k1 k2 k3 k5 "Exception.__new__"))
    (hcX : bm.contains (.type "Exception") = true) (hcA : (Value.ref cls :: bm).contains (.type "AttributeError") = false) (hcN : (Value.ref cls :: bm).contains (.type "NameError") = false)
    (hi : findIn K (.ref cls) "__init__" = some (some (.ref f))) (hf : typeIn K (.ref f) = some (.type "function")) (hrest : rest.length ≤ sizeLine)
    (ho : K.lookup f = some ⟨oc, od, .func (fnOf name qual params body scope dV kV doc pm an cdv ct), osl⟩) (hcd : codeIn K cdv qual = true) (hroom : A.depth + 1 < recursionLimit)
    (hbind : ∀ x h', BindsTo { s with heap := h' } (fnOf name qual params body scope dV kV doc pm an cdv ct) ⟨.ref x :: rest, []⟩ ((self, .ref x) :: bs')) (hloc : ∀ y ∈ (self, Value.none) :: bs', scope.names.lookup y.1 = some .local)
    (h : ∀ x tp g L' h₁, s.heap.get? x = none → (∀ b o, s.heap.get? b = some o → g.get? b = some o) → Fr g L' h₁ (fun y => ((self, .ref x) :: bs').reverse.lookup y) → News g L' h₁ [(x, excObj cls tp)] → Below A H₀ l g → K.In g → Top p loose mean mg mb g →
      wpAny (model prog w) ((A.under (.builtin "type.__call__" ⟨.ref cls :: rest, []⟩)).deeper (envOf qual scope L' f cdv)) (execs body (envOf qual scope L' f cdv))
        (fun fl s' => (match fl with | .ret v => v | _ => .none) = .none ∧ Q (.ref x) s')
        (fun e s' => wpAny (model prog w) ((A.under (.builtin "type.__call__" ⟨.ref cls :: rest, []⟩)).deeper (envOf qual scope L' f cdv)) (leaving (envOf qual scope L' f cdv) e) (fun _ s'' => E e s'') (fun e' s'' => E e' s'') s')
        { s with heap := h₁, toks := s.toks + (bs'.length + 1) })
    (hco : scope.isCoroutine = false) (hgen : scope.isGenerator = false) (hk : scope.kind = .function)
    (hcell : ∀ x ∈ scope.names, x.2 ≠ .cell) : wpAny (model prog w) A (call (.ref cls) rest) Q E s := by
  obtain ⟨hh, g, d, t, os⟩ := s
  have X0 : K.In hh := C.X.keeps C.st
  have hx : hh.get? (hh.objs.size + 1) = none := Heap.get?_none_of_le (Nat.le_succ _)
  have px : ((hh.push (excTup rest)).push (excObj cls hh.objs.size)).get? (hh.objs.size + 1) = some (excObj cls hh.objs.size) := by heap_get
  have own : Own H₀ l ((hh.push (excTup rest)).push (excObj cls hh.objs.size)) (hh.objs.size + 1) (excObj cls hh.objs.size) := by
    refine ⟨px, ?_, fun env he z => ?_⟩
    · cases y : H₀.get? (hh.objs.size + 1) with
      | none => rfl
      | some o' => have := C.st _ o' y; rw [show hh.get? (hh.objs.size + 1) = none from hx] at this; cases this
    · obtain ⟨o', ho', _⟩ := (C.ff.mem (List.mem_filterMap.mpr ⟨env, he, z⟩)).2
      rw [show hh.get? (hh.objs.size + 1) = none from hx] at ho'; cases ho'
  refine fx_call hcX hcA hcN (X0 _ _ hC) (looks_findIn X0 hi) (fun self => bind_fn X0 self hf) hrest (wpAny_call ?_)
  refine enterK (A := A.under _) (s := ⟨(hh.push (excTup rest)).push (excObj cls hh.objs.size), g, d, t, os⟩) (cx_push2 C (excTup rest) (excObj cls hh.objs.size)) [(hh.objs.size + 1, excObj cls hh.objs.size)] (List.forall_mem_singleton.mpr own) hA ho hcd hroom (hbind _ _) ?_ (fun g' L' h₁ hL hg F' N' B' X' T' => ?_) hco hgen hk hcell
  · intro y hy
    rcases List.mem_cons.mp hy with rfl | hy
    · exact hloc (self, .none) (.head _)
    · exact hloc y (.tail _ hy)
  · exact h (hh.objs.size + 1) hh.objs.size g' L' h₁ hx (fun b o e => hg b o (Heap.get?_push_of_some _ (Heap.get?_push_of_some _ e)) fun q => by
      have e' : hh.get? b = some o := e
      rw [List.mem_singleton.mp q, hx] at e'; cases e') F' N' ⟨hA, B'.stays, B'.frames⟩ X' T'
end
end
section
open PySem PySem.Spec PySem.Calls PySem.W PySem.W.X PyProof.Rows
structure Flaw (h h' : Heap) (e : Addr) : Prop where
  keep : ∀ b o, h.get? b = some o → h'.get? b = some o
  new : h.get? e = none
  there : ∃ oe vs a0, h'.get? e = some oe ∧ oe.cls = .ref 51 ∧ oe.data = .fields vs ∧ vs[0]? = some a0 ∧ vs[1]? = some .none
def RetE (s : Shared) (Q : Value → Shared → Prop) : Prop := ∀ e h' tk, Flaw s.heap h' e → Q (.ref e) ⟨h', s.gens, s.drawn, tk, s.os⟩
theorem room_e (dp : Nat) (h : dp ≤ 400) : dp + 1 < recursionLimit := Nat.lt_of_le_of_lt (Nat.add_le_add_right h 1) (by decide)
theorem ref_exc (self : Value) : refuseLoop self "__setattr__" [.ref 51, .ref 38, .type "Exception", .type "BaseException", .type "object"] = pure () := by
  rw [refuseLoop_ref, refuseLoop_ref]
  kernel_rfl
theorem font_ok : ∀ (w : World) (p : Program) (loose : List Str) (mean : ExcName → Option Value) (mg mb : Str → Option Value) (H₀ : Heap) (dp un : Nat) (gd : Option (List Code)) (l : List Env) (s : Shared) (Q E : Value → Shared → Prop) (msg : Str) (t1 : Tok),
  Cx (Mine.hd.heap_1 w.params) p loose mean mg mb H₀ l s.heap → dp ≤ 400 → un ≤ 400 → RetE s Q →
    wpAny (model PySem.Challenge.rw_on0238_01.row.prog w) (AA dp un gd l) (call (.ref 51) [.str msg t1]) Q E s := by
  k_fill
  w_top off
  intro w p loose mean mg mb H₀ dp un gd l s Q E msg t1 C hd hu hret
  k_dflt (refine' enterX (self := Str.ofString "self") (bs' := [(Str.ofString "message", .str msg t1)]) C ?kA ?kC ?c6 ?c7 ?c8 ?k1 ?k2 ?cz ?k4 ?k5 ?k6 ?k7 ?k8 ?_ ?c2 ?c3 ?c4 ?c5; (case kA => exact rfl); (case kC => exact rfl); (case c6 => rfl); (case c7 => rfl); (case c8 => rfl); (case k1 => k_is); (case k2 => k_is); (case cz => size_fits); (case k4 => k_is); (case k5 => k_is); (case k6 => exact room_e dp hd); (case k7 => exact fun x h' => BindsTo.of_eq rfl); (case k8 => exact locs rfl); (case c5 => decide); (case c2 => exact rfl); (case c3 => exact rfl); (case c4 => exact rfl); k_whole; intro x tp g L' h₁ hx hg F' N' B' X' T'; (try dsimp only); (try k_fold))
  k_steps
  (with_reducible rename Fr _ _ _ _ => kF); (with_reducible rename News _ _ _ _ => kN)
  k_dflt (refine' set_exc (X'.keeps kF.keep) (kN _ (.head _)).1 ?ca ?cb ?cc ?cd ?ce ?cf ?cg ?_; (case ca => exact rfl); (case cb => rfl); (case cc => exact ref_exc); (case cd => rfl); (case ce => rfl); (case cf => k_is); (case cg => k_is); k_whole; intro h' dx tk' hk hx')
  (try dsimp only)
  k_steps
  exact hret x h' _ ⟨fun b o e => hk b o (fun z => by rw [z, hx] at e; cases e) (kF.keep b o (hg b o e)), hx, _, _, _, hx', rfl, rfl, rfl, rfl⟩
theorem wp_deep {α : Type} {M : Model} {t : Sem α} {Q : α → Shared → Prop} {E : Value → Shared → Prop} {s : Shared} {dp un dp' un' : Nat} {gd : Option (List Code)} {l : List Env} (h1 : dp ≤ dp') (h2 : un ≤ un') (h : wpAny M (AA dp' un' gd l) t Q E s) : wpAny M (AA dp un gd l) t Q E s :=
  fun Γ p hΓ => h Γ p ⟨hΓ.1, Nat.le_trans hΓ.2.1 h1, hΓ.2.2.1, hΓ.2.2.2.1, Nat.le_trans hΓ.2.2.2.2 h2⟩
def RetX (s : Shared) (Q : Value → Shared → Prop) (P : Value → Heap → Prop) : Prop := ∀ v h' tk, Kp s.heap h' [] → P v h' → Q v ⟨h', s.gens, s.drawn, tk, s.os⟩
theorem retX_use {s : Shared} {Q : Value → Shared → Prop} {P : Value → Heap → Prop} {h' : Heap} {news : List (Addr × Obj)} {v : Value} {tk : Nat} (R : RetX s Q P) (D : Mem s.heap h' [] news) (h : P v h') : Q v ⟨h', s.gens, s.drawn, tk, s.os⟩ := R _ _ _ (fun b o q _ => D.keep b o q (by rw [show away [] b = true from rfl, Bool.or_true])) h
theorem retX_use0 {s : Shared} {Q : Value → Shared → Prop} {P : Value → Heap → Prop} {v : Value} {tk : Nat} (R : RetX s Q P) (h : P v s.heap) : Q v ⟨s.heap, s.gens, s.drawn, tk, s.os⟩ := R _ _ _ (Kp.refl _ _) h
theorem bytes_ok : ∀ (w : World) 
  (gd : Option (List Code)) (l : List Env) (s : Shared) (Q E : Value → Shared → Prop) (b : Array UInt8) (t1 : Tok),
  (Mine.hd.heap_1 w.params).In s.heap → RetX s Q (fun v _ => ∃ t, v = .bytes b t) →
  wpAny (model PySem.Challenge.rw_on0238_01.row.prog w) (AA 400 400 gd l) (call (.type "bytes") [.bytes b t1]) Q E s :=
  fun w gd l s Q E b t1 X hret => call_bytes_bytes (hret _ s.heap s.toks (Kp.refl _ _) ⟨_, rfl⟩)
end
section
open PySem PySem.Spec PySem.Calls PySem.W PyProof.Rows

def sg (n : Int) : Int := if 32768 ≤ n then n - 65536 else n
def be (B : List UInt8) (k : Int) : Int := (((B.getD k.toNat 0).toNat : Nat) : Int) * 256 + (((B.getD (k + 1).toNat 0).toNat : Nat) : Int)
section
variable {prog : Program} {w : World} {A : Around} {E : Value → Shared → Prop} {s : Shared}
theorem my_byte {value slice : PySem.Expr} {t : Tok} {l : List UInt8} {k : Int} {u : Tok} {Q : Value → Shared → Prop} (h0 : 0 ≤ k) (h1 : k < l.length) (hf : l.length ≤ 100)
    (h : Q (.int (l.getD k.toNat 0).toNat s.toks) { s with toks := s.toks + 1 })
    (hs : subscripted slice false (.bytes l.toArray t) (.int k u) = operate [.bytes l.toArray t, .int k u] (getItem (.bytes l.toArray t) (.int k u)) := by with_unfolding_all rfl)
    (ht : ∀ r, letTemporaryGo value (.bytes l.toArray t) r = pure () := by intro _; with_unfolding_all rfl) : wpAny (model prog w) A (subscriptTail value slice (.bytes l.toArray t) (.int k u)) Q E s :=
  subscriptTail_builtin (typeIs_bytes _ _ _) FB.slot_bytes_getitem.lookup (getItem_bytes (by omega) h0 h1 h) hs ht
theorem my_cut {value slice : PySem.Expr} {t : Tok} {b : List UInt8} {h₀ : Heap} {L : Addr} {m : PySem.Str → Option Value} {news : List (Addr × Obj)} {l u : Value} {lo hi : Option Int} {Q : Value → Shared → Prop} (hF : Fr h₀ L s.heap m) (hN : News h₀ L s.heap news) (hl : IsPart l lo) (hu : IsPart u hi) (hz : b.length ≤ 100)
    (h : ∀ h' t' k, Fr h₀ L h' m → News h₀ L h' news → Q (.bytes ((b.drop (lo.elim 0 (clipAt b.length))).take (hi.elim b.length (clipAt b.length) - lo.elim 0 (clipAt b.length))).toArray t') { s with heap := h', toks := k })
    (hs : subscripted slice false (.bytes b.toArray t) (.ref s.heap.objs.size) = operate [.ref s.heap.objs.size, .bytes b.toArray t] (getItem (.bytes b.toArray t) (.ref s.heap.objs.size)) := by with_unfolding_all rfl)
    (ht : ∀ r, letTemporaryGo value (.bytes b.toArray t) r = pure () := by intro _; with_unfolding_all rfl) :
    wpAny (model prog w) A (subscriptTail value slice (.bytes b.toArray t) (.ref s.heap.objs.size)) Q E { s with heap := s.heap.push { cls := .type "slice", data := .fields #[l, u, .none] } } := by
  refine KBc.slice_K hF hN rfl hl hu (by rw [KBw.ints_length]; simp only [List.size_toArray]; omega) (fun h' t' k F N _ => ?_) hs ht
  rw [KBc.picked_eq]
  simp only [List.size_toArray]
  exact h h' t' k F N
end
theorem u16_ok : ∀ (w : World) (p : Program) (loose : List Str) (mean : ExcName → Option Value) (mg mb : Str → Option Value) (H₀ : Heap)
  (dp un : Nat) (gd : Option (List Code)) (l : List Env) (s : Shared) (Q E : Value → Shared → Prop) (B : List UInt8) (k : Int) (t1 t2 : Tok),
  Cx (Mine.hd.heap_1 w.params) p loose mean mg mb H₀ l s.heap → (0 ≤ k) → (k + 2 ≤ B.length) → (B.length ≤ 100) →
  dp + 1 ≤ 400 → un + 8 ≤ 400 →
  (∀ r t h' tk', r = (be B k) → Kp s.heap h' [] → Q (.int r t) {s with heap := h', toks := tk'}) →
  wpAny (model PySem.Challenge.rw_on0238_01.row.prog w) (AA dp un gd l) (call (.ref 125) [.bytes B.toArray t1, .int k t2]) Q E s := by
  k_fill
  w_top off
  intro w p loose mean mg mb H₀ dp un gd l s Q E B k t1 t2 C h0 h1 h2 hd hu hret
  refine wpAny_call ?_
  k_dflt (refine' enterK C [] ?O ?kA ?k6 ?k7 ?k8 ?k9 ?kB ?_ ?c2 ?c3 ?c4 ?c5; (case O => exact List.forall_mem_nil _); (case kA => exact rfl); (case k6 => k_is); (case k7 => k_is); (case k8 => ktr_room); (case k9 => exact BindsTo.of_eq rfl); (case c5 => decide); (case kB => exact locs rfl); (case c2 => exact rfl); (case c3 => exact rfl); (case c4 => exact rfl); k_whole; intro g L' h₁ hL hg F' N' B' X' T'; (try dsimp only); (try k_fold); (try (refine foldL ?_; intro eV aV)))
  (repeat' (first | (k_unfold; (try dsimp only)) | (k_end; wrow_close) | ((with_reducible show wpAny _ _ (subscriptTail _ _ _ _) _ _ _); first | (with_reducible (k_here; (with_reducible show wpAny _ _ (subscriptTail _ _ (Value.bytes (List.toArray _) _) (Value.int _ _)) _ _ _); k_dflt (refine' my_byte ?a ?b ?c ?_; (case a => omega); (case b => first | omega | (simp only [List.length_take, List.length_drop]; omega)); (case c => first | assumption | (simp only [List.length_take, List.length_drop]; omega)); k_whole)))) | walk1 | (dsimp only; (with_reducible show wpAny _ _ _ _ _ _)) | (leave1; walk_say "STEP leave1"; try dsimp only) | fail "no step"))
  all_goals (try dsimp only)
  all_goals ((with_reducible rename Fr _ _ _ _ => kF); exact hret _ _ _ _ (by first | rfl | (unfold sg; split <;> omega) | (split <;> omega)) (kp_of hg kF))
theorem s16_ok : ∀ (w : World) (p : Program) (loose : List Str) (mean : ExcName → Option Value) (mg mb : Str → Option Value) (H₀ : Heap)
  (dp un : Nat) (gd : Option (List Code)) (l : List Env) (s : Shared) (Q E : Value → Shared → Prop) (B : List UInt8) (k : Int) (t1 t2 : Tok),
  Cx (Mine.hd.heap_1 w.params) p loose mean mg mb H₀ l s.heap → (0 ≤ k) → (k + 2 ≤ B.length) → (B.length ≤ 100) →
  dp + 2 ≤ 400 → un + 16 ≤ 400 →
  (∀ r t h' tk', r = (sg (be B k)) → Kp s.heap h' [] → Q (.int r t) {s with heap := h', toks := tk'}) →
  wpAny (model PySem.Challenge.rw_on0238_01.row.prog w) (AA dp un gd l) (call (.ref 132) [.bytes B.toArray t1, .int k t2]) Q E s := by
  k_fill
  w_top off
  intro w p loose mean mg mb H₀ dp un gd l s Q E B k t1 t2 C h0 h1 h2 hd hu hret
  refine wpAny_call ?_
  k_dflt (refine' enterK C [] ?O ?kA ?k6 ?k7 ?k8 ?k9 ?kB ?_ ?c2 ?c3 ?c4 ?c5; (case O => exact List.forall_mem_nil _); (case kA => exact rfl); (case k6 => k_is); (case k7 => k_is); (case k8 => ktr_room); (case k9 => exact BindsTo.of_eq rfl); (case c5 => decide); (case kB => exact locs rfl); (case c2 => exact rfl); (case c3 => exact rfl); (case c4 => exact rfl); k_whole; intro g L' h₁ hL hg F' N' B' X' T'; (try dsimp only); (try k_fold); (try (refine foldL ?_; intro eV aV)))
  (repeat' (first | (k_unfold; (try dsimp only)) | (k_end; wrow_close) | ((with_reducible show wpAny _ _ (call (Value.ref _) _) _ _ _); first | (with_reducible (k_here; (with_reducible show wpAny _ _ (call (Value.ref 125) _) _ _ _); k_dflt ( refine' u16_ok _ _ _ _ _ _ _ _ _ _ _ _ _ _ _ _ _ _ ?C ?h0 ?h1 ?h2 ?hd ?hu ?_; (case C => exact Cx.next (by assumption) (by assumption) (by assumption) rfl rfl); (case h0 => omega); (case h1 => omega); (case h2 => assumption); (case hd => ktr_room); (case hu => ktr_units); k_whole; intro rq tq h'q tk'q hrq hKq; (with_reducible rename Fr _ _ _ _ => kF); (with_reducible rename News _ _ _ _ => kN); have F'q := fr_kp0 kF hKq; have N'q := news_kp0 kN hKq; clear hKq; (try k_sweep); subst hrq)))) | walk1 | (dsimp only; (with_reducible show wpAny _ _ _ _ _ _)) | (leave1; walk_say "STEP leave1"; try dsimp only) | fail "no step"))
  all_goals (try dsimp only)
  all_goals ((with_reducible rename Fr _ _ _ _ => kF); exact hret _ _ _ _ (by first | rfl | (unfold sg; split <;> omega) | (split <;> omega)) (kp_of hg kF))
theorem signed_byte_ok : ∀ (w : World) (p : Program) (loose : List Str) (mean : ExcName → Option Value) (mg mb : Str → Option Value) (H₀ : Heap)
  (dp un : Nat) (gd : Option (List Code)) (l : List Env) (s : Shared) (Q E : Value → Shared → Prop) (x : Int) (t1 : Tok),
  Cx (Mine.hd.heap_1 w.params) p loose mean mg mb H₀ l s.heap →
  dp + 1 ≤ 400 → un + 8 ≤ 400 →
  (∀ r t h' tk', r = (if 128 ≤ x then x - 256 else x) → Kp s.heap h' [] → Q (.int r t) {s with heap := h', toks := tk'}) →
  wpAny (model PySem.Challenge.rw_on0238_01.row.prog w) (AA dp un gd l) (call (.ref 239) [.int x t1]) Q E s := by
  k_fill
  w_top off
  intro w p loose mean mg mb H₀ dp un gd l s Q E x t1 C  hd hu hret
  refine wpAny_call ?_
  k_dflt (refine' enterK C [] ?O ?kA ?k6 ?k7 ?k8 ?k9 ?kB ?_ ?c2 ?c3 ?c4 ?c5; (case O => exact List.forall_mem_nil _); (case kA => exact rfl); (case k6 => k_is); (case k7 => k_is); (case k8 => ktr_room); (case k9 => exact BindsTo.of_eq rfl); (case c5 => decide); (case kB => exact locs rfl); (case c2 => exact rfl); (case c3 => exact rfl); (case c4 => exact rfl); k_whole; intro g L' h₁ hL hg F' N' B' X' T'; (try dsimp only); (try k_fold); (try (refine foldL ?_; intro eV aV)))
  k_steps
  all_goals (try dsimp only)
  all_goals ((with_reducible rename Fr _ _ _ _ => kF); exact hret _ _ _ _ (by first | rfl | (unfold sg; split <;> omega) | (split <;> omega)) (kp_of hg kF))

theorem bytes_use {w : World} {dp un : Nat} {gd : Option (List Code)} {l : List Env} {s : Shared} {Q E : Value → Shared → Prop} {b : Array UInt8} {t1 : Tok} (X : (Mine.hd.heap_1 w.params).In s.heap) (h1 : dp ≤ 400) (h2 : un ≤ 400)
    (h : ∀ t h' tk, Kp s.heap h' [] → Q (.bytes b t) ⟨h', s.gens, s.drawn, tk, s.os⟩) : wpAny (model PySem.Challenge.rw_on0238_01.row.prog w) (AA dp un gd l) (call (.type "bytes") [.bytes b t1]) Q E s :=
  wp_deep h1 h2 (bytes_ok w gd l s Q E b t1 X fun v h' tk k ⟨t, e⟩ => e ▸ h t h' tk k)
theorem clip_lo (n : Nat) (k : Int) (h0 : 0 ≤ k) (h1 : k ≤ n) : clipAt n k = k.toNat := by
  have := clipAt_cast n k
  rw [if_neg (by omega)] at this
  omega
theorem take_one (B : List UInt8) (k : Nat) (h : k < B.length) : (B.drop k).take 1 = [B.getD k 0] := by
  have e : B.drop k = B[k] :: B.drop (k + 1) := List.drop_eq_getElem_cons h
  rw [e, List.take_succ_cons, List.take_zero, List.getD_eq_getElem?_getD, List.getElem?_eq_getElem h]
  rfl
theorem cut_one (B : List UInt8) (k : Int) (h0 : 0 ≤ k) (h1 : k + 1 ≤ B.length) : ((B.drop ((some k).elim 0 (clipAt B.length))).take ((some (k + 1)).elim B.length (clipAt B.length) - (some k).elim 0 (clipAt B.length))) = [B.getD k.toNat 0] := by
  show (B.drop (clipAt B.length k)).take (clipAt B.length (k + 1) - clipAt B.length k) = _
  rw [clip_lo _ _ h0 (by omega), clip_lo _ _ (by omega) h1, show (k + 1).toNat - k.toNat = 1 by omega]
  exact take_one B _ (by omega)
theorem part_ok : ∀ (w : World) (p : Program) (loose : List Str) (mean : ExcName → Option Value) (mg mb : Str → Option Value) (H₀ : Heap)
  (dp un : Nat) (gd : Option (List Code)) (l : List Env) (s : Shared) (Q E : Value → Shared → Prop) (B : List UInt8) (k : Int) (t1 t2 t3 : Tok),
  Cx (Mine.hd.heap_1 w.params) p loose mean mg mb H₀ l s.heap → (0 ≤ k) → (k + 1 ≤ B.length) → (B.length ≤ 100) →
  dp + 1 ≤ 400 → un + 8 ≤ 400 →
  (∀ t h' tk', Kp s.heap h' [] → Q (.bytes [B.getD k.toNat 0].toArray t) {s with heap := h', toks := tk'}) →
  wpAny (model PySem.Challenge.rw_on0238_01.row.prog w) (AA dp un gd l) (call (.ref 146) [.bytes B.toArray t1, .int k t2, .int 1 t3]) Q E s := by
  k_fill
  w_top off
  intro w p loose mean mg mb H₀ dp un gd l s Q E B k t1 t2 t3 C h0 h1 h2 hd hu hret
  refine wpAny_call ?_
  k_dflt (refine' enterK C [] ?O ?kA ?k6 ?k7 ?k8 ?k9 ?kB ?_ ?c2 ?c3 ?c4 ?c5; (case O => exact List.forall_mem_nil _); (case kA => exact rfl); (case k6 => k_is); (case k7 => k_is); (case k8 => ktr_room); (case k9 => exact BindsTo.of_eq rfl); (case c5 => decide); (case kB => exact locs rfl); (case c2 => exact rfl); (case c3 => exact rfl); (case c4 => exact rfl); k_whole; intro g L' h₁ hL hg F' N' B' X' T'; (try dsimp only); (try k_fold); (try (refine foldL ?_; intro eV aV)))
  (repeat' (first | (k_unfold; (try dsimp only)) | (k_end; wrow_close) | ((with_reducible show wpAny _ _ (call (Value.type _) _) _ _ _); first | (with_reducible (k_here; (with_reducible show wpAny _ _ (call (Value.type "bytes") [Value.bytes _ _]) _ _ _); k_dflt (refine' bytes_use ?X ?a ?b ?_; (case X => k_in); (case a => ktr_room); (case b => ktr_units); k_whole; intro tq h'q tk'q hKq; (with_reducible rename Fr _ _ _ _ => kF); (with_reducible rename News _ _ _ _ => kN); have F'q := fr_kp0 kF hKq; have N'q := news_kp0 kN hKq; clear hKq; (try k_sweep))))) | ((with_reducible show wpAny _ _ (subscriptTail _ _ _ _) _ _ _); first | (with_reducible (k_here; (with_reducible show wpAny _ _ (subscriptTail _ (Expr.Slice _ _ none _) (Value.bytes (List.toArray _) _) (Value.ref _)) _ _ _); (with_reducible rename Fr _ _ _ _ => F'q); (with_reducible rename News _ _ _ _ => N'q); (refine my_cut (s := ⟨_, _, _, _, _⟩) F'q N'q (by constructor) (by constructor) (by first | assumption | omega) ?_); intro h'q t'q k'q F'q N'q; (try k_sweep)))) | walk1 | (dsimp only; (with_reducible show wpAny _ _ _ _ _ _)) | (leave1; walk_say "STEP leave1"; try dsimp only) | fail "no step"))
  all_goals (try dsimp only)
  all_goals ((try k_unfold); (try dsimp only); rw [cut_one B k h0 h1]; (with_reducible rename Fr _ _ _ _ => kF); exact hret _ _ _ (kp_of hg kF))

theorem notin2 {r x dx : Addr} {o o' : Obj} (h1 : @Ne Nat x r) (h2 : @Ne Nat dx r) : r ∉ List.map (fun q : Addr × Obj => q.1) [(x, o), (dx, o')] := by
  intro h
  rcases List.mem_cons.mp h with h | h
  · exact h1 h.symm
  · rcases List.mem_cons.mp h with h | h
    · exact h2 h.symm
    · exact nomatch h
theorem kp_pair {h h' g : Heap} {L : Addr} {m : Str → Option Value} {x dx : Addr} {o o' : Obj} (hg : ∀ b ob, h.get? b = some ob → b ∉ List.map (fun q : Addr × Obj => q.1) [(x, o), (dx, o')] → g.get? b = some ob) (F : Fr g L h' m) (h1 : h.get? x = some o) (h2 : h'.get? x = some o) : Kp h h' [dx] :=
  kp_ofS hg F ((acons (.inr ⟨h1, h2⟩) (List.forall_mem_singleton.mpr (.inl (.head _)))))
theorem signed_ok : ∀ (w : World) (p : Program) (loose : List Str) (mean : ExcName → Option Value) (mg mb : Str → Option Value) (H₀ : Heap)
  (dp un : Nat) (gd : Option (List Code)) (l : List Env) (s : Shared) (Q E : Value → Shared → Prop) (x dx : Addr) (B : List UInt8) (k e1 e2 : Int) (k1 k2 tb tk : Tok),
  Cx (Mine.hd.heap_1 w.params) p loose mean mg mb H₀ l s.heap → (Own H₀ l s.heap x (instObj 191 dx)) → (Own H₀ l s.heap dx (dictOf [⟨e1, .str (Str.ofString "octets") k1, .bytes B.toArray tb⟩, ⟨e2, .str (Str.ofString "at") k2, .int k tk⟩] 2)) → (@Ne Nat x dx) → (0 ≤ k) → (k + 2 ≤ B.length) → (B.length ≤ 100) →
  dp + 4 ≤ 400 → un + 24 ≤ 400 →
  (∀ r t tk₂ h' tk', r = (sg (be B k)) → Kp s.heap h' [dx] → h'.get? dx = some (dictOf [⟨e1, .str (Str.ofString "octets") k1, .bytes B.toArray tb⟩, ⟨e2, .str (Str.ofString "at") k2, .int (k + 2) tk₂⟩] 2) → Q (.int r t) {s with heap := h', toks := tk'}) →
  wpAny (model PySem.Challenge.rw_on0238_01.row.prog w) (AA dp un gd l) (call (.ref 181) [.ref x]) Q E s := by
  k_fill
  w_top off
  intro w p loose mean mg mb H₀ dp un gd l s Q E x dx B k e1 e2 k1 k2 tb tk C Ox Od hne h0 h1 h2 hd hu hret
  refine wpAny_call ?_
  let oq1 : Obj := dictOf [⟨e1, .str (Str.ofString "octets") k1, .bytes B.toArray tb⟩, ⟨e2, .str (Str.ofString "at") k2, .int k tk⟩] 2; k_dflt (refine' enterK C [(x, instObj 191 dx), (dx, oq1)] ?O ?kA ?k6 ?k7 ?k8 ?k9 ?kB ?_ ?c2 ?c3 ?c4 ?c5; (case O => exact (acons (Ox) (List.forall_mem_singleton.mpr Od))); (case kA => exact rfl); (case k6 => k_is); (case k7 => k_is); (case k8 => ktr_room); (case k9 => exact BindsTo.of_eq rfl); (case c5 => decide); (case kB => exact locs rfl); (case c2 => exact rfl); (case c3 => exact rfl); (case c4 => exact rfl); k_whole; intro g L' h₁ hL hg F' N' B' X' T'; (try dsimp only); (try k_fold); (try (refine foldL ?_; intro eV aV)))
  (repeat' (first | (k_unfold; (try dsimp only)) | (k_end; wrow_close) | ((with_reducible show wpAny _ _ (call (Value.ref _) _) _ _ _); first | (with_reducible (k_here; (with_reducible show wpAny _ _ (call (Value.ref 132) _) _ _ _); k_dflt ( refine' s16_ok _ _ _ _ _ _ _ _ _ _ _ _ _ _ _ _ _ _ ?C ?h0 ?h1 ?h2 ?hd ?hu ?_; (case C => exact Cx.next (by assumption) (by assumption) (by assumption) rfl rfl); (case h0 => omega); (case h1 => omega); (case h2 => assumption); (case hd => ktr_room); (case hu => ktr_units); k_whole; intro rq tq h'q tk'q hrq hKq; (with_reducible rename Fr _ _ _ _ => kF); (with_reducible rename News _ _ _ _ => kN); have F'q := fr_kp0 kF hKq; have N'q := news_kp0 kN hKq; clear hKq; (try k_sweep); subst hrq)))) | walk1 | (dsimp only; (with_reducible show wpAny _ _ _ _ _ _)) | (leave1; walk_say "STEP leave1"; try dsimp only) | fail "no step"))
  all_goals (try dsimp only)
  all_goals ((try k_unfold); (try dsimp only); (with_reducible rename Fr _ _ _ _ => kF); (with_reducible rename News _ _ _ _ => kN); exact hret _ _ _ _ _ (by rw [Int.add_sub_cancel]) (kp_pair hg kF Ox.1 (kN.get (by k_mem))) (kN.get (by k_mem)))
theorem word_ok : ∀ (w : World) (p : Program) (loose : List Str) (mean : ExcName → Option Value) (mg mb : Str → Option Value) (H₀ : Heap)
  (dp un : Nat) (gd : Option (List Code)) (l : List Env) (s : Shared) (Q E : Value → Shared → Prop) (x dx : Addr) (B : List UInt8) (k e1 e2 : Int) (k1 k2 tb tk : Tok),
  Cx (Mine.hd.heap_1 w.params) p loose mean mg mb H₀ l s.heap → (Own H₀ l s.heap x (instObj 191 dx)) → (Own H₀ l s.heap dx (dictOf [⟨e1, .str (Str.ofString "octets") k1, .bytes B.toArray tb⟩, ⟨e2, .str (Str.ofString "at") k2, .int k tk⟩] 2)) → (@Ne Nat x dx) → (0 ≤ k) → (k + 2 ≤ B.length) → (B.length ≤ 100) →
  dp + 4 ≤ 400 → un + 24 ≤ 400 →
  (∀ r t tk₂ h' tk', r = (be B k) → Kp s.heap h' [dx] → h'.get? dx = some (dictOf [⟨e1, .str (Str.ofString "octets") k1, .bytes B.toArray tb⟩, ⟨e2, .str (Str.ofString "at") k2, .int (k + 2) tk₂⟩] 2) → Q (.int r t) {s with heap := h', toks := tk'}) →
  wpAny (model PySem.Challenge.rw_on0238_01.row.prog w) (AA dp un gd l) (call (.ref 174) [.ref x]) Q E s := by
  k_fill
  w_top off
  intro w p loose mean mg mb H₀ dp un gd l s Q E x dx B k e1 e2 k1 k2 tb tk C Ox Od hne h0 h1 h2 hd hu hret
  refine wpAny_call ?_
  let oq1 : Obj := dictOf [⟨e1, .str (Str.ofString "octets") k1, .bytes B.toArray tb⟩, ⟨e2, .str (Str.ofString "at") k2, .int k tk⟩] 2; k_dflt (refine' enterK C [(x, instObj 191 dx), (dx, oq1)] ?O ?kA ?k6 ?k7 ?k8 ?k9 ?kB ?_ ?c2 ?c3 ?c4 ?c5; (case O => exact (acons (Ox) (List.forall_mem_singleton.mpr Od))); (case kA => exact rfl); (case k6 => k_is); (case k7 => k_is); (case k8 => ktr_room); (case k9 => exact BindsTo.of_eq rfl); (case c5 => decide); (case kB => exact locs rfl); (case c2 => exact rfl); (case c3 => exact rfl); (case c4 => exact rfl); k_whole; intro g L' h₁ hL hg F' N' B' X' T'; (try dsimp only); (try k_fold); (try (refine foldL ?_; intro eV aV)))
  (repeat' (first | (k_unfold; (try dsimp only)) | (k_end; wrow_close) | ((with_reducible show wpAny _ _ (call (Value.ref _) _) _ _ _); first | (with_reducible (k_here; (with_reducible show wpAny _ _ (call (Value.ref 125) _) _ _ _); k_dflt ( refine' u16_ok _ _ _ _ _ _ _ _ _ _ _ _ _ _ _ _ _ _ ?C ?h0 ?h1 ?h2 ?hd ?hu ?_; (case C => exact Cx.next (by assumption) (by assumption) (by assumption) rfl rfl); (case h0 => omega); (case h1 => omega); (case h2 => assumption); (case hd => ktr_room); (case hu => ktr_units); k_whole; intro rq tq h'q tk'q hrq hKq; (with_reducible rename Fr _ _ _ _ => kF); (with_reducible rename News _ _ _ _ => kN); have F'q := fr_kp0 kF hKq; have N'q := news_kp0 kN hKq; clear hKq; (try k_sweep); subst hrq)))) | walk1 | (dsimp only; (with_reducible show wpAny _ _ _ _ _ _)) | (leave1; walk_say "STEP leave1"; try dsimp only) | fail "no step"))
  all_goals (try dsimp only)
  all_goals ((try k_unfold); (try dsimp only); (with_reducible rename Fr _ _ _ _ => kF); (with_reducible rename News _ _ _ _ => kN); exact hret _ _ _ _ _ (by rw [Int.add_sub_cancel]) (kp_pair hg kF Ox.1 (kN.get (by k_mem))) (kN.get (by k_mem)))
theorem byte_ok : ∀ (w : World) (p : Program) (loose : List Str) (mean : ExcName → Option Value) (mg mb : Str → Option Value) (H₀ : Heap)
  (dp un : Nat) (gd : Option (List Code)) (l : List Env) (s : Shared) (Q E : Value → Shared → Prop) (x dx : Addr) (B : List UInt8) (k e1 e2 : Int) (k1 k2 tb tk : Tok),
  Cx (Mine.hd.heap_1 w.params) p loose mean mg mb H₀ l s.heap → (Own H₀ l s.heap x (instObj 191 dx)) → (Own H₀ l s.heap dx (dictOf [⟨e1, .str (Str.ofString "octets") k1, .bytes B.toArray tb⟩, ⟨e2, .str (Str.ofString "at") k2, .int k tk⟩] 2)) → (@Ne Nat x dx) → (0 ≤ k) → (k + 1 ≤ B.length) → (B.length ≤ 100) →
  dp + 4 ≤ 400 → un + 24 ≤ 400 →
  (∀ r t tk₂ h' tk', r = ((((B.getD k.toNat 0).toNat : Nat) : Int)) → Kp s.heap h' [dx] → h'.get? dx = some (dictOf [⟨e1, .str (Str.ofString "octets") k1, .bytes B.toArray tb⟩, ⟨e2, .str (Str.ofString "at") k2, .int (k + 1) tk₂⟩] 2) → Q (.int r t) {s with heap := h', toks := tk'}) →
  wpAny (model PySem.Challenge.rw_on0238_01.row.prog w) (AA dp un gd l) (call (.ref 167) [.ref x]) Q E s := by
  k_fill
  w_top off
  intro w p loose mean mg mb H₀ dp un gd l s Q E x dx B k e1 e2 k1 k2 tb tk C Ox Od hne h0 h1 h2 hd hu hret
  refine wpAny_call ?_
  let oq1 : Obj := dictOf [⟨e1, .str (Str.ofString "octets") k1, .bytes B.toArray tb⟩, ⟨e2, .str (Str.ofString "at") k2, .int k tk⟩] 2; k_dflt (refine' enterK C [(x, instObj 191 dx), (dx, oq1)] ?O ?kA ?k6 ?k7 ?k8 ?k9 ?kB ?_ ?c2 ?c3 ?c4 ?c5; (case O => exact (acons (Ox) (List.forall_mem_singleton.mpr Od))); (case kA => exact rfl); (case k6 => k_is); (case k7 => k_is); (case k8 => ktr_room); (case k9 => exact BindsTo.of_eq rfl); (case c5 => decide); (case kB => exact locs rfl); (case c2 => exact rfl); (case c3 => exact rfl); (case c4 => exact rfl); k_whole; intro g L' h₁ hL hg F' N' B' X' T'; (try dsimp only); (try k_fold); (try (refine foldL ?_; intro eV aV)))
  (repeat' (first | (k_unfold; (try dsimp only)) | (k_end; wrow_close) | ((with_reducible show wpAny _ _ (call (Value.ref _) _) _ _ _); first | (with_reducible (k_here; (with_reducible show wpAny _ _ (call (Value.ref 146) _) _ _ _); k_dflt ( refine' part_ok _ _ _ _ _ _ _ _ _ _ _ _ _ _ _ _ _ _ _ ?C ?h0 ?h1 ?h2 ?hd ?hu ?_; (case C => exact Cx.next (by assumption) (by assumption) (by assumption) rfl rfl); (case h0 => omega); (case h1 => omega); (case h2 => assumption); (case hd => ktr_room); (case hu => ktr_units); k_whole; intro tq h'q tk'q hKq; (with_reducible rename Fr _ _ _ _ => kF); (with_reducible rename News _ _ _ _ => kN); have F'q := fr_kp0 kF hKq; have N'q := news_kp0 kN hKq; clear hKq; (try k_sweep))))) | walk1 | (dsimp only; (with_reducible show wpAny _ _ _ _ _ _)) | (leave1; walk_say "STEP leave1"; try dsimp only) | fail "no step"))
  all_goals (try dsimp only)
  all_goals ((try k_unfold); (try dsimp only); (with_reducible rename Fr _ _ _ _ => kF); (with_reducible rename News _ _ _ _ => kN); exact hret _ _ _ _ _ (by rw [Int.add_sub_cancel]; rfl) (kp_pair hg kF Ox.1 (kN.get (by k_mem))) (kN.get (by k_mem)))
end
section
open PySem PySem.Spec PySem.Calls PySem.W PyProof.Rows
theorem put16_ok : ∀ (w : World) (p : Program) (loose : List Str) (mean : ExcName → Option Value) (mg mb : Str → Option Value) (H₀ : Heap)
  (dp un : Nat) (gd : Option (List Code)) (l : List Env) (s : Shared) (Q E : Value → Shared → Prop) (x : Int) (t1 : Tok),
  Cx (Mine.hd.heap_1 w.params) p loose mean mg mb H₀ l s.heap →
  dp + 1 ≤ 400 → un + 8 ≤ 400 →
  (∀ t h' tk', Kp s.heap h' [] → Q (.bytes #[((x.fdiv 256).fmod 256).toNat.toUInt8, (x.fmod 256).toNat.toUInt8] t) {s with heap := h', toks := tk'}) →
  wpAny (model PySem.Challenge.rw_on0238_01.row.prog w) (AA dp un gd l) (call (.ref 139) [.int x t1]) Q E s := by
  k_fill
  w_top off
  intro w p loose mean mg mb H₀ dp un gd l s Q E x t1 C  hd hu hret
  refine wpAny_call ?_
  k_dflt (refine' enterK C [] ?O ?kA ?k6 ?k7 ?k8 ?k9 ?kB ?_ ?c2 ?c3 ?c4 ?c5; (case O => exact List.forall_mem_nil _); (case kA => exact rfl); (case k6 => k_is); (case k7 => k_is); (case k8 => ktr_room); (case k9 => exact BindsTo.of_eq rfl); (case c5 => decide); (case kB => exact locs rfl); (case c2 => exact rfl); (case c3 => exact rfl); (case c4 => exact rfl); k_whole; intro g L' h₁ hL hg F' N' B' X' T'; (try dsimp only); (try k_fold); (try (refine foldL ?_; intro eV aV)))
  k_steps
  all_goals (try dsimp only)
  all_goals ((with_reducible rename Fr _ _ _ _ => kF); exact hret _ _ _ (kp_of hg kF))
theorem two_ok : ∀ (w : World) (p : Program) (loose : List Str) (mean : ExcName → Option Value) (mg mb : Str → Option Value) (H₀ : Heap)
  (dp un : Nat) (gd : Option (List Code)) (l : List Env) (s : Shared) (Q E : Value → Shared → Prop) (x : Int) (t1 : Tok),
  Cx (Mine.hd.heap_1 w.params) p loose mean mg mb H₀ l s.heap →
  dp + 1 ≤ 400 → un + 8 ≤ 400 →
  (∀ t h' tk', Kp s.heap h' [] → Q (.bytes #[((x.fdiv 256).fmod 256).toNat.toUInt8, (x.fmod 256).toNat.toUInt8] t) {s with heap := h', toks := tk'}) →
  wpAny (model PySem.Challenge.rw_on0238_01.row.prog w) (AA dp un gd l) (call (.ref 309) [.int x t1]) Q E s := by
  k_fill
  w_top off
  intro w p loose mean mg mb H₀ dp un gd l s Q E x t1 C  hd hu hret
  refine wpAny_call ?_
  k_dflt (refine' enterK C [] ?O ?kA ?k6 ?k7 ?k8 ?k9 ?kB ?_ ?c2 ?c3 ?c4 ?c5; (case O => exact List.forall_mem_nil _); (case kA => exact rfl); (case k6 => k_is); (case k7 => k_is); (case k8 => ktr_room); (case k9 => exact BindsTo.of_eq rfl); (case c5 => decide); (case kB => exact locs rfl); (case c2 => exact rfl); (case c3 => exact rfl); (case c4 => exact rfl); k_whole; intro g L' h₁ hL hg F' N' B' X' T'; (try dsimp only); (try k_fold); (try (refine foldL ?_; intro eV aV)))
  k_steps
  all_goals (try dsimp only)
  all_goals ((with_reducible rename Fr _ _ _ _ => kF); exact hret _ _ _ (kp_of hg kF))
end
section
open PySem PySem.Spec PySem.Calls PySem.W PyProof.Rows

abbrev tup (vs : List Value) : Obj := { cls := .type "tuple", data := .seq vs.toArray }
theorem rs0_ok : ∀ (w : World) (p : Program) (loose : List Str) (mean : ExcName → Option Value) (mg mb : Str → Option Value) (H₀ : Heap)
  (dp un : Nat) (gd : Option (List Code)) (l : List Env) (s : Shared) (Q E : Value → Shared → Prop) (x dx : Addr) (B : List UInt8) (e1 e2 : Int) (k1 k2 tb tk tf : Tok),
  Cx (Mine.hd.heap_1 w.params) p loose mean mg mb H₀ l s.heap → (Own H₀ l s.heap x (instObj 191 dx)) → (Own H₀ l s.heap dx (dictOf [⟨e1, .str (Str.ofString "octets") k1, .bytes B.toArray tb⟩, ⟨e2, .str (Str.ofString "at") k2, .int 0 tk⟩] 2)) → (@Ne Nat x dx) → (0 ≤ B.length) → (B.length ≤ 100) →
  dp + 6 ≤ 400 → un + 40 ≤ 400 →
  (∀ r ta tb' tc td tk₂ h' tk', s.heap.get? r = none → Kp s.heap h' [dx] → h'.get? dx = some (dictOf [⟨e1, .str (Str.ofString "octets") k1, .bytes B.toArray tb⟩, ⟨e2, .str (Str.ofString "at") k2, .int 0 tk₂⟩] 2) → h'.get? r = some (tup [.int (16384) ta, .int (0) tb', .int (0) tc, .int (16384) td]) → Q (.ref r) {s with heap := h', toks := tk'}) →
  wpAny (model PySem.Challenge.rw_on0238_01.row.prog w) (AA dp un gd l) (call (.ref 232) [.ref x, .int 0 tf]) Q E s := by
  k_fill
  w_top off
  intro w p loose mean mg mb H₀ dp un gd l s Q E x dx B e1 e2 k1 k2 tb tk tf C Ox Od hne h1 h2 hd hu hret
  refine wpAny_call ?_
  let oq1 : Obj := dictOf [⟨e1, .str (Str.ofString "octets") k1, .bytes B.toArray tb⟩, ⟨e2, .str (Str.ofString "at") k2, .int 0 tk⟩] 2; k_dflt (refine' enterK C [(x, instObj 191 dx), (dx, oq1)] ?O ?kA ?k6 ?k7 ?k8 ?k9 ?kB ?_ ?c2 ?c3 ?c4 ?c5; (case O => exact (acons (Ox) (List.forall_mem_singleton.mpr Od))); (case kA => exact rfl); (case k6 => k_is); (case k7 => k_is); (case k8 => ktr_room); (case k9 => exact BindsTo.of_eq rfl); (case c5 => decide); (case kB => exact locs rfl); (case c2 => exact rfl); (case c3 => exact rfl); (case c4 => exact rfl); k_whole; intro g L' h₁ hL hg F' N' B' X' T'; (try dsimp only); (try k_fold); (try (refine foldL ?_; intro eV aV)))
  k_steps
  all_goals (try dsimp only)
  all_goals ((try k_unfold); (try dsimp only); (with_reducible rename Fr _ _ _ _ => kF); (with_reducible rename News _ _ _ _ => kN); exact hret _ _ _ _ _ _ _ _ (fresh_of hg kN (by k_mem) (notin2 (by k_ne) (by k_ne))) (kp_pair hg kF Ox.1 (kN.get (by k_mem))) (kN.get (by k_mem)) (kN.get (by k_mem)))
theorem rs8_ok : ∀ (w : World) (p : Program) (loose : List Str) (mean : ExcName → Option Value) (mg mb : Str → Option Value) (H₀ : Heap)
  (dp un : Nat) (gd : Option (List Code)) (l : List Env) (s : Shared) (Q E : Value → Shared → Prop) (x dx : Addr) (B : List UInt8) (e1 e2 : Int) (k1 k2 tb tk tf : Tok),
  Cx (Mine.hd.heap_1 w.params) p loose mean mg mb H₀ l s.heap → (Own H₀ l s.heap x (instObj 191 dx)) → (Own H₀ l s.heap dx (dictOf [⟨e1, .str (Str.ofString "octets") k1, .bytes B.toArray tb⟩, ⟨e2, .str (Str.ofString "at") k2, .int 0 tk⟩] 2)) → (@Ne Nat x dx) → (2 ≤ B.length) → (B.length ≤ 100) →
  dp + 6 ≤ 400 → un + 40 ≤ 400 →
  (∀ r ta tb' tc td tk₂ h' tk', s.heap.get? r = none → Kp s.heap h' [dx] → h'.get? dx = some (dictOf [⟨e1, .str (Str.ofString "octets") k1, .bytes B.toArray tb⟩, ⟨e2, .str (Str.ofString "at") k2, .int 2 tk₂⟩] 2) → h'.get? r = some (tup [.int (sg (be B 0)) ta, .int (0) tb', .int (0) tc, .int (sg (be B 0)) td]) → Q (.ref r) {s with heap := h', toks := tk'}) →
  wpAny (model PySem.Challenge.rw_on0238_01.row.prog w) (AA dp un gd l) (call (.ref 232) [.ref x, .int 8 tf]) Q E s := by
  k_fill
  w_top off
  intro w p loose mean mg mb H₀ dp un gd l s Q E x dx B e1 e2 k1 k2 tb tk tf C Ox Od hne h1 h2 hd hu hret
  refine wpAny_call ?_
  let oq1 : Obj := dictOf [⟨e1, .str (Str.ofString "octets") k1, .bytes B.toArray tb⟩, ⟨e2, .str (Str.ofString "at") k2, .int 0 tk⟩] 2; k_dflt (refine' enterK C [(x, instObj 191 dx), (dx, oq1)] ?O ?kA ?k6 ?k7 ?k8 ?k9 ?kB ?_ ?c2 ?c3 ?c4 ?c5; (case O => exact (acons (Ox) (List.forall_mem_singleton.mpr Od))); (case kA => exact rfl); (case k6 => k_is); (case k7 => k_is); (case k8 => ktr_room); (case k9 => exact BindsTo.of_eq rfl); (case c5 => decide); (case kB => exact locs rfl); (case c2 => exact rfl); (case c3 => exact rfl); (case c4 => exact rfl); k_whole; intro g L' h₁ hL hg F' N' B' X' T'; (try dsimp only); (try k_fold); (try (refine foldL ?_; intro eV aV)))
  (repeat' (first | (k_unfold; (try dsimp only)) | (k_end; wrow_close) | ((with_reducible show wpAny _ _ (call (Value.ref _) _) _ _ _); first | (with_reducible (k_here; (with_reducible show wpAny _ _ (call (Value.ref 181) _) _ _ _); k_dflt ( refine' signed_ok _ _ _ _ _ _ _ _ _ _ _ _ _ _ _ _ _ _ _ _ _ _ _ _ ?C ?Ox ?Od ?hne ?h0 ?h1 ?h2 ?hd ?hu ?_; (case C => exact Cx.next (by assumption) (by assumption) (by assumption) rfl rfl); (case Ox => exact own_of (by assumption) (by assumption) (by k_mem) rfl); (case Od => exact own_of (by assumption) (by assumption) (by k_mem) rfl); (case hne => omega); (case h0 => omega); (case h1 => omega); (case h2 => assumption); (case hd => ktr_room); (case hu => ktr_units); k_whole; intro rq tq tk₂q h'q tk'q hrq hKq hsq; (with_reducible rename Fr _ _ _ _ => kF); (with_reducible rename News _ _ _ _ => kN); have F'q := fr_kp1 kF kN (by k_mem) hKq; have N'q := news_upd kN hKq (by k_upd) hsq; clear hKq hsq; (try k_sweep); subst hrq)))) | walk1 | (dsimp only; (with_reducible show wpAny _ _ _ _ _ _)) | (leave1; walk_say "STEP leave1"; try dsimp only) | fail "no step"))
  all_goals (try dsimp only)
  all_goals ((try k_unfold); (try dsimp only); (with_reducible rename Fr _ _ _ _ => kF); (with_reducible rename News _ _ _ _ => kN); exact hret _ _ _ _ _ _ _ _ (fresh_of hg kN (by k_mem) (notin2 (by k_ne) (by k_ne))) (kp_pair hg kF Ox.1 (kN.get (by k_mem))) (kN.get (by k_mem)) (kN.get (by k_mem)))
theorem rs64_ok : ∀ (w : World) (p : Program) (loose : List Str) (mean : ExcName → Option Value) (mg mb : Str → Option Value) (H₀ : Heap)
  (dp un : Nat) (gd : Option (List Code)) (l : List Env) (s : Shared) (Q E : Value → Shared → Prop) (x dx : Addr) (B : List UInt8) (e1 e2 : Int) (k1 k2 tb tk tf : Tok),
  Cx (Mine.hd.heap_1 w.params) p loose mean mg mb H₀ l s.heap → (Own H₀ l s.heap x (instObj 191 dx)) → (Own H₀ l s.heap dx (dictOf [⟨e1, .str (Str.ofString "octets") k1, .bytes B.toArray tb⟩, ⟨e2, .str (Str.ofString "at") k2, .int 0 tk⟩] 2)) → (@Ne Nat x dx) → (4 ≤ B.length) → (B.length ≤ 100) →
  dp + 6 ≤ 400 → un + 40 ≤ 400 →
  (∀ r ta tb' tc td tk₂ h' tk', s.heap.get? r = none → Kp s.heap h' [dx] → h'.get? dx = some (dictOf [⟨e1, .str (Str.ofString "octets") k1, .bytes B.toArray tb⟩, ⟨e2, .str (Str.ofString "at") k2, .int 4 tk₂⟩] 2) → h'.get? r = some (tup [.int (sg (be B 0)) ta, .int (0) tb', .int (0) tc, .int (sg (be B 2)) td]) → Q (.ref r) {s with heap := h', toks := tk'}) →
  wpAny (model PySem.Challenge.rw_on0238_01.row.prog w) (AA dp un gd l) (call (.ref 232) [.ref x, .int 64 tf]) Q E s := by
  k_fill
  w_top off
  intro w p loose mean mg mb H₀ dp un gd l s Q E x dx B e1 e2 k1 k2 tb tk tf C Ox Od hne h1 h2 hd hu hret
  refine wpAny_call ?_
  let oq1 : Obj := dictOf [⟨e1, .str (Str.ofString "octets") k1, .bytes B.toArray tb⟩, ⟨e2, .str (Str.ofString "at") k2, .int 0 tk⟩] 2; k_dflt (refine' enterK C [(x, instObj 191 dx), (dx, oq1)] ?O ?kA ?k6 ?k7 ?k8 ?k9 ?kB ?_ ?c2 ?c3 ?c4 ?c5; (case O => exact (acons (Ox) (List.forall_mem_singleton.mpr Od))); (case kA => exact rfl); (case k6 => k_is); (case k7 => k_is); (case k8 => ktr_room); (case k9 => exact BindsTo.of_eq rfl); (case c5 => decide); (case kB => exact locs rfl); (case c2 => exact rfl); (case c3 => exact rfl); (case c4 => exact rfl); k_whole; intro g L' h₁ hL hg F' N' B' X' T'; (try dsimp only); (try k_fold); (try (refine foldL ?_; intro eV aV)))
  (repeat' (first | (k_unfold; (try dsimp only)) | (k_end; wrow_close) | ((with_reducible show wpAny _ _ (call (Value.ref _) _) _ _ _); first | (with_reducible (k_here; (with_reducible show wpAny _ _ (call (Value.ref 181) _) _ _ _); k_dflt ( refine' signed_ok _ _ _ _ _ _ _ _ _ _ _ _ _ _ _ _ _ _ _ _ _ _ _ _ ?C ?Ox ?Od ?hne ?h0 ?h1 ?h2 ?hd ?hu ?_; (case C => exact Cx.next (by assumption) (by assumption) (by assumption) rfl rfl); (case Ox => exact own_of (by assumption) (by assumption) (by k_mem) rfl); (case Od => exact own_of (by assumption) (by assumption) (by k_mem) rfl); (case hne => omega); (case h0 => omega); (case h1 => omega); (case h2 => assumption); (case hd => ktr_room); (case hu => ktr_units); k_whole; intro rq tq tk₂q h'q tk'q hrq hKq hsq; (with_reducible rename Fr _ _ _ _ => kF); (with_reducible rename News _ _ _ _ => kN); have F'q := fr_kp1 kF kN (by k_mem) hKq; have N'q := news_upd kN hKq (by k_upd) hsq; clear hKq hsq; (try k_sweep); subst hrq)))) | walk1 | (dsimp only; (with_reducible show wpAny _ _ _ _ _ _)) | (leave1; walk_say "STEP leave1"; try dsimp only) | fail "no step"))
  all_goals (try dsimp only)
  all_goals ((try k_unfold); (try dsimp only); (with_reducible rename Fr _ _ _ _ => kF); (with_reducible rename News _ _ _ _ => kN); exact hret _ _ _ _ _ _ _ _ (fresh_of hg kN (by k_mem) (notin2 (by k_ne) (by k_ne))) (kp_pair hg kF Ox.1 (kN.get (by k_mem))) (kN.get (by k_mem)) (kN.get (by k_mem)))
theorem rs128_ok : ∀ (w : World) (p : Program) (loose : List Str) (mean : ExcName → Option Value) (mg mb : Str → Option Value) (H₀ : Heap)
  (dp un : Nat) (gd : Option (List Code)) (l : List Env) (s : Shared) (Q E : Value → Shared → Prop) (x dx : Addr) (B : List UInt8) (e1 e2 : Int) (k1 k2 tb tk tf : Tok),
  Cx (Mine.hd.heap_1 w.params) p loose mean mg mb H₀ l s.heap → (Own H₀ l s.heap x (instObj 191 dx)) → (Own H₀ l s.heap dx (dictOf [⟨e1, .str (Str.ofString "octets") k1, .bytes B.toArray tb⟩, ⟨e2, .str (Str.ofString "at") k2, .int 0 tk⟩] 2)) → (@Ne Nat x dx) → (8 ≤ B.length) → (B.length ≤ 100) →
  dp + 6 ≤ 400 → un + 40 ≤ 400 →
  (∀ r ta tb' tc td tk₂ h' tk', s.heap.get? r = none → Kp s.heap h' [dx] → h'.get? dx = some (dictOf [⟨e1, .str (Str.ofString "octets") k1, .bytes B.toArray tb⟩, ⟨e2, .str (Str.ofString "at") k2, .int 8 tk₂⟩] 2) → h'.get? r = some (tup [.int (sg (be B 0)) ta, .int (sg (be B 2)) tb', .int (sg (be B 4)) tc, .int (sg (be B 6)) td]) → Q (.ref r) {s with heap := h', toks := tk'}) →
  wpAny (model PySem.Challenge.rw_on0238_01.row.prog w) (AA dp un gd l) (call (.ref 232) [.ref x, .int 128 tf]) Q E s := by
  k_fill
  w_top off
  intro w p loose mean mg mb H₀ dp un gd l s Q E x dx B e1 e2 k1 k2 tb tk tf C Ox Od hne h1 h2 hd hu hret
  refine wpAny_call ?_
  let oq1 : Obj := dictOf [⟨e1, .str (Str.ofString "octets") k1, .bytes B.toArray tb⟩, ⟨e2, .str (Str.ofString "at") k2, .int 0 tk⟩] 2; k_dflt (refine' enterK C [(x, instObj 191 dx), (dx, oq1)] ?O ?kA ?k6 ?k7 ?k8 ?k9 ?kB ?_ ?c2 ?c3 ?c4 ?c5; (case O => exact (acons (Ox) (List.forall_mem_singleton.mpr Od))); (case kA => exact rfl); (case k6 => k_is); (case k7 => k_is); (case k8 => ktr_room); (case k9 => exact BindsTo.of_eq rfl); (case c5 => decide); (case kB => exact locs rfl); (case c2 => exact rfl); (case c3 => exact rfl); (case c4 => exact rfl); k_whole; intro g L' h₁ hL hg F' N' B' X' T'; (try dsimp only); (try k_fold); (try (refine foldL ?_; intro eV aV)))
  (repeat' (first | (k_unfold; (try dsimp only)) | (k_end; wrow_close) | ((with_reducible show wpAny _ _ (call (Value.ref _) _) _ _ _); first | (with_reducible (k_here; (with_reducible show wpAny _ _ (call (Value.ref 181) _) _ _ _); k_dflt ( refine' signed_ok _ _ _ _ _ _ _ _ _ _ _ _ _ _ _ _ _ _ _ _ _ _ _ _ ?C ?Ox ?Od ?hne ?h0 ?h1 ?h2 ?hd ?hu ?_; (case C => exact Cx.next (by assumption) (by assumption) (by assumption) rfl rfl); (case Ox => exact own_of (by assumption) (by assumption) (by k_mem) rfl); (case Od => exact own_of (by assumption) (by assumption) (by k_mem) rfl); (case hne => omega); (case h0 => omega); (case h1 => omega); (case h2 => assumption); (case hd => ktr_room); (case hu => ktr_units); k_whole; intro rq tq tk₂q h'q tk'q hrq hKq hsq; (with_reducible rename Fr _ _ _ _ => kF); (with_reducible rename News _ _ _ _ => kN); have F'q := fr_kp1 kF kN (by k_mem) hKq; have N'q := news_upd kN hKq (by k_upd) hsq; clear hKq hsq; (try k_sweep); subst hrq)))) | walk1 | (dsimp only; (with_reducible show wpAny _ _ _ _ _ _)) | (leave1; walk_say "STEP leave1"; try dsimp only) | fail "no step"))
  all_goals (try dsimp only)
  all_goals ((try k_unfold); (try dsimp only); (with_reducible rename Fr _ _ _ _ => kF); (with_reducible rename News _ _ _ _ => kN); exact hret _ _ _ _ _ _ _ _ (fresh_of hg kN (by k_mem) (notin2 (by k_ne) (by k_ne))) (kp_pair hg kF Ox.1 (kN.get (by k_mem))) (kN.get (by k_mem)) (kN.get (by k_mem)))
theorem ra0_ok : ∀ (w : World) (p : Program) (loose : List Str) (mean : ExcName → Option Value) (mg mb : Str → Option Value) (H₀ : Heap)
  (dp un : Nat) (gd : Option (List Code)) (l : List Env) (s : Shared) (Q E : Value → Shared → Prop) (x dx : Addr) (B : List UInt8) (e1 e2 : Int) (k1 k2 tb tk tf : Tok),
  Cx (Mine.hd.heap_1 w.params) p loose mean mg mb H₀ l s.heap → (Own H₀ l s.heap x (instObj 191 dx)) → (Own H₀ l s.heap dx (dictOf [⟨e1, .str (Str.ofString "octets") k1, .bytes B.toArray tb⟩, ⟨e2, .str (Str.ofString "at") k2, .int 0 tk⟩] 2)) → (@Ne Nat x dx) → (2 ≤ B.length) → (B.length ≤ 100) →
  dp + 6 ≤ 400 → un + 40 ≤ 400 →
  (∀ r ta tb' tk₂ h' tk', s.heap.get? r = none → Kp s.heap h' [dx] → h'.get? dx = some (dictOf [⟨e1, .str (Str.ofString "octets") k1, .bytes B.toArray tb⟩, ⟨e2, .str (Str.ofString "at") k2, .int 2 tk₂⟩] 2) → h'.get? r = some (tup [.int ((((B.getD 0 0).toNat : Nat) : Int)) ta, .int ((((B.getD 1 0).toNat : Nat) : Int)) tb']) → Q (.ref r) {s with heap := h', toks := tk'}) →
  wpAny (model PySem.Challenge.rw_on0238_01.row.prog w) (AA dp un gd l) (call (.ref 246) [.ref x, .int 0 tf]) Q E s := by
  k_fill
  w_top off
  intro w p loose mean mg mb H₀ dp un gd l s Q E x dx B e1 e2 k1 k2 tb tk tf C Ox Od hne h1 h2 hd hu hret
  refine wpAny_call ?_
  let oq1 : Obj := dictOf [⟨e1, .str (Str.ofString "octets") k1, .bytes B.toArray tb⟩, ⟨e2, .str (Str.ofString "at") k2, .int 0 tk⟩] 2; k_dflt (refine' enterK C [(x, instObj 191 dx), (dx, oq1)] ?O ?kA ?k6 ?k7 ?k8 ?k9 ?kB ?_ ?c2 ?c3 ?c4 ?c5; (case O => exact (acons (Ox) (List.forall_mem_singleton.mpr Od))); (case kA => exact rfl); (case k6 => k_is); (case k7 => k_is); (case k8 => ktr_room); (case k9 => exact BindsTo.of_eq rfl); (case c5 => decide); (case kB => exact locs rfl); (case c2 => exact rfl); (case c3 => exact rfl); (case c4 => exact rfl); k_whole; intro g L' h₁ hL hg F' N' B' X' T'; (try dsimp only); (try k_fold); (try (refine foldL ?_; intro eV aV)))
  (repeat' (first | (k_unfold; (try dsimp only)) | (k_end; wrow_close) | ((with_reducible show wpAny _ _ (call (Value.ref _) _) _ _ _); first | (with_reducible (k_here; (with_reducible show wpAny _ _ (call (Value.ref 167) _) _ _ _); k_dflt ( refine' byte_ok _ _ _ _ _ _ _ _ _ _ _ _ _ _ _ _ _ _ _ _ _ _ _ _ ?C ?Ox ?Od ?hne ?h0 ?h1 ?h2 ?hd ?hu ?_; (case C => exact Cx.next (by assumption) (by assumption) (by assumption) rfl rfl); (case Ox => exact own_of (by assumption) (by assumption) (by k_mem) rfl); (case Od => exact own_of (by assumption) (by assumption) (by k_mem) rfl); (case hne => omega); (case h0 => omega); (case h1 => omega); (case h2 => assumption); (case hd => ktr_room); (case hu => ktr_units); k_whole; intro rq tq tk₂q h'q tk'q hrq hKq hsq; (with_reducible rename Fr _ _ _ _ => kF); (with_reducible rename News _ _ _ _ => kN); have F'q := fr_kp1 kF kN (by k_mem) hKq; have N'q := news_upd kN hKq (by k_upd) hsq; clear hKq hsq; (try k_sweep); subst hrq)))) | walk1 | (dsimp only; (with_reducible show wpAny _ _ _ _ _ _)) | (leave1; walk_say "STEP leave1"; try dsimp only) | fail "no step"))
  all_goals (try dsimp only)
  all_goals ((try k_unfold); (try dsimp only); (with_reducible rename Fr _ _ _ _ => kF); (with_reducible rename News _ _ _ _ => kN); exact hret _ _ _ _ _ _ (fresh_of hg kN (by k_mem) (notin2 (by k_ne) (by k_ne))) (kp_pair hg kF Ox.1 (kN.get (by k_mem))) (kN.get (by k_mem)) (kN.get (by k_mem)))
theorem ra1_ok : ∀ (w : World) (p : Program) (loose : List Str) (mean : ExcName → Option Value) (mg mb : Str → Option Value) (H₀ : Heap)
  (dp un : Nat) (gd : Option (List Code)) (l : List Env) (s : Shared) (Q E : Value → Shared → Prop) (x dx : Addr) (B : List UInt8) (e1 e2 : Int) (k1 k2 tb tk tf : Tok),
  Cx (Mine.hd.heap_1 w.params) p loose mean mg mb H₀ l s.heap → (Own H₀ l s.heap x (instObj 191 dx)) → (Own H₀ l s.heap dx (dictOf [⟨e1, .str (Str.ofString "octets") k1, .bytes B.toArray tb⟩, ⟨e2, .str (Str.ofString "at") k2, .int 0 tk⟩] 2)) → (@Ne Nat x dx) → (4 ≤ B.length) → (B.length ≤ 100) →
  dp + 6 ≤ 400 → un + 40 ≤ 400 →
  (∀ r ta tb' tk₂ h' tk', s.heap.get? r = none → Kp s.heap h' [dx] → h'.get? dx = some (dictOf [⟨e1, .str (Str.ofString "octets") k1, .bytes B.toArray tb⟩, ⟨e2, .str (Str.ofString "at") k2, .int 4 tk₂⟩] 2) → h'.get? r = some (tup [.int (be B 0) ta, .int (be B 2) tb']) → Q (.ref r) {s with heap := h', toks := tk'}) →
  wpAny (model PySem.Challenge.rw_on0238_01.row.prog w) (AA dp un gd l) (call (.ref 246) [.ref x, .int 1 tf]) Q E s := by
  k_fill
  w_top off
  intro w p loose mean mg mb H₀ dp un gd l s Q E x dx B e1 e2 k1 k2 tb tk tf C Ox Od hne h1 h2 hd hu hret
  refine wpAny_call ?_
  let oq1 : Obj := dictOf [⟨e1, .str (Str.ofString "octets") k1, .bytes B.toArray tb⟩, ⟨e2, .str (Str.ofString "at") k2, .int 0 tk⟩] 2; k_dflt (refine' enterK C [(x, instObj 191 dx), (dx, oq1)] ?O ?kA ?k6 ?k7 ?k8 ?k9 ?kB ?_ ?c2 ?c3 ?c4 ?c5; (case O => exact (acons (Ox) (List.forall_mem_singleton.mpr Od))); (case kA => exact rfl); (case k6 => k_is); (case k7 => k_is); (case k8 => ktr_room); (case k9 => exact BindsTo.of_eq rfl); (case c5 => decide); (case kB => exact locs rfl); (case c2 => exact rfl); (case c3 => exact rfl); (case c4 => exact rfl); k_whole; intro g L' h₁ hL hg F' N' B' X' T'; (try dsimp only); (try k_fold); (try (refine foldL ?_; intro eV aV)))
  (repeat' (first | (k_unfold; (try dsimp only)) | (k_end; wrow_close) | ((with_reducible show wpAny _ _ (call (Value.ref _) _) _ _ _); first | (with_reducible (k_here; (with_reducible show wpAny _ _ (call (Value.ref 174) _) _ _ _); k_dflt ( refine' word_ok _ _ _ _ _ _ _ _ _ _ _ _ _ _ _ _ _ _ _ _ _ _ _ _ ?C ?Ox ?Od ?hne ?h0 ?h1 ?h2 ?hd ?hu ?_; (case C => exact Cx.next (by assumption) (by assumption) (by assumption) rfl rfl); (case Ox => exact own_of (by assumption) (by assumption) (by k_mem) rfl); (case Od => exact own_of (by assumption) (by assumption) (by k_mem) rfl); (case hne => omega); (case h0 => omega); (case h1 => omega); (case h2 => assumption); (case hd => ktr_room); (case hu => ktr_units); k_whole; intro rq tq tk₂q h'q tk'q hrq hKq hsq; (with_reducible rename Fr _ _ _ _ => kF); (with_reducible rename News _ _ _ _ => kN); have F'q := fr_kp1 kF kN (by k_mem) hKq; have N'q := news_upd kN hKq (by k_upd) hsq; clear hKq hsq; (try k_sweep); subst hrq)))) | walk1 | (dsimp only; (with_reducible show wpAny _ _ _ _ _ _)) | (leave1; walk_say "STEP leave1"; try dsimp only) | fail "no step"))
  all_goals (try dsimp only)
  all_goals ((try k_unfold); (try dsimp only); (with_reducible rename Fr _ _ _ _ => kF); (with_reducible rename News _ _ _ _ => kN); exact hret _ _ _ _ _ _ (fresh_of hg kN (by k_mem) (notin2 (by k_ne) (by k_ne))) (kp_pair hg kF Ox.1 (kN.get (by k_mem))) (kN.get (by k_mem)) (kN.get (by k_mem)))
theorem ra2_ok : ∀ (w : World) (p : Program) (loose : List Str) (mean : ExcName → Option Value) (mg mb : Str → Option Value) (H₀ : Heap)
  (dp un : Nat) (gd : Option (List Code)) (l : List Env) (s : Shared) (Q E : Value → Shared → Prop) (x dx : Addr) (B : List UInt8) (e1 e2 : Int) (k1 k2 tb tk tf : Tok),
  Cx (Mine.hd.heap_1 w.params) p loose mean mg mb H₀ l s.heap → (Own H₀ l s.heap x (instObj 191 dx)) → (Own H₀ l s.heap dx (dictOf [⟨e1, .str (Str.ofString "octets") k1, .bytes B.toArray tb⟩, ⟨e2, .str (Str.ofString "at") k2, .int 0 tk⟩] 2)) → (@Ne Nat x dx) → (2 ≤ B.length) → (B.length ≤ 100) →
  dp + 6 ≤ 400 → un + 40 ≤ 400 →
  (∀ r ta tb' tk₂ h' tk', s.heap.get? r = none → Kp s.heap h' [dx] → h'.get? dx = some (dictOf [⟨e1, .str (Str.ofString "octets") k1, .bytes B.toArray tb⟩, ⟨e2, .str (Str.ofString "at") k2, .int 2 tk₂⟩] 2) → h'.get? r = some (tup [.int (if 128 ≤ (((B.getD 0 0).toNat : Nat) : Int) then (((B.getD 0 0).toNat : Nat) : Int) - 256 else (((B.getD 0 0).toNat : Nat) : Int)) ta, .int (if 128 ≤ (((B.getD 1 0).toNat : Nat) : Int) then (((B.getD 1 0).toNat : Nat) : Int) - 256 else (((B.getD 1 0).toNat : Nat) : Int)) tb']) → Q (.ref r) {s with heap := h', toks := tk'}) →
  wpAny (model PySem.Challenge.rw_on0238_01.row.prog w) (AA dp un gd l) (call (.ref 246) [.ref x, .int 2 tf]) Q E s := by
  k_fill
  w_top off
  intro w p loose mean mg mb H₀ dp un gd l s Q E x dx B e1 e2 k1 k2 tb tk tf C Ox Od hne h1 h2 hd hu hret
  refine wpAny_call ?_
  let oq1 : Obj := dictOf [⟨e1, .str (Str.ofString "octets") k1, .bytes B.toArray tb⟩, ⟨e2, .str (Str.ofString "at") k2, .int 0 tk⟩] 2; k_dflt (refine' enterK C [(x, instObj 191 dx), (dx, oq1)] ?O ?kA ?k6 ?k7 ?k8 ?k9 ?kB ?_ ?c2 ?c3 ?c4 ?c5; (case O => exact (acons (Ox) (List.forall_mem_singleton.mpr Od))); (case kA => exact rfl); (case k6 => k_is); (case k7 => k_is); (case k8 => ktr_room); (case k9 => exact BindsTo.of_eq rfl); (case c5 => decide); (case kB => exact locs rfl); (case c2 => exact rfl); (case c3 => exact rfl); (case c4 => exact rfl); k_whole; intro g L' h₁ hL hg F' N' B' X' T'; (try dsimp only); (try k_fold); (try (refine foldL ?_; intro eV aV)))
  (repeat' (first | (k_unfold; (try dsimp only)) | (k_end; wrow_close) | ((with_reducible show wpAny _ _ (call (Value.ref _) _) _ _ _); first | (with_reducible (k_here; (with_reducible show wpAny _ _ (call (Value.ref 239) _) _ _ _); k_dflt ( refine' signed_byte_ok _ _ _ _ _ _ _ _ _ _ _ _ _ _ _ _ ?C  ?hd ?hu ?_; (case C => exact Cx.next (by assumption) (by assumption) (by assumption) rfl rfl); (case hd => ktr_room); (case hu => ktr_units); k_whole; intro rq tq h'q tk'q hrq hKq; (with_reducible rename Fr _ _ _ _ => kF); (with_reducible rename News _ _ _ _ => kN); have F'q := fr_kp0 kF hKq; have N'q := news_kp0 kN hKq; clear hKq; (try k_sweep); subst hrq))) | (with_reducible (k_here; (with_reducible show wpAny _ _ (call (Value.ref 167) _) _ _ _); k_dflt ( refine' byte_ok _ _ _ _ _ _ _ _ _ _ _ _ _ _ _ _ _ _ _ _ _ _ _ _ ?C ?Ox ?Od ?hne ?h0 ?h1 ?h2 ?hd ?hu ?_; (case C => exact Cx.next (by assumption) (by assumption) (by assumption) rfl rfl); (case Ox => exact own_of (by assumption) (by assumption) (by k_mem) rfl); (case Od => exact own_of (by assumption) (by assumption) (by k_mem) rfl); (case hne => omega); (case h0 => omega); (case h1 => omega); (case h2 => assumption); (case hd => ktr_room); (case hu => ktr_units); k_whole; intro rq tq tk₂q h'q tk'q hrq hKq hsq; (with_reducible rename Fr _ _ _ _ => kF); (with_reducible rename News _ _ _ _ => kN); have F'q := fr_kp1 kF kN (by k_mem) hKq; have N'q := news_upd kN hKq (by k_upd) hsq; clear hKq hsq; (try k_sweep); subst hrq)))) | walk1 | (dsimp only; (with_reducible show wpAny _ _ _ _ _ _)) | (leave1; walk_say "STEP leave1"; try dsimp only) | fail "no step"))
  all_goals (try dsimp only)
  all_goals ((try k_unfold); (try dsimp only); (with_reducible rename Fr _ _ _ _ => kF); (with_reducible rename News _ _ _ _ => kN); exact hret _ _ _ _ _ _ (fresh_of hg kN (by k_mem) (notin2 (by k_ne) (by k_ne))) (kp_pair hg kF Ox.1 (kN.get (by k_mem))) (kN.get (by k_mem)) (kN.get (by k_mem)))
theorem ra3_ok : ∀ (w : World) (p : Program) (loose : List Str) (mean : ExcName → Option Value) (mg mb : Str → Option Value) (H₀ : Heap)
  (dp un : Nat) (gd : Option (List Code)) (l : List Env) (s : Shared) (Q E : Value → Shared → Prop) (x dx : Addr) (B : List UInt8) (e1 e2 : Int) (k1 k2 tb tk tf : Tok),
  Cx (Mine.hd.heap_1 w.params) p loose mean mg mb H₀ l s.heap → (Own H₀ l s.heap x (instObj 191 dx)) → (Own H₀ l s.heap dx (dictOf [⟨e1, .str (Str.ofString "octets") k1, .bytes B.toArray tb⟩, ⟨e2, .str (Str.ofString "at") k2, .int 0 tk⟩] 2)) → (@Ne Nat x dx) → (4 ≤ B.length) → (B.length ≤ 100) →
  dp + 6 ≤ 400 → un + 40 ≤ 400 →
  (∀ r ta tb' tk₂ h' tk', s.heap.get? r = none → Kp s.heap h' [dx] → h'.get? dx = some (dictOf [⟨e1, .str (Str.ofString "octets") k1, .bytes B.toArray tb⟩, ⟨e2, .str (Str.ofString "at") k2, .int 4 tk₂⟩] 2) → h'.get? r = some (tup [.int (sg (be B 0)) ta, .int (sg (be B 2)) tb']) → Q (.ref r) {s with heap := h', toks := tk'}) →
  wpAny (model PySem.Challenge.rw_on0238_01.row.prog w) (AA dp un gd l) (call (.ref 246) [.ref x, .int 3 tf]) Q E s := by
  k_fill
  w_top off
  intro w p loose mean mg mb H₀ dp un gd l s Q E x dx B e1 e2 k1 k2 tb tk tf C Ox Od hne h1 h2 hd hu hret
  refine wpAny_call ?_
  let oq1 : Obj := dictOf [⟨e1, .str (Str.ofString "octets") k1, .bytes B.toArray tb⟩, ⟨e2, .str (Str.ofString "at") k2, .int 0 tk⟩] 2; k_dflt (refine' enterK C [(x, instObj 191 dx), (dx, oq1)] ?O ?kA ?k6 ?k7 ?k8 ?k9 ?kB ?_ ?c2 ?c3 ?c4 ?c5; (case O => exact (acons (Ox) (List.forall_mem_singleton.mpr Od))); (case kA => exact rfl); (case k6 => k_is); (case k7 => k_is); (case k8 => ktr_room); (case k9 => exact BindsTo.of_eq rfl); (case c5 => decide); (case kB => exact locs rfl); (case c2 => exact rfl); (case c3 => exact rfl); (case c4 => exact rfl); k_whole; intro g L' h₁ hL hg F' N' B' X' T'; (try dsimp only); (try k_fold); (try (refine foldL ?_; intro eV aV)))
  (repeat' (first | (k_unfold; (try dsimp only)) | (k_end; wrow_close) | ((with_reducible show wpAny _ _ (call (Value.ref _) _) _ _ _); first | (with_reducible (k_here; (with_reducible show wpAny _ _ (call (Value.ref 181) _) _ _ _); k_dflt ( refine' signed_ok _ _ _ _ _ _ _ _ _ _ _ _ _ _ _ _ _ _ _ _ _ _ _ _ ?C ?Ox ?Od ?hne ?h0 ?h1 ?h2 ?hd ?hu ?_; (case C => exact Cx.next (by assumption) (by assumption) (by assumption) rfl rfl); (case Ox => exact own_of (by assumption) (by assumption) (by k_mem) rfl); (case Od => exact own_of (by assumption) (by assumption) (by k_mem) rfl); (case hne => omega); (case h0 => omega); (case h1 => omega); (case h2 => assumption); (case hd => ktr_room); (case hu => ktr_units); k_whole; intro rq tq tk₂q h'q tk'q hrq hKq hsq; (with_reducible rename Fr _ _ _ _ => kF); (with_reducible rename News _ _ _ _ => kN); have F'q := fr_kp1 kF kN (by k_mem) hKq; have N'q := news_upd kN hKq (by k_upd) hsq; clear hKq hsq; (try k_sweep); subst hrq)))) | walk1 | (dsimp only; (with_reducible show wpAny _ _ _ _ _ _)) | (leave1; walk_say "STEP leave1"; try dsimp only) | fail "no step"))
  all_goals (try dsimp only)
  all_goals ((try k_unfold); (try dsimp only); (with_reducible rename Fr _ _ _ _ => kF); (with_reducible rename News _ _ _ _ => kN); exact hret _ _ _ _ _ _ (fresh_of hg kN (by k_mem) (notin2 (by k_ne) (by k_ne))) (kp_pair hg kF Ox.1 (kN.get (by k_mem))) (kN.get (by k_mem)) (kN.get (by k_mem)))
end
section
open PySem PySem.Spec PySem.Calls PySem.W PyProof.Rows

def two (x : Int) : List UInt8 := [((x.fdiv 256).fmod 256).toNat.toUInt8, (x.fmod 256).toNat.toUInt8]
def scF (a b c d : Int) : Int := if (a == 16384 && (b == 0 && (c == 0 && d == 16384))) = true then 0 else if (b == 0 && c == 0) = true then (if a = d then 8 else 64) else 128
def scB (a b c d : Int) : List UInt8 := if (a == 16384 && (b == 0 && (c == 0 && d == 16384))) = true then [] else if (b == 0 && c == 0) = true then (if a = d then two a else two a ++ two d) else two a ++ two b ++ two c ++ two d
theorem notin1 {r x : Addr} {o : Obj} (h1 : @Ne Nat x r) : r ∉ List.map (fun q : Addr × Obj => q.1) [(x, o)] := fun h => h1 (List.mem_singleton.mp h).symm
theorem kp_one {h h' g : Heap} {L : Addr} {m : Str → Option Value} {x : Addr} {o : Obj} (hg : ∀ b ob, h.get? b = some ob → b ∉ List.map (fun q : Addr × Obj => q.1) [(x, o)] → g.get? b = some ob) (F : Fr g L h' m) (h1 : h.get? x = some o) (h2 : h'.get? x = some o) : Kp h h' [] :=
  kp_ofS hg F (List.forall_mem_singleton.mpr (.inr ⟨h1, h2⟩))
theorem sco_ok : ∀ (w : World) (p : Program) (loose : List Str) (mean : ExcName → Option Value) (mg mb : Str → Option Value) (H₀ : Heap)
  (dp un : Nat) (gd : Option (List Code)) (l : List Env) (s : Shared) (Q E : Value → Shared → Prop) (ts : Addr) (a b c d : Int) (ta tb tc td : Tok),
  Cx (Mine.hd.heap_1 w.params) p loose mean mg mb H₀ l s.heap → (Own H₀ l s.heap ts (tup [.int a ta, .int b tb, .int c tc, .int d td])) →
  dp + 3 ≤ 400 → un + 24 ≤ 400 →
  (∀ r fl W t₁ t₂ h' tk', fl = scF a b c d → W = (scB a b c d).toArray → s.heap.get? r = none → Kp s.heap h' [] → h'.get? r = some (tup [.int fl t₁, .bytes W t₂]) → Q (.ref r) {s with heap := h', toks := tk'}) →
  wpAny (model PySem.Challenge.rw_on0238_01.row.prog w) (AA dp un gd l) (call (.ref 260) [.ref ts]) Q E s := by
  k_fill
  w_top off
  intro w p loose mean mg mb H₀ dp un gd l s Q E ts a b c d ta tb tc td C Ot hd hu hret
  refine wpAny_call ?_
  let oq0 : Obj := tup [.int a ta, .int b tb, .int c tc, .int d td]; k_dflt (refine' enterK C [(ts, oq0)] ?O ?kA ?k6 ?k7 ?k8 ?k9 ?kB ?_ ?c2 ?c3 ?c4 ?c5; (case O => exact List.forall_mem_singleton.mpr Ot); (case kA => exact rfl); (case k6 => k_is); (case k7 => k_is); (case k8 => ktr_room); (case k9 => exact BindsTo.of_eq rfl); (case c5 => decide); (case kB => exact locs rfl); (case c2 => exact rfl); (case c3 => exact rfl); (case c4 => exact rfl); k_whole; intro g L' h₁ hL hg F' N' B' X' T'; (try dsimp only); (try k_fold))
  (repeat' (first | (k_unfold; (try dsimp only)) | (k_end; wrow_close) | (with_reducible (k_here; first | ((with_reducible refine ite_pos ?h ?_); (case h => omega)) | ((with_reducible refine ite_neg ?h ?_); (case h => omega)))) | ((k_here; first | ((with_reducible refine ite_pos ?h ?_); (case h => omega)) | ((with_reducible refine ite_neg ?h ?_); (case h => omega)))) | ((with_reducible show wpAny _ _ (call (Value.ref _) _) _ _ _); first | (with_reducible (k_here; (with_reducible show wpAny _ _ (call (Value.ref 139) _) _ _ _); k_dflt ( refine' put16_ok _ _ _ _ _ _ _ _ _ _ _ _ _ _ _ _ ?C  ?hd ?hu ?_; (case C => exact Cx.next (by assumption) (by assumption) (by assumption) rfl rfl); (case hd => ktr_room); (case hu => ktr_units); k_whole; intro tq h'q tk'q hKq; (with_reducible rename Fr _ _ _ _ => kF); (with_reducible rename News _ _ _ _ => kN); have F'q := fr_kp0 kF hKq; have N'q := news_kp0 kN hKq; clear hKq; (try k_sweep))))) | walk1 | (dsimp only; (with_reducible show wpAny _ _ _ _ _ _)) | (leave1; walk_say "STEP leave1"; try dsimp only) | fail "no step"))
  all_goals (try dsimp only)
  all_goals ((try k_unfold); (try dsimp only); (with_reducible rename Fr _ _ _ _ => kF); (with_reducible rename News _ _ _ _ => kN); refine hret _ _ _ _ _ _ _ ?_ ?_ (fresh_of hg kN (by k_mem) (notin1 (by k_ne))) (kp_one hg kF Ot.1 (kN.get (by k_mem))) (kN.get (by k_mem)))
  all_goals (clear hret; first | (simp_all [scF, scB, two]; done) | (simp only [scF, scB, two, *, if_false, Bool.false_eq_true]; done) | (simp only [scF, scB, two, *, if_false, Bool.false_eq_true]; rfl))
end
section
open PySem PySem.Spec PySem.Calls PySem.W PyProof.Rows

abbrev partDict (e1 e2 e3 e4 e5 : Int) (k1 k2 k3 k4 k5 tg tf ts : Tok) (g f n : Int) (mv : Bool) (sc : Addr) : Obj :=
  dictOf [⟨e1, .str (Str.ofString "glyph") k1, .int g tg⟩, ⟨e2, .str (Str.ofString "first") k2, .int f tf⟩, ⟨e3, .str (Str.ofString "second") k3, .int n ts⟩, ⟨e4, .str (Str.ofString "is_move") k4, .bool mv⟩, ⟨e5, .str (Str.ofString "scale") k5, .ref sc⟩] 5
def arF (mv : Bool) (f n : Int) : Int := if mv = true then (if -128 ≤ f ∧ f < 128 ∧ -128 ≤ n ∧ n < 128 then 2 else 3) else (if 0 ≤ f ∧ f < 256 ∧ 0 ≤ n ∧ n < 256 then 0 else 1)
abbrev arS (mv : Bool) (f n : Int) : Prop := if mv = true then -128 ≤ f ∧ f < 128 ∧ -128 ≤ n ∧ n < 128 else 0 ≤ f ∧ f < 256 ∧ 0 ≤ n ∧ n < 256
def arB (mv : Bool) (f n : Int) : List UInt8 := if arS mv f n then [(f.fmod 256).toNat.toUInt8, (n.fmod 256).toNat.toUInt8] else two f ++ two n
theorem fmod_small {x : Int} (h0 : 0 ≤ x) (h1 : x < 256) : x.fmod 256 = x := by rw [Int.fmod_eq_emod_of_nonneg _ (by decide)]; omega
theorem bor21 : Builtin.bitOr 2 1 = 3 := by decide
theorem aro_t : ∀ (w : World) (p : Program) (loose : List Str) (mean : ExcName → Option Value) (mg mb : Str → Option Value) (H₀ : Heap)
  (dp un : Nat) (gd : Option (List Code)) (l : List Env) (s : Shared) (Q E : Value → Shared → Prop) (x dx sc : Addr) (e1 e2 e3 e4 e5 : Int) (k1 k2 k3 k4 k5 tg tf ts : Tok) (gl f n : Int),
  Cx (Mine.hd.heap_1 w.params) p loose mean mg mb H₀ l s.heap → (Own H₀ l s.heap x (instObj 221 dx)) → (Own H₀ l s.heap dx (partDict e1 e2 e3 e4 e5 k1 k2 k3 k4 k5 tg tf ts gl f n true sc)) → (@Ne Nat x dx) →
  dp + 3 ≤ 400 → un + 24 ≤ 400 →
  (∀ r fl W t₁ t₂ h' tk', fl = arF true f n → W = (arB true f n).toArray → s.heap.get? r = none → Kp s.heap h' [] → h'.get? r = some (tup [.int fl t₁, .bytes W t₂]) → Q (.ref r) {s with heap := h', toks := tk'}) →
  wpAny (model PySem.Challenge.rw_on0238_01.row.prog w) (AA dp un gd l) (call (.ref 267) [.ref x]) Q E s := by
  k_fill
  w_top off
  intro w p loose mean mg mb H₀ dp un gd l s Q E x dx sc e1 e2 e3 e4 e5 k1 k2 k3 k4 k5 tg tf ts gl f n C Ox Od hne hd hu hret
  refine wpAny_call ?_
  let oq1 : Obj := partDict e1 e2 e3 e4 e5 k1 k2 k3 k4 k5 tg tf ts gl f n true sc; k_dflt (refine' enterK C [(x, instObj 221 dx), (dx, oq1)] ?O ?kA ?k6 ?k7 ?k8 ?k9 ?kB ?_ ?c2 ?c3 ?c4 ?c5; (case O => exact (acons (Ox) (List.forall_mem_singleton.mpr Od))); (case kA => exact rfl); (case k6 => k_is); (case k7 => k_is); (case k8 => ktr_room); (case k9 => exact BindsTo.of_eq rfl); (case c5 => decide); (case kB => exact locs rfl); (case c2 => exact rfl); (case c3 => exact rfl); (case c4 => exact rfl); k_whole; intro g L' h₁ hL hg F' N' B' X' T'; (try dsimp only); (try k_fold))
  (repeat' (first | (k_unfold; (try dsimp only)) | (k_end; wrow_close) | (with_reducible (k_here; first | ((with_reducible refine ite_pos ?h ?_); (case h => omega)) | ((with_reducible refine ite_neg ?h ?_); (case h => omega)))) | ((k_here; first | ((with_reducible refine ite_pos ?h ?_); (case h => omega)) | ((with_reducible refine ite_neg ?h ?_); (case h => omega)))) | ((with_reducible show wpAny _ _ (call (Value.ref _) _) _ _ _); first | (with_reducible (k_here; (with_reducible show wpAny _ _ (call (Value.ref 139) _) _ _ _); k_dflt ( refine' put16_ok _ _ _ _ _ _ _ _ _ _ _ _ _ _ _ _ ?C  ?hd ?hu ?_; (case C => exact Cx.next (by assumption) (by assumption) (by assumption) rfl rfl); (case hd => ktr_room); (case hu => ktr_units); k_whole; intro tq h'q tk'q hKq; (with_reducible rename Fr _ _ _ _ => kF); (with_reducible rename News _ _ _ _ => kN); have F'q := fr_kp0 kF hKq; have N'q := news_kp0 kN hKq; clear hKq; (try k_sweep))))) | ((with_reducible show wpAny _ _ (execs (_ :: _) _) _ _ _); k_here; (with_reducible rename Fr _ _ _ _ => kF); (with_reducible rename News _ _ _ _ => kN); (with_reducible refine exT2 kF kN ?_); clear kF kN; intro tq mq Dq Fq Nq; k_fold) | walk1 | (dsimp only; (with_reducible show wpAny _ _ _ _ _ _)) | (leave1; walk_say "STEP leave1"; try dsimp only) | fail "no step"))
  all_goals (try dsimp only)
  all_goals ((try k_unfold); (try dsimp only); (with_reducible rename Fr _ _ _ _ => kF); (with_reducible rename News _ _ _ _ => kN); refine hret _ _ _ _ _ _ _ ?_ ?_ (fresh_of hg kN (by k_mem) (notin2 (by k_ne) (by k_ne))) (kp_ofS hg kF ((acons (.inr ⟨Ox.1, kN.get (by k_mem)⟩) (List.forall_mem_singleton.mpr (.inr ⟨Od.1, kN.get (by k_mem)⟩))))) (kN.get (by k_mem)))
  all_goals (clear hret C Ox Od; (try rw [bor21]); first | (exfalso; omega) | (simp_all [arF, arS, arB, two]; done) | (simp_all [arF, arS, arB, two]; exact mm_t (by assumption) (by assumption) rfl) | (simp_all [arF, arS, arB, two]; omega) | (simp_all [arF, arS, arB, two, fmod_small]; done))
theorem aro_f : ∀ (w : World) (p : Program) (loose : List Str) (mean : ExcName → Option Value) (mg mb : Str → Option Value) (H₀ : Heap)
  (dp un : Nat) (gd : Option (List Code)) (l : List Env) (s : Shared) (Q E : Value → Shared → Prop) (x dx sc : Addr) (e1 e2 e3 e4 e5 : Int) (k1 k2 k3 k4 k5 tg tf ts : Tok) (gl f n : Int),
  Cx (Mine.hd.heap_1 w.params) p loose mean mg mb H₀ l s.heap → (Own H₀ l s.heap x (instObj 221 dx)) → (Own H₀ l s.heap dx (partDict e1 e2 e3 e4 e5 k1 k2 k3 k4 k5 tg tf ts gl f n false sc)) → (@Ne Nat x dx) →
  dp + 3 ≤ 400 → un + 24 ≤ 400 →
  (∀ r fl W t₁ t₂ h' tk', fl = arF false f n → W = (arB false f n).toArray → s.heap.get? r = none → Kp s.heap h' [] → h'.get? r = some (tup [.int fl t₁, .bytes W t₂]) → Q (.ref r) {s with heap := h', toks := tk'}) →
  wpAny (model PySem.Challenge.rw_on0238_01.row.prog w) (AA dp un gd l) (call (.ref 267) [.ref x]) Q E s := by
  k_fill
  w_top off
  intro w p loose mean mg mb H₀ dp un gd l s Q E x dx sc e1 e2 e3 e4 e5 k1 k2 k3 k4 k5 tg tf ts gl f n C Ox Od hne hd hu hret
  refine wpAny_call ?_
  let oq1 : Obj := partDict e1 e2 e3 e4 e5 k1 k2 k3 k4 k5 tg tf ts gl f n false sc; k_dflt (refine' enterK C [(x, instObj 221 dx), (dx, oq1)] ?O ?kA ?k6 ?k7 ?k8 ?k9 ?kB ?_ ?c2 ?c3 ?c4 ?c5; (case O => exact (acons (Ox) (List.forall_mem_singleton.mpr Od))); (case kA => exact rfl); (case k6 => k_is); (case k7 => k_is); (case k8 => ktr_room); (case k9 => exact BindsTo.of_eq rfl); (case c5 => decide); (case kB => exact locs rfl); (case c2 => exact rfl); (case c3 => exact rfl); (case c4 => exact rfl); k_whole; intro g L' h₁ hL hg F' N' B' X' T'; (try dsimp only); (try k_fold))
  (repeat' (first | (k_unfold; (try dsimp only)) | (k_end; wrow_close) | (with_reducible (k_here; first | ((with_reducible refine ite_pos ?h ?_); (case h => omega)) | ((with_reducible refine ite_neg ?h ?_); (case h => omega)))) | ((k_here; first | ((with_reducible refine ite_pos ?h ?_); (case h => omega)) | ((with_reducible refine ite_neg ?h ?_); (case h => omega)))) | ((with_reducible show wpAny _ _ (call (Value.ref _) _) _ _ _); first | (with_reducible (k_here; (with_reducible show wpAny _ _ (call (Value.ref 139) _) _ _ _); k_dflt ( refine' put16_ok _ _ _ _ _ _ _ _ _ _ _ _ _ _ _ _ ?C  ?hd ?hu ?_; (case C => exact Cx.next (by assumption) (by assumption) (by assumption) rfl rfl); (case hd => ktr_room); (case hu => ktr_units); k_whole; intro tq h'q tk'q hKq; (with_reducible rename Fr _ _ _ _ => kF); (with_reducible rename News _ _ _ _ => kN); have F'q := fr_kp0 kF hKq; have N'q := news_kp0 kN hKq; clear hKq; (try k_sweep))))) | ((with_reducible show wpAny _ _ (execs (_ :: _) _) _ _ _); k_here; (with_reducible rename Fr _ _ _ _ => kF); (with_reducible rename News _ _ _ _ => kN); (with_reducible refine exT2 kF kN ?_); clear kF kN; intro tq mq Dq Fq Nq; k_fold) | walk1 | (dsimp only; (with_reducible show wpAny _ _ _ _ _ _)) | (leave1; walk_say "STEP leave1"; try dsimp only) | fail "no step"))
  all_goals (try dsimp only)
  all_goals ((try k_unfold); (try dsimp only); (with_reducible rename Fr _ _ _ _ => kF); (with_reducible rename News _ _ _ _ => kN); refine hret _ _ _ _ _ _ _ ?_ ?_ (fresh_of hg kN (by k_mem) (notin2 (by k_ne) (by k_ne))) (kp_ofS hg kF ((acons (.inr ⟨Ox.1, kN.get (by k_mem)⟩) (List.forall_mem_singleton.mpr (.inr ⟨Od.1, kN.get (by k_mem)⟩))))) (kN.get (by k_mem)))
  all_goals (clear hret C Ox Od; (try rw [bor21]); first | (exfalso; omega) | (simp_all [arF, arS, arB, two]; done) | (simp_all [arF, arS, arB, two]; exact mm_t (by assumption) (by assumption) rfl) | (simp_all [arF, arS, arB, two]; omega) | (simp_all [arF, arS, arB, two, fmod_small]; done))
theorem ard_t : ∀ (w : World) (p : Program) (loose : List Str) (mean : ExcName → Option Value) (mg mb : Str → Option Value) (H₀ : Heap)
  (dp un : Nat) (gd : Option (List Code)) (l : List Env) (s : Shared) (Q E : Value → Shared → Prop) (x dx sc : Addr) (e1 e2 e3 e4 e5 : Int) (k1 k2 k3 k4 k5 tg tf ts : Tok) (gl f n : Int),
  Cx (Mine.hd.heap_1 w.params) p loose mean mg mb H₀ l s.heap → (Own H₀ l s.heap x (instObj 221 dx)) → (Own H₀ l s.heap dx (partDict e1 e2 e3 e4 e5 k1 k2 k3 k4 k5 tg tf ts gl f n true sc)) → (@Ne Nat x dx) →
  dp + 3 ≤ 400 → un + 24 ≤ 400 →
  (∀ r fl W t₁ t₂ h' tk', fl = arF true f n → W = (arB true f n).toArray → s.heap.get? r = none → Kp s.heap h' [] → h'.get? r = some (tup [.int fl t₁, .bytes W t₂]) → Q (.ref r) {s with heap := h', toks := tk'}) →
  wpAny (model PySem.Challenge.rw_on0238_01.row.prog w) (AA dp un gd l) (call (.ref 316) [.ref x]) Q E s := by
  k_fill
  w_top off
  intro w p loose mean mg mb H₀ dp un gd l s Q E x dx sc e1 e2 e3 e4 e5 k1 k2 k3 k4 k5 tg tf ts gl f n C Ox Od hne hd hu hret
  refine wpAny_call ?_
  let oq1 : Obj := partDict e1 e2 e3 e4 e5 k1 k2 k3 k4 k5 tg tf ts gl f n true sc; k_dflt (refine' enterK C [(x, instObj 221 dx), (dx, oq1)] ?O ?kA ?k6 ?k7 ?k8 ?k9 ?kB ?_ ?c2 ?c3 ?c4 ?c5; (case O => exact (acons (Ox) (List.forall_mem_singleton.mpr Od))); (case kA => exact rfl); (case k6 => k_is); (case k7 => k_is); (case k8 => ktr_room); (case k9 => exact BindsTo.of_eq rfl); (case c5 => decide); (case kB => exact locs rfl); (case c2 => exact rfl); (case c3 => exact rfl); (case c4 => exact rfl); k_whole; intro g L' h₁ hL hg F' N' B' X' T'; (try dsimp only); (try k_fold))
  (repeat' (first | (k_unfold; (try dsimp only)) | (k_end; wrow_close) | (with_reducible (k_here; first | ((with_reducible refine ite_pos ?h ?_); (case h => omega)) | ((with_reducible refine ite_neg ?h ?_); (case h => omega)))) | ((k_here; first | ((with_reducible refine ite_pos ?h ?_); (case h => omega)) | ((with_reducible refine ite_neg ?h ?_); (case h => omega)))) | ((with_reducible show wpAny _ _ (call (Value.ref _) _) _ _ _); first | (with_reducible (k_here; (with_reducible show wpAny _ _ (call (Value.ref 309) _) _ _ _); k_dflt ( refine' two_ok _ _ _ _ _ _ _ _ _ _ _ _ _ _ _ _ ?C  ?hd ?hu ?_; (case C => exact Cx.next (by assumption) (by assumption) (by assumption) rfl rfl); (case hd => ktr_room); (case hu => ktr_units); k_whole; intro tq h'q tk'q hKq; (with_reducible rename Fr _ _ _ _ => kF); (with_reducible rename News _ _ _ _ => kN); have F'q := fr_kp0 kF hKq; have N'q := news_kp0 kN hKq; clear hKq; (try k_sweep))))) | ((with_reducible show wpAny _ _ (execs (_ :: _) _) _ _ _); k_here; (with_reducible rename Fr _ _ _ _ => kF); (with_reducible rename News _ _ _ _ => kN); (with_reducible refine exT2 kF kN ?_); clear kF kN; intro tq mq Dq Fq Nq; k_fold) | walk1 | (dsimp only; (with_reducible show wpAny _ _ _ _ _ _)) | (leave1; walk_say "STEP leave1"; try dsimp only) | fail "no step"))
  all_goals (try dsimp only)
  all_goals ((try k_unfold); (try dsimp only); (with_reducible rename Fr _ _ _ _ => kF); (with_reducible rename News _ _ _ _ => kN); refine hret _ _ _ _ _ _ _ ?_ ?_ (fresh_of hg kN (by k_mem) (notin2 (by k_ne) (by k_ne))) (kp_ofS hg kF ((acons (.inr ⟨Ox.1, kN.get (by k_mem)⟩) (List.forall_mem_singleton.mpr (.inr ⟨Od.1, kN.get (by k_mem)⟩))))) (kN.get (by k_mem)))
  all_goals (clear hret C Ox Od; (try rw [bor21]); first | (exfalso; omega) | (simp_all [arF, arS, arB, two]; done) | (simp_all [arF, arS, arB, two]; exact mm_t (by assumption) (by assumption) rfl) | (simp_all [arF, arS, arB, two]; omega) | (simp_all [arF, arS, arB, two, fmod_small]; done))
theorem ard_f : ∀ (w : World) (p : Program) (loose : List Str) (mean : ExcName → Option Value) (mg mb : Str → Option Value) (H₀ : Heap)
  (dp un : Nat) (gd : Option (List Code)) (l : List Env) (s : Shared) (Q E : Value → Shared → Prop) (x dx sc : Addr) (e1 e2 e3 e4 e5 : Int) (k1 k2 k3 k4 k5 tg tf ts : Tok) (gl f n : Int),
  Cx (Mine.hd.heap_1 w.params) p loose mean mg mb H₀ l s.heap → (Own H₀ l s.heap x (instObj 221 dx)) → (Own H₀ l s.heap dx (partDict e1 e2 e3 e4 e5 k1 k2 k3 k4 k5 tg tf ts gl f n false sc)) → (@Ne Nat x dx) →
  dp + 3 ≤ 400 → un + 24 ≤ 400 →
  (∀ r fl W t₁ t₂ h' tk', fl = arF false f n → W = (arB false f n).toArray → s.heap.get? r = none → Kp s.heap h' [] → h'.get? r = some (tup [.int fl t₁, .bytes W t₂]) → Q (.ref r) {s with heap := h', toks := tk'}) →
  wpAny (model PySem.Challenge.rw_on0238_01.row.prog w) (AA dp un gd l) (call (.ref 316) [.ref x]) Q E s := by
  k_fill
  w_top off
  intro w p loose mean mg mb H₀ dp un gd l s Q E x dx sc e1 e2 e3 e4 e5 k1 k2 k3 k4 k5 tg tf ts gl f n C Ox Od hne hd hu hret
  refine wpAny_call ?_
  let oq1 : Obj := partDict e1 e2 e3 e4 e5 k1 k2 k3 k4 k5 tg tf ts gl f n false sc; k_dflt (refine' enterK C [(x, instObj 221 dx), (dx, oq1)] ?O ?kA ?k6 ?k7 ?k8 ?k9 ?kB ?_ ?c2 ?c3 ?c4 ?c5; (case O => exact (acons (Ox) (List.forall_mem_singleton.mpr Od))); (case kA => exact rfl); (case k6 => k_is); (case k7 => k_is); (case k8 => ktr_room); (case k9 => exact BindsTo.of_eq rfl); (case c5 => decide); (case kB => exact locs rfl); (case c2 => exact rfl); (case c3 => exact rfl); (case c4 => exact rfl); k_whole; intro g L' h₁ hL hg F' N' B' X' T'; (try dsimp only); (try k_fold))
  (repeat' (first | (k_unfold; (try dsimp only)) | (k_end; wrow_close) | (with_reducible (k_here; first | ((with_reducible refine ite_pos ?h ?_); (case h => omega)) | ((with_reducible refine ite_neg ?h ?_); (case h => omega)))) | ((k_here; first | ((with_reducible refine ite_pos ?h ?_); (case h => omega)) | ((with_reducible refine ite_neg ?h ?_); (case h => omega)))) | ((with_reducible show wpAny _ _ (call (Value.ref _) _) _ _ _); first | (with_reducible (k_here; (with_reducible show wpAny _ _ (call (Value.ref 309) _) _ _ _); k_dflt ( refine' two_ok _ _ _ _ _ _ _ _ _ _ _ _ _ _ _ _ ?C  ?hd ?hu ?_; (case C => exact Cx.next (by assumption) (by assumption) (by assumption) rfl rfl); (case hd => ktr_room); (case hu => ktr_units); k_whole; intro tq h'q tk'q hKq; (with_reducible rename Fr _ _ _ _ => kF); (with_reducible rename News _ _ _ _ => kN); have F'q := fr_kp0 kF hKq; have N'q := news_kp0 kN hKq; clear hKq; (try k_sweep))))) | ((with_reducible show wpAny _ _ (execs (_ :: _) _) _ _ _); k_here; (with_reducible rename Fr _ _ _ _ => kF); (with_reducible rename News _ _ _ _ => kN); (with_reducible refine exT2 kF kN ?_); clear kF kN; intro tq mq Dq Fq Nq; k_fold) | walk1 | (dsimp only; (with_reducible show wpAny _ _ _ _ _ _)) | (leave1; walk_say "STEP leave1"; try dsimp only) | fail "no step"))
  all_goals (try dsimp only)
  all_goals ((try k_unfold); (try dsimp only); (with_reducible rename Fr _ _ _ _ => kF); (with_reducible rename News _ _ _ _ => kN); refine hret _ _ _ _ _ _ _ ?_ ?_ (fresh_of hg kN (by k_mem) (notin2 (by k_ne) (by k_ne))) (kp_ofS hg kF ((acons (.inr ⟨Ox.1, kN.get (by k_mem)⟩) (List.forall_mem_singleton.mpr (.inr ⟨Od.1, kN.get (by k_mem)⟩))))) (kN.get (by k_mem)))
  all_goals (clear hret C Ox Od; (try rw [bor21]); first | (exfalso; omega) | (simp_all [arF, arS, arB, two]; done) | (simp_all [arF, arS, arB, two]; exact mm_t (by assumption) (by assumption) rfl) | (simp_all [arF, arS, arB, two]; omega) | (simp_all [arF, arS, arB, two, fmod_small]; done))
theorem aro_ok : ∀ (w : World) (p : Program) (loose : List Str) (mean : ExcName → Option Value) (mg mb : Str → Option Value) (H₀ : Heap)
  (dp un : Nat) (gd : Option (List Code)) (l : List Env) (s : Shared) (Q E : Value → Shared → Prop) (x dx sc : Addr) (e1 e2 e3 e4 e5 : Int) (k1 k2 k3 k4 k5 tg tf ts : Tok) (gl f n : Int) (mv : Bool),
  Cx (Mine.hd.heap_1 w.params) p loose mean mg mb H₀ l s.heap → (Own H₀ l s.heap x (instObj 221 dx)) → (Own H₀ l s.heap dx (partDict e1 e2 e3 e4 e5 k1 k2 k3 k4 k5 tg tf ts gl f n mv sc)) → (@Ne Nat x dx) →
  dp + 3 ≤ 400 → un + 24 ≤ 400 →
  (∀ r fl W t₁ t₂ h' tk', fl = arF mv f n → W = (arB mv f n).toArray → s.heap.get? r = none → Kp s.heap h' [] → h'.get? r = some (tup [.int fl t₁, .bytes W t₂]) → Q (.ref r) {s with heap := h', toks := tk'}) →
  wpAny (model PySem.Challenge.rw_on0238_01.row.prog w) (AA dp un gd l) (call (.ref 267) [.ref x]) Q E s := by
  intro w p loose mean mg mb H₀ dp un gd l s Q E x dx sc e1 e2 e3 e4 e5 k1 k2 k3 k4 k5 tg tf ts gl f n mv
  cases mv
  · exact aro_f w p loose mean mg mb H₀ dp un gd l s Q E x dx sc e1 e2 e3 e4 e5 k1 k2 k3 k4 k5 tg tf ts gl f n
  · exact aro_t w p loose mean mg mb H₀ dp un gd l s Q E x dx sc e1 e2 e3 e4 e5 k1 k2 k3 k4 k5 tg tf ts gl f n
theorem ard_ok : ∀ (w : World) (p : Program) (loose : List Str) (mean : ExcName → Option Value) (mg mb : Str → Option Value) (H₀ : Heap)
  (dp un : Nat) (gd : Option (List Code)) (l : List Env) (s : Shared) (Q E : Value → Shared → Prop) (x dx sc : Addr) (e1 e2 e3 e4 e5 : Int) (k1 k2 k3 k4 k5 tg tf ts : Tok) (gl f n : Int) (mv : Bool),
  Cx (Mine.hd.heap_1 w.params) p loose mean mg mb H₀ l s.heap → (Own H₀ l s.heap x (instObj 221 dx)) → (Own H₀ l s.heap dx (partDict e1 e2 e3 e4 e5 k1 k2 k3 k4 k5 tg tf ts gl f n mv sc)) → (@Ne Nat x dx) →
  dp + 3 ≤ 400 → un + 24 ≤ 400 →
  (∀ r fl W t₁ t₂ h' tk', fl = arF mv f n → W = (arB mv f n).toArray → s.heap.get? r = none → Kp s.heap h' [] → h'.get? r = some (tup [.int fl t₁, .bytes W t₂]) → Q (.ref r) {s with heap := h', toks := tk'}) →
  wpAny (model PySem.Challenge.rw_on0238_01.row.prog w) (AA dp un gd l) (call (.ref 316) [.ref x]) Q E s := by
  intro w p loose mean mg mb H₀ dp un gd l s Q E x dx sc e1 e2 e3 e4 e5 k1 k2 k3 k4 k5 tg tf ts gl f n mv
  cases mv
  · exact ard_f w p loose mean mg mb H₀ dp un gd l s Q E x dx sc e1 e2 e3 e4 e5 k1 k2 k3 k4 k5 tg tf ts gl f n
  · exact ard_t w p loose mean mg mb H₀ dp un gd l s Q E x dx sc e1 e2 e3 e4 e5 k1 k2 k3 k4 k5 tg tf ts gl f n
end
section
open PySem PySem.Spec PySem.Calls PySem.W PyProof.Rows
abbrev Pt : Type := Int × Int × Bool
abbrev ptObj (p : Pt) (t1 t2 : Tok) : Obj := tup [.int p.1 t1, .int p.2.1 t2, .bool p.2.2]
def All2 {α : Type} (E : Value → α → Prop) (vs : List Value) (xs : List α) : Prop := vs.length = xs.length ∧ ∀ (i : Nat) (v : Value), vs[i]? = some v → ∃ x, xs[i]? = some x ∧ E v x
def PtAt (M : Addr → Obj → Prop) (v : Value) (p : Pt) : Prop := ∃ c t1 t2, v = .ref c ∧ M c (ptObj p t1 t2)
def LAt {α : Type} (M : Addr → Obj → Prop) (E : Value → α → Prop) (v : Value) (xs : List α) : Prop := ∃ c vs n, v = .ref c ∧ M c (listOf vs.toArray n) ∧ All2 E vs xs
def RowAt (M : Addr → Obj → Prop) : Value → List Pt → Prop := LAt M (PtAt M)
def RowsAt (M : Addr → Obj → Prop) : Value → List (List Pt) → Prop := LAt M (RowAt M)
section
variable {α : Type} {M M' : Addr → Obj → Prop} {E E' : Value → α → Prop} {v : Value} {vs : List Value} {xs : List α} {p : Pt} {row : List Pt} {rows : List (List Pt)}
theorem All2.mono (h : ∀ v x, E v x → E' v x) (a : All2 E vs xs) : All2 E' vs xs := ⟨a.1, fun i v e => let ⟨x, e1, e2⟩ := a.2 i v e; ⟨x, e1, h v x e2⟩⟩
theorem All2.cons_iff {x : α} : All2 E (v :: vs) (x :: xs) ↔ E v x ∧ All2 E vs xs := by
  constructor
  · intro a
    obtain ⟨x', e1, e2⟩ := a.2 0 v rfl
    cases e1
    exact ⟨e2, Nat.succ.inj a.1, fun i w e => a.2 (i + 1) w e⟩
  · rintro ⟨h, a⟩
    refine ⟨congrArg Nat.succ a.1, fun i w e => ?_⟩
    cases i with
    | zero => cases e; exact ⟨x, rfl, h⟩
    | succ i => exact a.2 i w e
theorem All2.nil : All2 E [] [] := ⟨rfl, fun i v e => by simp at e⟩
theorem PtAt.mono (h : ∀ c o, M c o → M' c o) (a : PtAt M v p) : PtAt M' v p := let ⟨c, t1, t2, e, m⟩ := a; ⟨c, t1, t2, e, h _ _ m⟩
theorem LAt.mono (h : ∀ c o, M c o → M' c o) (k : ∀ v x, E v x → E' v x) (a : LAt M E v xs) : LAt M' E' v xs := let ⟨c, vs, n, e, m, b⟩ := a; ⟨c, vs, n, e, h _ _ m, b.mono k⟩
theorem RowAt.mono (h : ∀ c o, M c o → M' c o) (a : RowAt M v row) : RowAt M' v row := LAt.mono h (fun _ _ => PtAt.mono h) a
theorem RowsAt.mono (h : ∀ c o, M c o → M' c o) (a : RowsAt M v rows) : RowsAt M' v rows := LAt.mono h (fun _ _ => RowAt.mono h) a

/-- what holds the items may be laid into a list -/
theorem All2.lay {P : Addr × Obj → Prop} {F : (Addr → Obj → Prop) → Value → α → Prop} (mono : ∀ {M M' : Addr → Obj → Prop} {v : Value} {x : α}, (∀ c o, M c o → M' c o) → F M v x → F M' v x)
    (one : ∀ {v : Value} {x : α}, F (fun c o => P (c, o)) v x → ∃ rest : List (Addr × Obj), (∀ q ∈ rest, P q) ∧ F (fun c o => (c, o) ∈ rest) v x) :
    ∀ {vs : List Value} {xs : List α}, All2 (F fun c o => P (c, o)) vs xs → ∃ rest : List (Addr × Obj), (∀ q ∈ rest, P q) ∧ All2 (F fun c o => (c, o) ∈ rest) vs xs
  | [], [], _ => ⟨[], (fun q h => nomatch h), .nil⟩
  | [], _ :: _, a => nomatch a.1
  | _ :: _, [], a => nomatch a.1
  | v :: vs, x :: xs, a => by
    obtain ⟨h, a⟩ := All2.cons_iff.mp a
    obtain ⟨r1, p1, q1⟩ := one h
    obtain ⟨r2, p2, q2⟩ := All2.lay (F := F) (P := P) mono one a
    exact ⟨r1 ++ r2, fun q hq => (List.mem_append.mp hq).elim (p1 q) (p2 q), All2.cons_iff.mpr ⟨mono (fun c o h => List.mem_append_left _ h) q1, q2.mono fun v x => mono fun c o h => List.mem_append_right _ h⟩⟩
theorem PtAt.lay {P : Addr × Obj → Prop} (a : PtAt (fun c o => P (c, o)) v p) : ∃ rest : List (Addr × Obj), (∀ q ∈ rest, P q) ∧ PtAt (fun c o => (c, o) ∈ rest) v p := by
  obtain ⟨c, t1, t2, e, m⟩ := a
  exact ⟨[(c, ptObj p t1 t2)], fun q hq => by rw [List.mem_singleton.mp hq]; exact m, c, t1, t2, e, .head _⟩
theorem LAt.lay {P : Addr × Obj → Prop} {F : (Addr → Obj → Prop) → Value → α → Prop} (mono : ∀ {M M' : Addr → Obj → Prop} {v : Value} {x : α}, (∀ c o, M c o → M' c o) → F M v x → F M' v x)
    (one : ∀ {v : Value} {x : α}, F (fun c o => P (c, o)) v x → ∃ rest : List (Addr × Obj), (∀ q ∈ rest, P q) ∧ F (fun c o => (c, o) ∈ rest) v x)
    (a : LAt (fun c o => P (c, o)) (F fun c o => P (c, o)) v xs) : ∃ rest : List (Addr × Obj), (∀ q ∈ rest, P q) ∧ LAt (fun c o => (c, o) ∈ rest) (F fun c o => (c, o) ∈ rest) v xs := by
  obtain ⟨c, vs, n, e, m, b⟩ := a
  obtain ⟨rest, pr, qr⟩ := All2.lay (F := F) (P := P) mono one b
  exact ⟨(c, listOf vs.toArray n) :: rest, fun q hq => (List.mem_cons.mp hq).elim (fun z => z ▸ m) (pr q), c, vs, n, e, .head _, qr.mono fun v x => mono fun c o h => .tail _ h⟩
theorem RowAt.lay {P : Addr × Obj → Prop} (a : RowAt (fun c o => P (c, o)) v row) : ∃ rest : List (Addr × Obj), (∀ q ∈ rest, P q) ∧ RowAt (fun c o => (c, o) ∈ rest) v row :=
  LAt.lay (F := PtAt) PtAt.mono PtAt.lay a
theorem RowsAt.lay {P : Addr × Obj → Prop} (a : RowsAt (fun c o => P (c, o)) v rows) : ∃ rest : List (Addr × Obj), (∀ q ∈ rest, P q) ∧ RowsAt (fun c o => (c, o) ∈ rest) v rows :=
  LAt.lay (F := RowAt) RowAt.mono RowAt.lay a

/-- as the kit reads it -/
def ptD (p : Pt) : PyData := .tuple [.int p.1, .int p.2.1, .bool p.2.2]
def rowD (r : List Pt) : PyData := .list (r.map ptD)
def rowsD (r : List (List Pt)) : PyData := .list (r.map rowD)
theorem readsAll_of {h : Heap} {D : α → PyData} : ∀ {vs : List Value} {xs : List α}, All2 (fun v x => ∃ as, Reads h v (D x) as) vs xs → ∃ as, ReadsAll h vs (xs.map D) as
  | [], [], _ => ⟨_, .nil⟩
  | [], _ :: _, a => nomatch a.1
  | _ :: _, [], a => nomatch a.1
  | v :: vs, x :: xs, a => by
    obtain ⟨⟨as, r⟩, a⟩ := All2.cons_iff.mp a
    obtain ⟨bs, rs⟩ := readsAll_of a
    exact ⟨_, .cons r rs⟩
theorem PtAt.reads {h : Heap} (a : PtAt (fun c o => h.get? c = some o) v p) : ∃ as, Reads h v (ptD p) as := by
  obtain ⟨c, t1, t2, rfl, m⟩ := a
  exact ⟨_, .tuple m rfl rfl (.cons (.int _ _) (.cons (.int _ _) (.cons (.bool _) .nil)))⟩
theorem RowAt.reads {h : Heap} (a : RowAt (fun c o => h.get? c = some o) v row) : ∃ as, Reads h v (rowD row) as := by
  obtain ⟨c, vs, n, rfl, m, b⟩ := a
  obtain ⟨as, r⟩ := readsAll_of (D := ptD) (b.mono fun v x => PtAt.reads)
  exact ⟨_, .list m rfl rfl (by simpa using r)⟩
theorem RowsAt.reads {h : Heap} (a : RowsAt (fun c o => h.get? c = some o) v rows) : ∃ as, Reads h v (rowsD rows) as := by
  obtain ⟨c, vs, n, rfl, m, b⟩ := a
  obtain ⟨as, r⟩ := readsAll_of (D := rowD) (b.mono fun v x => RowAt.reads)
  exact ⟨_, .list m rfl rfl (by simpa using r)⟩
theorem shape_pt (p : Pt) : (ptD p).canLay0 = true ∧ (ptD p).depth ≤ 1 := ⟨rfl, Nat.le_of_ble_eq_true rfl⟩
theorem shape_list {D : α → PyData} {n : Nat} (h : ∀ x, (D x).canLay0 = true ∧ (D x).depth ≤ n) : ∀ xs : List α, PyData.canLayAll0 (xs.map D) = true ∧ PyData.depthAll (xs.map D) ≤ n
  | [] => ⟨rfl, Nat.zero_le _⟩
  | x :: xs => by
    have ih := shape_list h xs
    have hx := h x
    refine ⟨?_, Nat.max_le.mpr ⟨hx.2, ih.2⟩⟩
    show (_ && _) = true
    rw [hx.1, ih.1]
    rfl
end
end
section
open PySem PySem.Spec PySem.Calls PySem.W PyProof.Rows PyProof.Rows.LCg
section
variable {prog : Program} {w : World} {A : Around} {E : Value → Shared → Prop} {env : Env}

/-- one turn of a list comprehension's loop -/
def Turn (prog : Program) (w : World) (A : Around) (target elt : Expr) (it acc : Value) (cenv : Env) (R : Result → Shared → Prop) (I : Nat → Shared → Prop) : Prop :=
  ∀ n s, I n s → wpAny (model prog w) A (pyNext it) (fun r s₁ => match r with
    | none => R (.ok .next) s₁
    | some v => wpAny (model prog w) A (letOwnedTupleGo target it v) (fun _ s₁' => wpAny (model prog w) A (assign target cenv v) (fun _ s₂ =>
        wpAny (model prog w) A (eval elt cenv) (fun x s₄ => wpAny (model prog w) A (call (.builtin "list.append") [acc, x]) (fun _ s₅ => ∃ m, m < n ∧ I m s₅)
          (notedBy (model prog w) A cenv fun e s' => R (.error e) s') s₄) (notedBy (model prog w) A cenv fun e s' => R (.error e) s') s₂)
        (notedBy (model prog w) A cenv fun e s' => R (.error e) s') s₁') (notedBy (model prog w) A cenv fun e s' => R (.error e) s') s₁) (notedBy (model prog w) A cenv fun e s' => R (.error e) s') s
def LoopRule (prog : Program) (w : World) (A : Around) (target elt iter : Expr) (scope : Scope) (pos : Pos) : Prop :=
  ∀ (it acc : Value) (cenv : Env) (R : Result → Shared → Prop) (s : Shared) (I : Nat → Shared → Prop), Turn prog w A target elt it acc cenv R I → ∀ n, I n s →
    codeAny (model prog w) A (.compLoop (.ListComp elt [⟨target, iter, [], 0⟩] scope pos) 0 it acc cenv) R s
theorem rule_tuple {elts : List Expr} {k} {tp : Pos} {elt iter : Expr} {scope : Scope} {pos : Pos} : LoopRule prog w A (.Tuple elts k tp) elt iter scope pos :=
  fun _ _ _ _ _ I turn n h => LCp.codeAny_compLoop_pair I turn n h
theorem rule_name {x : Str} {px : Pos} {elt iter : Expr} {scope : Scope} {pos : Pos} : LoopRule prog w A (.Name x px) elt iter scope pos := by
  intro it acc cenv R s I turn n h
  refine codeAny_compLoop_tests I (fun n s hI => wpAny_mono (turn n s hI) (fun r s₁ h₁ => ?_) fun _ _ e => e) n h
  cases r with
  | none => exact h₁
  | some v =>
    intro Γ p hΓ
    refine wpAny_mono (h₁ Γ p hΓ) (fun _ s₂ h₂ => ?_) (fun _ _ e => e) Γ p hΓ
    refine wpAny_tests_nil ?_
    simp only [if_true]
    exact h₂

theorem comp_blk {target elt iter : Expr} {scope : Scope} {cl : List (Str × Addr)} {pos : Pos} {s₂ : Shared} {I : Addr} {fp : List Addr} {n : Nat} {P : Nat → Value → Prop} {St : Nat → Heap → Prop} {RR : Value → Addr → Result → Shared → Prop}
    (LR : LoopRule prog w A target elt iter scope pos) (W : Walks prog w A I fp [I] n P St) (hsz : n ≤ sizeLine)
    (hgo : ∀ i v (s' : Shared) (Q' : Unit → Shared → Prop) (E' : Value → Shared → Prop), St i s'.heap → Q' () s' → wpAny (model prog w) A (letOwnedTupleGo target (.ref I) v) Q' E' s')
    (hcell : ∀ y ∈ scope.names, y.2 ≠ .cell) (hkind : scope.kind = .function) (hst : St 0 s₂.heap) (hfp : ∀ b ∈ fp, b < s₂.heap.objs.size) (L : Addr) (hL : L < s₂.heap.objs.size) (hLfp : L ∉ fp)
    (G : Nat → Value → Value → Heap → Prop)
    (turn : ∀ C D i v (s₃ : Shared) m₃ ys (E' : Value → Shared → Prop), i < n → P i v → s₂.heap.objs.size ≤ D → D < C → s₃.heap.Ns C m₃ → s₃.heap.get? D = some (lst ys) → St (i + 1) s₃.heap → (∀ b o, b ≠ I → b ≠ L → s₂.heap.get? b = some o → s₃.heap.get? b = some o) → (∀ m, s₂.heap.Ns L m → s₃.heap.Ns L m) → (∃ h tk, s₃ = { s₂ with heap := h, toks := tk }) →
      wpAny (model prog w) A (assign target (compEnvC scope cl C env) v) (fun _ s₄ => wpAny (model prog w) A (eval elt (compEnvC scope cl C env)) (fun y s₅ =>
        ∃ h' tk, s₅ = { s₂ with heap := h', toks := tk } ∧ (∃ m', h'.Ns C m') ∧ (∀ b o, b ≠ C → b ≠ L → s₃.heap.get? b = some o → h'.get? b = some o) ∧ (∀ m, s₃.heap.Ns L m → h'.Ns L m) ∧
          ∀ h'', (∀ b o, b ≠ C → b ≠ I → b ≠ D → b ≠ L → h'.get? b = some o → h''.get? b = some o) → G i v y h'') E' s₄) E' s₃)
    (hRR : ∀ D C h' tk m' ys, s₂.heap.objs.size ≤ D → D < C → h'.Ns C m' → h'.get? D = some (lst ys) → ys.length = n →
      (∀ j, j < n → ∃ v y, P j v ∧ ys[j]? = some y ∧ ∀ h'', (∀ b o, b ≠ C → b ≠ I → b ≠ D → b ≠ L → h'.get? b = some o → h''.get? b = some o) → G j v y h'') →
      (∀ b o, b ≠ I → b ≠ L → s₂.heap.get? b = some o → h'.get? b = some o) → (∀ m, s₂.heap.Ns L m → h'.Ns L m) → RR (.ref D) C (.ok .next) { s₂ with heap := h', toks := tk }) :
    wpAny (model prog w) A (newList []) (fun acc s₃ => wpAny (model prog w) A (newFunctionEnv scope env.globals cl [] env.qual none .none (some env)) (fun cenv s₄ =>
      codeAny (model prog w) A (.compStart (.ListComp elt [⟨target, iter, [], 0⟩] scope pos) 0 (.ref I) acc { cenv with scope := relabel scope env }) (RR acc cenv.locals) s₄) E s₃) E s₂ := by
  refine wpAny_newObj_type (wpAny_newFunctionEnv hcell (by intro y hy; simp at hy) (fun h₁ hns₁ hsb₁ => ?_) hkind)
  dsimp only at hns₁ hsb₁ ⊢
  generalize hH2 : s₂.heap.push { cls := .type "list", dict := none, data := .seq ([] : List Value).toArray } = H2 at hns₁ hsb₁ ⊢
  have hC : H2.objs.size = s₂.heap.objs.size + 1 := by rw [← hH2, Heap.size_push]
  have hDC : s₂.heap.objs.size ≠ H2.objs.size := by rw [hC]; exact Nat.ne_of_lt (Nat.lt_succ_self _)
  have below : ∀ b, b < s₂.heap.objs.size → b ≠ H2.objs.size ∧ b ≠ s₂.heap.objs.size := fun b hb => ⟨by rw [hC]; exact Nat.ne_of_lt (Nat.lt_succ_of_lt hb), Nat.ne_of_lt hb⟩
  have hIlt : I < s₂.heap.objs.size := hfp I (W.sub I (List.mem_singleton.mpr rfl))
  have old : ∀ b o, s₂.heap.get? b = some o → h₁.get? b = some o := fun b o e => hsb₁.extBut b o (below b (Heap.lt_size e)).1 (Heap.get?_push_of_some _ (hH2 ▸ Heap.get?_push_of_some _ e))
  have hacc : h₁.get? s₂.heap.objs.size = some (lst []) := hsb₁.extBut _ _ hDC (Heap.get?_push_of_some _ (hH2 ▸ Heap.get?_push_size _ rfl))
  have hst₁ : St 0 h₁ := W.frame _ _ _ hst fun b _ o e => old b o e
  have hCI : H2.objs.size ≠ I := Ne.symm (below I hIlt).1
  have hDI : s₂.heap.objs.size ≠ I := Ne.symm (below I hIlt).2
  have hLI : L ≠ I := fun q => hLfp (q ▸ W.sub I (List.mem_singleton.mpr rfl))
  have hDL : s₂.heap.objs.size ≠ L := Ne.symm (below L hL).2
  have hLC : L ≠ H2.objs.size := (below L hL).1
  have loop : ∀ s₃ : Shared, s₃ = { s₂ with heap := h₁, toks := s₂.toks + ([] : List (Str × Value)).length } →
      codeAny (model prog w) A (.compLoop (.ListComp elt [⟨target, iter, [], 0⟩] scope pos) 0 (.ref I) (.ref s₂.heap.objs.size) (compEnvC scope cl H2.objs.size env)) (RR (.ref s₂.heap.objs.size) H2.objs.size) s₃ := by
    rintro s₃ rfl
    refine LR _ _ _ _ _ (fun k s' => ∃ h' tk i ys m', s' = { s₂ with heap := h', toks := tk } ∧ i ≤ n ∧ k = n + 1 - i ∧ ys.length = i ∧ St i h' ∧ h'.Ns H2.objs.size m' ∧ h'.get? s₂.heap.objs.size = some (lst ys) ∧
        (∀ b o, b ≠ I → b ≠ L → s₂.heap.get? b = some o → h'.get? b = some o) ∧ (∀ m, s₂.heap.Ns L m → h'.Ns L m) ∧
        ∀ j, j < i → ∃ v y, P j v ∧ ys[j]? = some y ∧ ∀ h'', (∀ b o, b ≠ H2.objs.size → b ≠ I → b ≠ s₂.heap.objs.size → b ≠ L → h'.get? b = some o → h''.get? b = some o) → G j v y h'') ?_ (n + 1)
      ⟨h₁, _, 0, [], _, rfl, Nat.zero_le _, rfl, rfl, hst₁, hns₁, hacc, fun b o _ _ e => old b o e, fun m hn => hn.at' fun o e => old _ o e, fun j hj => absurd hj (Nat.not_lt_zero _)⟩
    rintro k s' ⟨h', tk, i, ys, m', rfl, hi, rfl, hyl, hst', hn', hD', hk', hLk, hG'⟩
    by_cases hlt : i < n
    · refine W.item i _ _ _ hlt hst' fun v h₂ tk₂ hPv hst₂ hk₂ => ?_
      have hk₂' : ∀ b o, b ≠ I → h'.get? b = some o → h₂.get? b = some o := fun b o hb e => hk₂ b o (by simpa using hb) e
      refine hgo _ v _ _ _ hst₂ ?_
      refine wpAny_mono (turn H2.objs.size s₂.heap.objs.size i v { s₂ with heap := h₂, toks := tk₂ } _ ys _ hlt hPv (Nat.le_refl _) (by rw [hC]; exact Nat.lt_succ_self _) (hn'.at' fun o e => hk₂' _ o hCI e) (hk₂' _ _ hDI hD') hst₂ (fun b o hb hbL e => hk₂' b o hb (hk' b o hb hbL e)) (fun m hm => (hLk m hm).at' fun o e => hk₂' _ o hLI e) ⟨_, _, rfl⟩) (fun _ s₄ h₄ => ?_) fun _ _ e => e
      refine wpAny_mono h₄ (fun y s₅ h₅ => ?_) fun _ _ e => e
      obtain ⟨h₃, tk₃, rfl, ⟨m₃, hn₃⟩, hk₃, hLk₃, hy⟩ := h₅
      have hD₃ : h₃.get? s₂.heap.objs.size = some (lst ys) := hk₃ _ _ hDC hDL (hk₂' _ _ hDI hD')
      refine append_at (hsz := by show ys.toArray.size ≤ sizeLine; rw [List.size_toArray, hyl]; exact Nat.le_trans hi hsz) hD₃ fun h₅ hs₅ hD₅ => ?_
      refine ⟨n + 1 - (i + 1), by omega, h₅, tk₃, i + 1, ys ++ [y], m₃, rfl, hlt, rfl, by rw [List.length_append, List.length_singleton, hyl], ?_, hn₃.sameBut hs₅ (Ne.symm hDC), hD₅.trans (congrArg some (lst_snoc ys y)), ?_, fun m hm => (hLk₃ m ((hLk m hm).at' fun o e => hk₂' _ o hLI e)).sameBut hs₅ (Ne.symm hDL), ?_⟩
      · refine W.frame _ _ _ (W.frame _ _ _ hst₂ fun b hb o e => hk₃ b o (below b (hfp b hb)).1 (fun q => hLfp (q ▸ hb)) e) fun b hb o e => hs₅.extBut b o (below b (hfp b hb)).2 e
      · intro b o hb hbL e
        exact hs₅.extBut b o (below b (Heap.lt_size e)).2 (hk₃ b o (below b (Heap.lt_size e)).1 hbL (hk₂' b o hb (hk' b o hb hbL e)))
      · intro j hj
        by_cases hji : j < i
        · obtain ⟨v', y', hP', hy', hG⟩ := hG' j hji
          refine ⟨v', y', hP', by rw [List.getElem?_append_left (by omega)]; exact hy', fun h'' hh => hG h'' fun b o b1 b2 b3 b4 e => hh b o b1 b2 b3 b4 (hs₅.extBut b o b3 (hk₃ b o b1 b4 (hk₂' b o b2 e)))⟩
        · have hji' : j = i := by omega
          subst hji'
          refine ⟨v, y, hPv, by rw [List.getElem?_append_right (by omega), hyl, Nat.sub_self]; rfl, fun h'' hh => hy h'' fun b o b1 b2 b3 b4 e => hh b o b1 b2 b3 b4 (hs₅.extBut b o b3 e)⟩
    · obtain rfl : i = n := Nat.le_antisymm hi (Nat.not_lt.mp hlt)
      refine W.done _ _ _ hst' fun h₂ tk₂ hk₂ => ?_
      have hk₂' : ∀ b o, b ≠ I → h'.get? b = some o → h₂.get? b = some o := fun b o hb e => hk₂ b o (by simpa using hb) e
      refine hRR _ _ h₂ tk₂ m' ys (Nat.le_refl _) (by rw [hC]; exact Nat.lt_succ_self _) (hn'.at' fun o e => hk₂' _ o hCI e) (hk₂' _ _ hDI hD') hyl (fun j hj => ?_) (fun b o hb hbL e => hk₂' b o hb (hk' b o hb hbL e)) fun m hm => (hLk m hm).at' fun o e => hk₂' _ o hLI e
      obtain ⟨v', y', hP', hy', hG⟩ := hG' j hj
      exact ⟨v', y', hP', hy', fun h'' hh => hG h'' fun b o b1 b2 b3 b4 e => hh b o b1 b2 b3 b4 (hk₂' b o b2 e)⟩
  exact codeAny_compStart_list (loop _ rfl) (W.self 0 _ _ _ hst₁ (loop _ rfl))

/-- the end of a turn -/
def TurnOk (s₁ : Shared) (C I D L : Addr) (h₃ : Heap) (G : Value → Heap → Prop) (y : Value) (s₅ : Shared) : Prop :=
  ∃ h' tk, s₅ = { s₁ with heap := h', toks := tk } ∧ (∃ m', h'.Ns C m') ∧ (∀ b o, b ≠ C → b ≠ L → h₃.get? b = some o → h'.get? b = some o) ∧ (∀ m, h₃.Ns L m → h'.Ns L m) ∧
    ∀ h'', (∀ b o, b ≠ C → b ≠ I → b ≠ D → b ≠ L → h'.get? b = some o → h''.get? b = some o) → G y h''
/-- what a comprehension's source and element are to show, once the source's value is known -/
def CompOk (prog : Program) (w : World) (A : Around) (target elt : Expr) (scope : Scope) (cl : List (Str × Addr)) (env : Env) (L : Addr) (Q : Value → Shared → Prop) (vs : List Value) (s₁ : Shared) : Prop :=
  vs.length ≤ 400 ∧ ∃ G : Nat → Value → Heap → Prop,
    (∀ C D I j v (s₃ : Shared) oC oI m₃ ys (E' : Value → Shared → Prop), vs[j]? = some v → s₁.heap.objs.size ≤ I → I < D → D < C → s₃.heap.get? C = some oC → NsObj oC m₃ → s₃.heap.get? D = some (lst ys) → s₃.heap.get? I = some oI → Kp s₁.heap s₃.heap [L] → (∀ m, s₁.heap.Ns L m → s₃.heap.Ns L m) → (∃ h tk, s₃ = { s₁ with heap := h, toks := tk }) →
      wpAny (model prog w) A (assign target (compEnvC scope cl C env) v) (fun _ s₄ => wpAny (model prog w) A (eval elt (compEnvC scope cl C env)) (TurnOk s₁ C I D L s₃.heap (G j)) E' s₄) E' s₃) ∧
    ∀ D ys h' tk, s₁.heap.get? D = none → Kp s₁.heap h' [L] → (∀ m, s₁.heap.Ns L m → h'.Ns L m) → h'.get? D = some (lst ys) → ys.length = vs.length → (∀ j y, ys[j]? = some y → G j y h') → Q (.ref D) { s₁ with heap := h', toks := tk }

def SrcOk (prog : Program) (w : World) (A : Around) (target elt : Expr) (scope : Scope) (cl : List (Str × Addr)) (env : Env) (L : Addr) (Q : Value → Shared → Prop) (xv : Value) (s₁ : Shared) : Prop :=
  ∃ ax vs m, s₁.heap.Ns L m ∧ xv = .ref ax ∧ (s₁.heap.IsList ax vs.toArray ∨ s₁.heap.IsTuple ax vs.toArray) ∧ CompOk prog w A target elt scope cl env L Q vs s₁
theorem comp_ok {target elt iter : Expr} {scope : Scope} {cl : List (Str × Addr)} {pos : Pos} {s : Shared} {Q : Value → Shared → Prop} (LR : LoopRule prog w A target elt iter scope pos) (hh : A.handled = none)
    (hclos : closureFor scope env = pure cl) (hcell : ∀ y ∈ scope.names, y.2 ≠ .cell) (hkind : scope.kind = .function) (hnames : ∀ y ∈ scope.names, y.2 = .local → scope.names.lookup y.1 = some .local) (L : Addr)
    (h : wpAny (model prog w) A (eval iter env) (SrcOk prog w A target elt scope cl env L Q) E s)
    (hs : ∀ x, foldedSetIterable iter env x = pure x := by intro _; rfl) :
    wpAny (model prog w) A (eval (.ListComp elt [⟨target, iter, [], 0⟩] scope pos) env) Q E s := by
  rw [eval_ListComp]
  refine wpAny_comprehension_free (use := none) rfl hs hclos hkind hnames (wpAny_mono h (fun xv s₁ h₁ => ?_) fun _ _ e => e)
  obtain ⟨ax, vs, mL, hnL, rfl, hl, hlen, G, turn, fin⟩ := h₁
  have hLlt : L < s₁.heap.objs.size := hnL.lt
  have hsz : vs.toArray.size ≤ sizeLine := by rw [List.size_toArray, sizeLine_eq]; omega
  have key : ∀ (it : Obj) (St : Nat → Heap → Prop), St 0 (s₁.heap.push it) → it.isFreed = false → ax < s₁.heap.objs.size → L ≠ ax → (∀ i h, St i h → ∃ o, h.get? s₁.heap.objs.size = some o) →
      Walks prog w A s₁.heap.objs.size [s₁.heap.objs.size, ax] [s₁.heap.objs.size] vs.toArray.size (fun i v => vs.toArray[i]? = some v) St →
      (∀ i v (s' : Shared) (Q' : Unit → Shared → Prop) (E' : Value → Shared → Prop), St i s'.heap → Q' () s' → wpAny (model prog w) A (letOwnedTupleGo target (.ref s₁.heap.objs.size) v) Q' E' s') →
      wpAny (model prog w) A (newList []) (fun acc s₃ => wpAny (model prog w) A (newFunctionEnv scope env.globals cl [] env.qual none .none (some env)) (fun cenv s₄ =>
        codeAny (model prog w) A (.compStart (.ListComp elt [⟨target, iter, [], 0⟩] scope pos) 0 (.ref s₁.heap.objs.size) acc { cenv with scope := relabel scope env }) (compPost (model prog w) A E none Q acc cenv.locals) s₄) E s₃) E { s₁ with heap := s₁.heap.push it } := by
    intro it St hst hfr hlt hLax hIo W hgo
    refine comp_blk LR W hsz hgo hcell hkind hst (fun b hb => ?_) L (by show L < (s₁.heap.push it).objs.size; rw [Heap.size_push]; exact Nat.lt_succ_of_lt hLlt) (by simp only [List.mem_cons, List.not_mem_nil, or_false, not_or]; exact ⟨Nat.ne_of_lt hLlt, hLax⟩) (fun j _ y h => G j y h) (fun C D i v s₃ m₃ ys E' hi hP hD hDC hn hDl hSt hk hkL hs₃ => ?_) (fun D C h' tk m' ys hD hDC hn hDl hlen' hG hk hkL => ?_)
    · show b < (s₁.heap.push it).objs.size
      rw [Heap.size_push]
      rcases List.mem_cons.mp hb with rfl | hb
      · exact Nat.lt_succ_self _
      · rw [List.mem_singleton.mp hb]; exact Nat.lt_succ_of_lt hlt
    · have hD' : s₁.heap.objs.size < D := Nat.lt_of_lt_of_le (by rw [Heap.size_push]; exact Nat.lt_succ_self _) hD
      obtain ⟨oC, eC, hoC⟩ := ns_obj hn
      obtain ⟨oI, eI⟩ := hIo _ _ hSt
      exact turn C D s₁.heap.objs.size i v s₃ oC oI m₃ ys E' (by simpa using hP) (Nat.le_refl _) hD' hDC eC hoC hDl eI (fun b o e hb => hk b o (Nat.ne_of_lt (Heap.lt_size e)) (fun q => hb (List.mem_singleton.mpr q)) (Heap.get?_push_of_some _ e)) (fun m hm => hkL m (hm.keeps fun b o e => Heap.get?_push_of_some _ e)) hs₃
    · have hD' : s₁.heap.objs.size < D := Nat.lt_of_lt_of_le (by rw [Heap.size_push]; exact Nat.lt_succ_self _) hD
      have hC' : s₁.heap.objs.size < C := Nat.lt_trans hD' hDC
      refine ⟨m', hn, fun h'' hs'' => ?_⟩
      have up : ∀ b o, b ≠ C → h'.get? b = some o → h''.get? b = some o := fun b o hb e => hs''.extBut b o hb e
      refine fin D ys h'' tk (Heap.get?_none_of_le (Nat.le_of_lt hD')) (fun b o e hb => up b o (Nat.ne_of_lt (Nat.lt_trans (Heap.lt_size e) hC')) (hk b o (Nat.ne_of_lt (Heap.lt_size e)) (fun q => hb (List.mem_singleton.mpr q)) (Heap.get?_push_of_some _ e))) (fun m hm => (hkL m (hm.keeps fun b o e => Heap.get?_push_of_some _ e)).at' fun o e => up L o (Nat.ne_of_lt (Nat.lt_trans hLlt hC')) e) (up D _ (Nat.ne_of_lt hDC) hDl) (by rw [hlen', List.size_toArray]) (fun j y hy => ?_)
      obtain ⟨v, y', hP, hy', hG'⟩ := hG j (by rw [← hlen']; exact (List.getElem?_eq_some_iff.mp hy).1)
      rw [hy] at hy'
      cases hy'
      exact hG' h'' fun b o b1 _ _ _ e => up b o b1 e
  have hne : ∀ (its : Array Value) (k : Nat) (o : Obj), s₁.heap.get? ax = some o → o.data = .seq its k → L ≠ ax := fun its k o e d q => by
    obtain ⟨o', es, ep, e', d', _⟩ := hnL
    rw [q, e] at e'
    cases e'
    rw [d] at d'
    cases d'
  rcases hl with hl | hl
  · have hlt : ax < s₁.heap.objs.size := by obtain ⟨_, e, _⟩ := hl; exact Heap.lt_size e
    refine wpAny_pyIter_list hl (key _ (fun i h => h.IsListIter s₁.heap.objs.size ax i ∧ h.IsList ax vs.toArray) ⟨⟨_, Heap.get?_push_size _ rfl, rfl, rfl⟩, hl.push _⟩ rfl hlt (by obtain ⟨o, e, _, k, d⟩ := hl; exact hne _ _ o e d) (fun i h st => by obtain ⟨o, e, _⟩ := st.1; exact ⟨o, e⟩) (Walks.list hh _ ax (Nat.ne_of_lt hlt) _) ?_)
    exact fun i v s' Q' E' st q => letGo_listiter st.1 q
  · have hlt : ax < s₁.heap.objs.size := by obtain ⟨_, e, _⟩ := hl; exact Heap.lt_size e
    refine wpAny_pyIter_tuple hl (key _ (fun i h => h.IsTupleIter s₁.heap.objs.size ax i ∧ h.IsTuple ax vs.toArray) ⟨⟨_, Heap.get?_push_size _ rfl, rfl, rfl⟩, hl.at fun o e => Heap.get?_push_of_some _ e⟩ rfl hlt (by obtain ⟨o, e, _, k, d⟩ := hl; exact hne _ _ o e d) (fun i h st => by obtain ⟨o, e, _⟩ := st.1; exact ⟨o, e⟩) (Walks.tuple hh _ ax (Nat.ne_of_lt hlt) _) ?_)
    exact fun i v s' Q' E' st q => letGo_tupleiter st.1 q

theorem rest_ex {g h : Heap} {L : Addr} {m : Str → Option Value} (F : Fr g L h m) : ∃ rest, News g L h rest ∧ ∀ b o, h.get? b = some o → b ≠ L → g.get? b = some o ∨ (b, o) ∈ rest := by
  refine ⟨(List.range h.objs.size).filterMap fun b => if b = L ∨ (g.get? b).isSome = true then none else (h.get? b).map fun o => (b, o), fun p hp => ?_, fun b o e hb => ?_⟩
  · obtain ⟨b, _, hb⟩ := List.mem_filterMap.mp hp
    split at hb
    · cases hb
    · rename_i hn
      cases e : h.get? b with
      | none => rw [e] at hb; cases hb
      | some o =>
        rw [e] at hb
        cases hb
        refine ⟨e, fun q => hn (.inl q), ?_⟩
        cases q : g.get? b with
        | none => rfl
        | some o' => exact absurd (.inr (by rw [q]; rfl)) hn
  · cases q : g.get? b with
    | some o' => rw [F.keep b o' q] at e; cases e; exact .inl rfl
    | none =>
      refine .inr (List.mem_filterMap.mpr ⟨b, List.mem_range.mpr (Heap.lt_size e), ?_⟩)
      rw [if_neg (by rintro (z | z); exact hb z; rw [q] at z; cases z), e]
      rfl
theorem kept_rest {g h h' : Heap} {L : Addr} {m' : Str → Option Value} {rest news' : List (Addr × Obj)} (hr : ∀ b o, h.get? b = some o → b ≠ L → g.get? b = some o ∨ (b, o) ∈ rest) (F : Fr g L h' m') (N : News g L h' news') (sub : ∀ p ∈ rest, p ∈ news') : ∀ b o, b ≠ L → h.get? b = some o → h'.get? b = some o := fun b o hb e => by
  rcases hr b o e hb with q | q
  · exact F.keep b o q
  · exact (N _ (sub _ q)).1
@[reducible] def frL {g h : Heap} {L : Addr} {m : Str → Option Value} (_ : Fr g L h m) : Addr := L
theorem fr_kpL {g h h' : Heap} {L : Addr} {m : Str → Option Value} (F : Fr g L h m) (k : Kp h h' [L]) (n : ∀ m, h.Ns L m → h'.Ns L m) : Fr g L h' m :=
  ⟨n m F.ns, fun b o e => k b o (F.keep b o e) (fun q => by rw [List.mem_singleton.mp q] at e; exact absurd (Nat.lt_of_lt_of_le (Heap.lt_size e) F.above) (Nat.lt_irrefl _)), F.above⟩
theorem news_kpL {g h h' : Heap} {L : Addr} {news : List (Addr × Obj)} (N : News g L h news) (k : Kp h h' [L]) : News g L h' news := fun p hp => ⟨k _ _ (N p hp).1 (fun q => (N p hp).2.1 (List.mem_singleton.mp q)), (N p hp).2⟩
/-- the facts of a turn: the frame and the ledger behind the target's store -/
theorem turn_in {g h₁ h₃ h₄ : Heap} {L C : Addr} {m : Str → Option Value} {oC : Obj} (F : Fr g L h₁ m) (hC : h₁.objs.size ≤ C) (k : Kp h₁ h₃ [L]) (n : ∀ m, h₁.Ns L m → h₃.Ns L m) (k4 : ∀ b o, b ≠ C → h₃.get? b = some o → h₄.get? b = some o) (eC : h₄.get? C = some oC) :
    Fr g L h₄ m ∧ ∃ rest, News g L h₄ ((C, oC) :: rest) ∧ ∀ b o, h₄.get? b = some o → b ≠ L → g.get? b = some o ∨ (b, o) ∈ rest := by
  have hLC : L ≠ C := Nat.ne_of_lt (Nat.lt_of_lt_of_le F.ns.lt hC)
  have F₃ := fr_kpL F k n
  have F₄ : Fr g L h₄ m := ⟨F₃.ns.at' fun o e => k4 L o hLC e, fun b o e => k4 b o (Nat.ne_of_lt (Nat.lt_of_lt_of_le (Heap.lt_size (F.keep b o e)) hC)) (F₃.keep b o e), F.above⟩
  obtain ⟨rest, N, hr⟩ := rest_ex F₄
  refine ⟨F₄, rest, fun p hp => ?_, hr⟩
  rcases List.mem_cons.mp hp with rfl | hp
  · refine ⟨eC, Ne.symm hLC, ?_⟩
    cases q : g.get? C with
    | none => rfl
    | some o => exact absurd (Heap.lt_size (F.keep _ _ q)) (Nat.not_lt.mpr hC)
  · exact N p hp
theorem turn_out {g h₃ h₄ h' : Heap} {s₁ : Shared} {L C I D : Addr} {m m₀ : Str → Option Value} {oC : Obj} {rest news' : List (Addr × Obj)} {G : Value → Heap → Prop} {y : Value} {tk : Nat} (hr : ∀ b o, h₄.get? b = some o → b ≠ L → g.get? b = some o ∨ (b, o) ∈ rest) (k4 : ∀ b o, b ≠ C → h₃.get? b = some o → h₄.get? b = some o)
    (n : NsObj oC m₀) (hL : ∀ m', h₃.Ns L m' → m' = m) (F' : Fr g L h' m) (N' : News g L h' news') (hm : (C, oC) ∈ news') (sub : ∀ p ∈ rest, p ∈ news')
    (hG : ∀ h'', (∀ b o, b ≠ C → b ≠ I → b ≠ D → b ≠ L → h'.get? b = some o → h''.get? b = some o) → G y h'') : TurnOk s₁ C I D L h₃ G y { s₁ with heap := h', toks := tk } :=
  ⟨h', tk, rfl, ⟨m₀, n.ns (N' _ hm).1⟩, fun b o hb hbL e => kept_rest hr F' N' sub b o hbL (k4 b o hb e), fun m' hm' => by rw [hL m' hm']; exact F'.ns, hG⟩
theorem ns_unique {h : Heap} {L : Addr} {m m' : Str → Option Value} (a : h.Ns L m) (b : h.Ns L m') : m' = m := by
  obtain ⟨o, es, ep, e, d, _, f⟩ := a
  obtain ⟨o', es', ep', e', d', _, f'⟩ := b
  rw [e] at e'
  cases e'
  rw [d] at d'
  cases d'
  funext x
  rw [← f, ← f']
theorem assign1 {scope : Scope} {cl : List (Str × Addr)} {C : Addr} {oC : Obj} {m₃ : Str → Option Value} {s : Shared} {x : Str} {px : Pos} {v : Value} {Q : Unit → Shared → Prop} (hx : scope.names.lookup x = some .local) (hkind : scope.kind = .function) (e : s.heap.get? C = some oC) (n : NsObj oC m₃)
    (h : ∀ h' tk oC' m', h'.get? C = some oC' → NsObj oC' m' → m' x = some v → (∀ b o, b ≠ C → s.heap.get? b = some o → h'.get? b = some o) → Q () { s with heap := h', toks := tk }) :
    wpAny (model prog w) A (assign (.Name x px) (compEnvC scope cl C env) v) Q E s := by
  refine wpAny_assign_Name (wpAny_storeName_local (lookup_relabel_local hx) (n.ns e) (fun h' hn' hs' => ?_) (by simp [compEnvC, relabel, hkind]))
  obtain ⟨oC', eC, hoC⟩ := ns_obj hn'
  exact h h' _ oC' _ eC hoC (by simp) fun b o hb e => hs'.extBut b o hb e
theorem assign3 {scope : Scope} {cl : List (Str × Addr)} {C t : Addr} {oC : Obj} {m₃ : Str → Option Value} {s : Shared} {x1 x2 x3 : Str} {p1 p2 p3 tp : Pos} {k : Nat} {v1 v2 v3 : Value} {Q : Unit → Shared → Prop} (hh : A.handled = none) (ht : s.heap.IsTuple t #[v1, v2, v3])
    (hx1 : scope.names.lookup x1 = some .local) (hx2 : scope.names.lookup x2 = some .local) (hx3 : scope.names.lookup x3 = some .local) (h12 : x1 ≠ x2) (h13 : x1 ≠ x3) (h23 : x2 ≠ x3) (hkind : scope.kind = .function) (e : s.heap.get? C = some oC) (n : NsObj oC m₃)
    (h : ∀ h' tk oC' m', h'.get? C = some oC' → NsObj oC' m' → m' x1 = some v1 → m' x2 = some v2 → m' x3 = some v3 → (∀ b o, b ≠ C → s.heap.get? b = some o → h'.get? b = some o) → Q () { s with heap := h', toks := tk }) :
    wpAny (model prog w) A (assign (.Tuple [.Name x1 p1, .Name x2 p2, .Name x3 p3] k tp) (compEnvC scope cl C env) (.ref t)) Q E s := by
  have hC : C ≠ s.heap.objs.size := Nat.ne_of_lt (Heap.lt_size e)
  refine wpAny_assign_Tuple hh ht rfl rfl fun h₀ hx₀ => ?_
  have n₀ : h₀.Ns C m₃ := n.ns (hx₀ C _ hC e)
  have hp : ((compEnvC scope cl C env).scope.kind == .class || ((compEnvC scope cl C env).scope.kind == .module && (compEnvC scope cl C env).locals != (compEnvC scope cl C env).globals)) = false := by simp [compEnvC, relabel, hkind]
  show wpAny _ _ (holding [v2, v3] (assign (.Name x1 p1) (compEnvC scope cl C env) v1) >>= fun _ => assignInOrder ((assignEach [.Name x2 p2, .Name x3 p3] (compEnvC scope cl C env)).map (·.2)) [v2, v3]) _ _ _
  refine wpAny_bind (wpAny_holding (wpAny_assign_Name (wpAny_storeName_local (lookup_relabel_local hx1) n₀ (fun h₁ hn₁ hs₁ => ?_) hp)))
  show wpAny _ _ (holding [v3] (assign (.Name x2 p2) (compEnvC scope cl C env) v2) >>= fun _ => assignInOrder ((assignEach [.Name x3 p3] (compEnvC scope cl C env)).map (·.2)) [v3]) _ _ _
  refine wpAny_bind (wpAny_holding (wpAny_assign_Name (wpAny_storeName_local (lookup_relabel_local hx2) hn₁ (fun h₂ hn₂ hs₂ => ?_) hp)))
  show wpAny _ _ (holding [] (assign (.Name x3 p3) (compEnvC scope cl C env) v3) >>= fun _ => assignInOrder ((assignEach [] (compEnvC scope cl C env)).map (·.2)) []) _ _ _
  refine wpAny_bind (wpAny_holding (wpAny_assign_Name (wpAny_storeName_local (lookup_relabel_local hx3) hn₂ (fun h₃ hn₃ hs₃ => ?_) hp)))
  obtain ⟨oC', eC, hoC⟩ := ns_obj hn₃
  refine wpAny_pure (h h₃ _ oC' _ eC hoC ?_ ?_ ?_ fun b o hb e => ?_)
  · rw [if_neg h13, if_neg h12, if_pos rfl]
  · rw [if_neg h23, if_pos rfl]
  · rw [if_pos rfl]
  · by_cases hb' : b = s.heap.objs.size
    · subst hb'; exact absurd (Heap.lt_size e) (Nat.lt_irrefl _)
    · exact hs₃.extBut b o hb (hs₂.extBut b o hb (hs₁.extBut b o hb (hx₀ b o hb' e)))
end
end
section
open PySem PySem.Spec PySem.Calls PySem.W PyProof.Rows PyProof.Rows.LCg
/-- new since `h0` -/
abbrev NM (h0 h : Heap) : Addr → Obj → Prop := fun c o => h.get? c = some o ∧ h0.get? c = none
section
variable {prog : Program} {w : World} {A : Around} {E : Value → Shared → Prop} {env : Env} {α β : Type}

/-- the end of a turn that makes new objects alone -/
def MapEnd (s₁ s₃ : Shared) (C L : Addr) (Eo : (Addr → Obj → Prop) → Value → β → Prop) (b : β) (y : Value) (s₅ : Shared) : Prop :=
  ∃ h' tk, s₅ = { s₁ with heap := h', toks := tk } ∧ (∃ m', h'.Ns C m') ∧ (∀ b o, b ≠ C → b ≠ L → s₃.heap.get? b = some o → h'.get? b = some o) ∧ (∀ m, s₃.heap.Ns L m → h'.Ns L m) ∧ Eo (NM s₃.heap h') y b
def MapTurn (prog : Program) (w : World) (A : Around) (target elt : Expr) (scope : Scope) (cl : List (Str × Addr)) (env : Env) (L : Addr) (Ei : (Addr → Obj → Prop) → Value → α → Prop) (Eo : (Addr → Obj → Prop) → Value → β → Prop) (f : α → β) (M : Addr → Obj → Prop) (xs : List α) (s₁ : Shared) : Prop :=
  ∀ C v x (s₃ : Shared) oC m₃ (E' : Value → Shared → Prop), x ∈ xs → Ei M v x → (∀ c o, M c o → s₃.heap.get? c = some o ∧ c ≠ L ∧ c ≠ C) → s₃.heap.get? C = some oC → NsObj oC m₃ → s₁.heap.objs.size ≤ C → Kp s₁.heap s₃.heap [L] → (∀ m, s₁.heap.Ns L m → s₃.heap.Ns L m) → (∃ h tk, s₃ = { s₁ with heap := h, toks := tk }) →
    wpAny (model prog w) A (assign target (compEnvC scope cl C env) v) (fun _ s₄ => wpAny (model prog w) A (eval elt (compEnvC scope cl C env)) (MapEnd s₁ s₃ C L Eo (f x)) E' s₄) E' s₃
def MapFin (L : Addr) (Eo : (Addr → Obj → Prop) → Value → β → Prop) (f : α → β) (Q : Value → Shared → Prop) (xs : List α) (s₁ : Shared) : Prop :=
  ∀ D h' tk, s₁.heap.get? D = none → Kp s₁.heap h' [L] → (∀ m, s₁.heap.Ns L m → h'.Ns L m) → LAt (NM s₁.heap h') (Eo (NM s₁.heap h')) (.ref D) (xs.map f) → Q (.ref D) { s₁ with heap := h', toks := tk }
def MapSrc (prog : Program) (w : World) (A : Around) (target elt : Expr) (scope : Scope) (cl : List (Str × Addr)) (env : Env) (L : Addr) (Ei : (Addr → Obj → Prop) → Value → α → Prop) (Eo : (Addr → Obj → Prop) → Value → β → Prop) (Q : Value → Shared → Prop) (xv : Value) (s₁ : Shared) : Prop :=
  ∃ (f : α → β), ∃ M xs m, s₁.heap.Ns L m ∧ LAt M (Ei M) xv xs ∧ (∀ c o, M c o → s₁.heap.get? c = some o ∧ c ≠ L) ∧ xs.length ≤ 400 ∧ MapTurn prog w A target elt scope cl env L Ei Eo f M xs s₁ ∧ MapFin L Eo f Q xs s₁

theorem All2.at {Ein : Value → α → Prop} {vs : List Value} {xs : List α} {j : Nat} {v : Value} (a : All2 Ein vs xs) (h : vs[j]? = some v) : ∃ x, xs[j]? = some x ∧ Ein v x := a.2 j v h

theorem comp_map {target elt iter : Expr} {scope : Scope} {cl : List (Str × Addr)} {pos : Pos} {s : Shared} {Q : Value → Shared → Prop} {Ei : (Addr → Obj → Prop) → Value → α → Prop} {Eo : (Addr → Obj → Prop) → Value → β → Prop}
    (mono : ∀ {M M' : Addr → Obj → Prop} {v : Value} {x : β}, (∀ c o, M c o → M' c o) → Eo M v x → Eo M' v x)
    (LR : LoopRule prog w A target elt iter scope pos) (hh : A.handled = none)
    (hclos : closureFor scope env = pure cl) (hcell : ∀ y ∈ scope.names, y.2 ≠ .cell) (hkind : scope.kind = .function) (hnames : ∀ y ∈ scope.names, y.2 = .local → scope.names.lookup y.1 = some .local) (L : Addr)
    (h : wpAny (model prog w) A (eval iter env) (MapSrc prog w A target elt scope cl env L Ei Eo Q) E s)
    (hs : ∀ x, foldedSetIterable iter env x = pure x := by intro _; rfl) :
    wpAny (model prog w) A (eval (.ListComp elt [⟨target, iter, [], 0⟩] scope pos) env) Q E s := by
  refine comp_ok LR hh hclos hcell hkind hnames L (wpAny_mono h (fun xv s₁ h₁ => ?_) fun _ _ e => e) hs
  obtain ⟨f, M, xs, m, hn, ⟨ax, vs, n, rfl, hm, a2⟩, hM, hlen, turn, fin⟩ := h₁
  have nsL : ∀ {h : Heap}, (∀ m, s₁.heap.Ns L m → h.Ns L m) → h.get? L ≠ none := fun k q => by obtain ⟨o, _, _, e, _⟩ := k m hn; rw [q] at e; cases e
  refine ⟨ax, vs, m, hn, rfl, .inl ⟨_, (hM _ _ hm).1, rfl, _, rfl⟩, by rw [a2.1]; exact hlen, fun j y h => ∃ x, xs[j]? = some x ∧ Eo (NM s₁.heap h) y (f x), ?_, ?_⟩
  · intro C D I j v s₃ oC oI m₃ ys E' hv hI hID hDC eC hoC hD eI hk hkL hs₃
    obtain ⟨x, hx, hE⟩ := a2.2 j v hv
    have hC : s₁.heap.objs.size ≤ C := Nat.le_of_lt (Nat.lt_of_le_of_lt hI (Nat.lt_trans hID hDC))
    refine wpAny_mono (turn C v x s₃ oC m₃ E' (List.mem_of_getElem? hx) hE (fun c o hc => ⟨hk c o (hM c o hc).1 fun q => (hM c o hc).2 (List.mem_singleton.mp q), (hM c o hc).2, Nat.ne_of_lt (Nat.lt_of_lt_of_le (Heap.lt_size (hM c o hc).1) hC)⟩) eC hoC hC hk hkL hs₃)
      (fun _ s₄ h₄ => wpAny_mono h₄ (fun y s₅ h₅ => ?_) fun _ _ e => e) fun _ _ e => e
    obtain ⟨h', tk, rfl, hns, hkp, hL', hEo⟩ := h₅
    refine ⟨h', tk, rfl, hns, hkp, hL', fun h'' hh'' => ⟨x, hx, mono (fun c o ⟨hc1, hc2⟩ => ⟨hh'' c o (fun q => ?_) (fun q => ?_) (fun q => ?_) (fun q => ?_) hc1, ?_⟩) hEo⟩⟩
    · rw [q, eC] at hc2; cases hc2
    · rw [q, eI] at hc2; cases hc2
    · rw [q, hD] at hc2; cases hc2
    · rw [q] at hc2; exact nsL hkL hc2
    · cases q : s₁.heap.get? c with
      | none => rfl
      | some o' =>
        by_cases hcL : c = L
        · rw [hcL] at hc2; exact absurd hc2 (nsL hkL)
        · have := hk c o' q fun z => hcL (List.mem_singleton.mp z)
          rw [hc2] at this; cases this
  · intro D ys h' tk hD hk hkL hDl hyl hG
    refine fin D h' tk hD hk hkL ⟨D, ys, ys.length, rfl, ⟨hDl, hD⟩, by rw [List.length_map, hyl, a2.1], fun j y hy => ?_⟩
    obtain ⟨x, hx, hE⟩ := hG j y hy
    exact ⟨f x, by rw [List.getElem?_map, hx]; rfl, hE⟩

/-- a comprehension within a comprehension: rows of points to rows of points -/
def NestTurn (prog : Program) (w : World) (A : Around) (target elt : Expr) (scope1 scope2 : Scope) (cl1 cl2 : List (Str × Addr)) (env : Env) (L : Addr) (f : Pt → Pt) (s₁ : Shared) : Prop :=
  ∀ C1 C v (M : Addr → Obj → Prop) (x : Pt) (s₃ : Shared) oC m₃ (E' : Value → Shared → Prop), PtAt M v x → (∀ c o, M c o → s₃.heap.get? c = some o ∧ c ≠ L ∧ c ≠ C) → s₃.heap.get? C = some oC → NsObj oC m₃ → s₁.heap.objs.size ≤ C → Kp s₁.heap s₃.heap [L] → (∀ m, s₁.heap.Ns L m → s₃.heap.Ns L m) → (∃ h tk, s₃ = { s₁ with heap := h, toks := tk }) →
    wpAny (model prog w) A (assign target (compEnvC scope2 cl2 C (compEnvC scope1 cl1 C1 env)) v) (fun _ s₄ => wpAny (model prog w) A (eval elt (compEnvC scope2 cl2 C (compEnvC scope1 cl1 C1 env))) (MapEnd s₁ s₃ C L PtAt (f x)) E' s₄) E' s₃
def NestSrc (prog : Program) (w : World) (A : Around) (target elt : Expr) (scope1 scope2 : Scope) (cl1 cl2 : List (Str × Addr)) (env : Env) (L : Addr) (Q : Value → Shared → Prop) (xv : Value) (s₁ : Shared) : Prop :=
  ∃ (f : Pt → Pt), ∃ M rows m, s₁.heap.Ns L m ∧ RowsAt M xv rows ∧ (∀ c o, M c o → s₁.heap.get? c = some o ∧ c ≠ L) ∧ rows.length ≤ 400 ∧ (∀ r ∈ rows, r.length ≤ 400) ∧ NestTurn prog w A target elt scope1 scope2 cl1 cl2 env L f s₁ ∧
    ∀ D h' tk, s₁.heap.get? D = none → Kp s₁.heap h' [L] → (∀ m, s₁.heap.Ns L m → h'.Ns L m) → RowsAt (NM s₁.heap h') (.ref D) (rows.map (List.map f)) → Q (.ref D) { s₁ with heap := h', toks := tk }
theorem comp_nest {target elt iter : Expr} {xn : Str} {px px2 : Pos} {scope1 scope2 : Scope} {cl1 cl2 : List (Str × Addr)} {pos pos2 : Pos} {s : Shared} {Q : Value → Shared → Prop}
    (LR2 : ∀ A, LoopRule prog w A target elt (.Name xn px2) scope2 pos2) (hh : A.handled = none)
    (hclos : closureFor scope1 env = pure cl1) (hcell : ∀ y ∈ scope1.names, y.2 ≠ .cell) (hkind : scope1.kind = .function) (hnames : ∀ y ∈ scope1.names, y.2 = .local → scope1.names.lookup y.1 = some .local)
    (hclos2 : ∀ C, closureFor scope2 (compEnvC scope1 cl1 C env) = pure cl2) (hcell2 : ∀ y ∈ scope2.names, y.2 ≠ .cell) (hkind2 : scope2.kind = .function) (hnames2 : ∀ y ∈ scope2.names, y.2 = .local → scope2.names.lookup y.1 = some .local)
    (hxn : scope1.names.lookup xn = some .local) (hdb : (xn == ("__debug__" : Str)) = false) (L : Addr)
    (h : wpAny (model prog w) A (eval iter env) (NestSrc prog w A target elt scope1 scope2 cl1 cl2 env L Q) E s)
    (hs : ∀ x, foldedSetIterable iter env x = pure x := by intro _; rfl) :
    wpAny (model prog w) A (eval (.ListComp (.ListComp elt [⟨target, .Name xn px2, [], 0⟩] scope2 pos2) [⟨.Name xn px, iter, [], 0⟩] scope1 pos) env) Q E s := by
  refine comp_map (Ei := RowAt) (Eo := RowAt) RowAt.mono rule_name hh hclos hcell hkind hnames L (wpAny_mono h (fun xv s₁ h₁ => ?_) fun _ _ e => e) hs
  obtain ⟨f, M, rows, m, hn, hR, hM, hl1, hl2, turn, fin⟩ := h₁
  refine ⟨List.map f, M, rows, m, hn, hR, hM, hl1, ?_, fin⟩
  intro C v r s₃ oC m₃ E' hr hE hM3 eC hoC hC hk hkL hs₃
  obtain ⟨h3, tk3, rfl⟩ := hs₃
  have nsL : ∀ {h : Heap}, (∀ m, s₁.heap.Ns L m → h.Ns L m) → h.get? L ≠ none := fun k q => by obtain ⟨o, _, _, e, _⟩ := k m hn; rw [q] at e; cases e
  have hLC : L ≠ C := Nat.ne_of_lt (Nat.lt_of_lt_of_le hn.lt hC)
  refine assign1 hxn hkind eC hoC fun h4 tk4 oC4 m4 eC4 hoC4 hx4 hk4 => ?_
  have kl4 : ∀ m, s₁.heap.Ns L m → h4.Ns L m := fun m q => (hkL m q).at' fun o e => hk4 L o hLC e
  have k14 : Kp s₁.heap h4 [L] := fun b o e hb => hk4 b o (Nat.ne_of_lt (Nat.lt_of_lt_of_le (Heap.lt_size e) hC)) (hk b o e hb)
  refine comp_map (Ei := PtAt) (Eo := PtAt) PtAt.mono (LR2 _) hh (hclos2 C) hcell2 hkind2 hnames2 L ?_
  refine wpAny_Name (wpAny_loadName_local (m := m4) hkind (lookup_relabel_local hxn) (hoC4.ns eC4) hx4 ?_) hdb
  refine ⟨f, M, r, m, kl4 m hn, hE, fun c o hc => ⟨hk4 c o (hM3 c o hc).2.2 (hM3 c o hc).1, (hM3 c o hc).2.1⟩, hl2 r hr, ?_, ?_⟩
  · intro C2 v2 x s5 oC2 m5 E2 hx hE2 hM5 eC2 hoC2 hC2 hk5 hkL5 hs5
    have k15 : Kp s₁.heap s5.heap [L] := k14.trans hk5
    have hsz : s₁.heap.objs.size ≤ C2 := by
      refine Nat.le_trans ?_ hC2
      rcases Nat.lt_or_ge h4.objs.size s₁.heap.objs.size with q | q
      · exact absurd (Heap.lt_size eC4) (Nat.not_lt.mpr (Nat.le_trans (Nat.le_of_lt q) hC))
      · exact q
    obtain ⟨h5, tk5, rfl⟩ := hs5
    refine wpAny_mono (turn C C2 v2 M x _ oC2 m5 E2 hE2 hM5 eC2 hoC2 hsz k15 (fun m q => hkL5 m (kl4 m q)) ⟨_, _, rfl⟩) (fun _ s6 h6 => wpAny_mono h6 (fun y s7 h7 => ?_) fun _ _ e => e) fun _ _ e => e
    obtain ⟨h', tk, rfl, z⟩ := h7
    exact ⟨h', tk, rfl, z⟩
  · intro D h' tk hD hk' hkL' hRow
    have eC' : h'.get? C = some oC4 := hk' C oC4 eC4 fun q => hLC (List.mem_singleton.mp q).symm
    refine ⟨h', tk, rfl, ⟨m4, hoC4.ns eC'⟩, fun b o hb hbL e => hk' b o (hk4 b o hb e) fun q => hbL (List.mem_singleton.mp q), fun m' q => hkL' m' (q.at' fun o e => hk4 L o hLC e), RowAt.mono (fun c o hc => ⟨hc.1, ?_⟩) hRow⟩
    cases q : h3.get? c with
    | none => rfl
    | some o' =>
      by_cases hcC : c = C
      · have := hc.2; rw [hcC] at this; rw [show h4.get? C = none from this] at eC4; cases eC4
      · have := hk4 c o' hcC q
        rw [show h4.get? c = none from hc.2] at this; cases this
end
end
section
open PySem PySem.Spec PySem.Calls PySem.W PyProof.Rows PyProof.Rows.LCg
theorem neAll_of {r : Addr} : ∀ {news : List (Addr × Obj)}, (∀ p ∈ news, p.1 ≠ r) → NeAll r news
  | [], _ => trivial
  | p :: _, h => ⟨h p (.head _), neAll_of fun q hq => h q (.tail _ hq)⟩
theorem turn_in2 {g h₁ h₃ h₄ : Heap} {L C : Addr} {m : Str → Option Value} {oC : Obj} {news : List (Addr × Obj)} (F : Fr g L h₁ m) (N : News g L h₁ news) (hC : h₁.objs.size ≤ C) (k : Kp h₁ h₃ [L]) (n : ∀ m, h₁.Ns L m → h₃.Ns L m) (k4 : ∀ b o, b ≠ C → h₃.get? b = some o → h₄.get? b = some o) (eC : h₄.get? C = some oC) :
    Fr g L h₄ m ∧ NeAll C news ∧ ∃ rest, News g L h₄ ((C, oC) :: (news ++ rest)) ∧ ∀ b o, h₄.get? b = some o → b ≠ L → g.get? b = some o ∨ (b, o) ∈ rest := by
  obtain ⟨F4, rest, N4, hr⟩ := turn_in F hC k n k4 eC
  refine ⟨F4, neAll_of fun p hp q => absurd (Heap.lt_size (N p hp).1) (Nat.not_lt.mpr (q ▸ hC)), rest, fun p hp => ?_, hr⟩
  rcases List.mem_cons.mp hp with rfl | hp
  · exact N4 _ (.head _)
  · rcases List.mem_append.mp hp with hp | hp
    · refine ⟨k4 _ _ (fun q => absurd (Heap.lt_size (N p hp).1) (Nat.not_lt.mpr (q ▸ hC))) (k _ _ (N p hp).1 fun q => (N p hp).2.1 (List.mem_singleton.mp q)), (N p hp).2⟩
    · exact N4 p (.tail _ hp)
/-- all that stood is still in the ledger: what is made since is new -/
theorem turn_out2 {g h₃ h₄ h' : Heap} {s₁ s₃ : Shared} {L C t : Addr} {m m₀ : Str → Option Value} {oC ot : Obj} {rest news' : List (Addr × Obj)} {tk : Nat} {β : Type} {Eo : (Addr → Obj → Prop) → Value → β → Prop} {b : β} {y : Value} (e3 : s₃.heap = h₃)
    (hr : ∀ b o, h₄.get? b = some o → b ≠ L → g.get? b = some o ∨ (b, o) ∈ rest) (k4 : ∀ b o, b ≠ C → h₃.get? b = some o → h₄.get? b = some o)
    (n : NsObj oC m₀) (hL : ∀ m', h₃.Ns L m' → m' = m) (F' : Fr g L h' m) (N' : News g L h' news') (hm : (C, oC) ∈ news') (sub : ∀ p ∈ rest, p ∈ news')
    (ht : (t, ot) ∈ news') (hlt : AllLt t rest) (htC : t ≠ C) (hE : (NM h₃ h') t ot → Eo (NM h₃ h') y b) :
    MapEnd s₁ s₃ C L Eo b y { s₁ with heap := h', toks := tk } := by
  subst e3
  refine ⟨h', tk, rfl, ⟨m₀, n.ns (N' _ hm).1⟩, fun b o hb hbL e => kept_rest hr F' N' sub b o hbL (k4 b o hb e), fun m' hm' => by rw [hL m' hm']; exact F'.ns, hE ⟨(N' _ ht).1, ?_⟩⟩
  cases q : s₃.heap.get? t with
  | none => rfl
  | some o =>
    have hL' : t ≠ L := (N' _ ht).2.1
    rcases hr t o (k4 t o htC q) hL' with z | z
    · rw [(N' _ ht).2.2] at z; cases z
    · have all : ∀ {l : List (Addr × Obj)}, AllLt t l → ∀ p ∈ l, p.1 < t := by
        intro l
        induction l with
        | nil => intro _ p hp; cases hp
        | cons a r ih =>
          intro h p hp
          rcases List.mem_cons.mp hp with rfl | hp
          · exact h.1
          · exact ih h.2 p hp
      exact absurd (all hlt _ z) (Nat.lt_irrefl _)
theorem off_of {g h h9 : Heap} {L : Addr} {news rest : List (Addr × Obj)} (N : News g L h news) (hn : ∀ p ∈ rest, h.get? p.1 = none) : Off rest news := fun q hq p hp z => by
  have := hn p hp; rw [z, (N q hq).1] at this; cases this
theorem news_rest {g h h9 : Heap} {L : Addr} {m : Str → Option Value} {news rest : List (Addr × Obj)} (F : Fr g L h m) (N : News g L h news) (k : Kp h h9 [L]) (hp : ∀ p ∈ rest, NM h h9 p.1 p.2) : News g L h9 (news ++ rest) ∧ Off rest news ∧ ∀ p ∈ rest, h.get? p.1 = none := by
  refine ⟨fun q hq => ?_, off_of (h9 := h9) N fun p hq => (hp p hq).2, fun p hq => (hp p hq).2⟩
  rcases List.mem_append.mp hq with hq | hq
  · exact news_kpL N k q hq
  · refine ⟨(hp q hq).1, fun z => ?_, ?_⟩
    · obtain ⟨o, _, _, e, _⟩ := F.ns
      have e2 : h.get? q.1 = none := (hp q hq).2
      rw [show q.1 = L from z, e] at e2; cases e2
    · cases z : g.get? q.1 with
      | none => rfl
      | some o => have := F.keep _ _ z; rw [(hp q hq).2] at this; cases this
theorem news_row {g h h9 : Heap} {L : Addr} {m : Str → Option Value} {news : List (Addr × Obj)} {v : Value} {row : List Pt} (F : Fr g L h m) (N : News g L h news) (k : Kp h h9 [L]) (hR : RowAt (NM h h9) v row) :
    ∃ rest, News g L h9 (news ++ rest) ∧ Off rest news ∧ (∀ p ∈ rest, h.get? p.1 = none) ∧ RowAt (fun c o => (c, o) ∈ rest) v row := by
  obtain ⟨rest, hp, hr⟩ := RowAt.lay (P := fun q => NM h h9 q.1 q.2) hR
  obtain ⟨a, b, c⟩ := news_rest F N k hp
  exact ⟨rest, a, b, c, hr⟩
theorem news_rows {g h h9 : Heap} {L : Addr} {m : Str → Option Value} {news : List (Addr × Obj)} {v : Value} {rows : List (List Pt)} (F : Fr g L h m) (N : News g L h news) (k : Kp h h9 [L]) (hR : RowsAt (NM h h9) v rows) :
    ∃ rest, News g L h9 (news ++ rest) ∧ Off rest news ∧ (∀ p ∈ rest, h.get? p.1 = none) ∧ RowsAt (fun c o => (c, o) ∈ rest) v rows := by
  obtain ⟨rest, hp, hr⟩ := RowsAt.lay (P := fun q => NM h h9 q.1 q.2) hR
  obtain ⟨a, b, c⟩ := news_rest F N k hp
  exact ⟨rest, a, b, c, hr⟩
theorem none_kp {h h' : Heap} {c : Addr} (k : Kp h h' []) (e : h'.get? c = none) : h.get? c = none := by
  cases q : h.get? c with
  | none => rfl
  | some o => rw [k c o q List.not_mem_nil] at e; cases e
def Small (rows : List (List Pt)) : Prop := rows.length ≤ 400 ∧ ∀ r ∈ rows, r.length ≤ 400
def mvPt (x y : Int) (p : Pt) : Pt := (p.1 + x, p.2.1 + y, p.2.2)
def trPt (a b c d : Int) (p : Pt) : Pt := ((a * p.1 + c * p.2.1 + 8192).fdiv 16384, (b * p.1 + d * p.2.1 + 8192).fdiv 16384, p.2.2)
theorem none_back {h g h₁ : Heap} {L : Addr} {m : Str → Option Value} {S : List (Addr × Obj)} {c : Addr} (hg : ∀ b o, h.get? b = some o → b ∉ List.map (fun q : Addr × Obj => q.1) S → g.get? b = some o) (F : Fr g L h₁ m) (e : h₁.get? c = none) (hS : c ∉ List.map (fun q : Addr × Obj => q.1) S := by exact List.not_mem_nil) : h.get? c = none := by
  cases q : h.get? c with
  | none => rfl
  | some o => rw [F.keep c o (hg c o q hS)] at e; cases e
theorem allLt_right {d : Addr} {b : List (Addr × Obj)} : ∀ {a : List (Addr × Obj)}, AllLt d (a ++ b) → AllLt d b
  | [], h => h
  | _ :: a, h => allLt_right (a := a) h.2
theorem allLt_mem {d : Addr} : ∀ {l : List (Addr × Obj)}, AllLt d l → ∀ p ∈ l, p.1 < d
  | [], _, p, hp => nomatch hp
  | a :: r, h, p, hp => by
    rcases List.mem_cons.mp hp with rfl | hp
    · exact h.1
    · exact allLt_mem h.2 p hp
theorem none_some {h : Heap} {a : Addr} {o : Obj} {P : Prop} (e : h.get? a = none) (e2 : h.get? a = some o) : P := by rw [e] at e2; cases e2
theorem unrEnd_hd {h₀ : Heap} {L I : Addr} {it : Obj} {rest : (Str → Option Value) → List (Addr × Obj) → Prop} {s₁ : Shared} {h' : Heap} {tk : Nat} {m' : Str → Option Value} {news' : List (Addr × Obj)} (F : Fr h₀ L h' m') (N : News h₀ L h' ((I, it) :: news')) (off : ∀ p ∈ news', p.1 ≠ I) (r : rest m' news') : UnrEnd h₀ L s₁ I it rest { s₁ with heap := h', toks := tk } :=
  UnrEnd.intro F N news' (fun _ hp => hp) off r
theorem neAll_notin {r : Addr} : ∀ {S : List (Addr × Obj)}, NeAll r S → r ∉ List.map (fun q : Addr × Obj => q.1) S
  | [], _, h => nomatch h
  | q :: S, a, h => by
    rcases List.mem_cons.mp h with z | h
    · exact a.1 z.symm
    · exact neAll_notin a.2 h
end
section
open PySem PySem.Spec PySem.Calls PySem.W PyProof.Rows
/-- an exception of the law's class is under way: all of `H` stands but `S`, the frames up to their slots -/
def Thrown (l : List Env) (H h' : Heap) (S : List Addr) (e : Addr) : Prop :=
  ∃ B a0, (∀ b o, H.get? b = some o → b ∉ S → (∀ env ∈ l, env.frame ≠ some b) → B.get? b = some o) ∧ Heap.FlyingW B l e (.ref 51) a0 h' ∧
    ∀ b o, H.get? b = some o → b ∉ S → (∀ vs, o.data ≠ .fields vs) → ∃ sl, h'.get? b = some { o with slots := sl }

section
variable {M : Model} {A : Around} {H₀ H g h h₂ : Heap} {l : List Env} {env : Env} {L e : Addr} {m : Str → Option Value} {S S' : List Addr} {s : Shared} {Q : Unit → Shared → Prop} {E : Value → Shared → Prop}
theorem leave_first (B : Below A H₀ l g) (F : Fr g L h m) (hf : env.frame = some L) (hk : env.scope.kind = .function) (hL : H.get? L = none) (k : Kp H h S) (Fl : Flaw h s.heap e)
    (hQ : ∀ h'', Thrown l H h'' S e → Q () { s with heap := h'' }) : wpAny M (A.deeper env) (leaving env (.ref e)) Q E s := by
  obtain ⟨oe, vs, a0, he, hc, hd, h0, h1⟩ := Fl.there
  have ff := ff_of B F hf hk
  have hin : ∀ env' ∈ (env :: l), ∀ b, env'.frame = some b → b ∈ (env :: l).filterMap (·.frame) := fun env' he b hb => List.mem_filterMap.mpr ⟨env', he, hb⟩
  have hen : (hideAll h ((env :: l).filterMap (·.frame))).get? e = none := by
    cases q : (hideAll h ((env :: l).filterMap (·.frame))).get? e with
    | none => rfl
    | some o => have := of_hideAll _ q; rw [Fl.new] at this; cases this
  refine wpAny_leaving_firstW (base := hideAll h ((env :: l).filterMap (·.frame))) (Around.frames_deeper B.stack) ((funFrames_hide ff hin).of_keeps fun b o hb _ => ⟨o, Fl.keep b o hb, rfl⟩) hf he (fun b o q => Fl.keep b o (of_hideAll _ q)) hen hd h1 h0 fun h'' hl => ?_
  obtain ⟨k1, ⟨_, _, k2⟩, k3, k4⟩ := hl
  refine hQ h'' ⟨_, a0, fun b o hb hS hfr => hideAll_get _ (k b o hb hS) fun hm => ?_, ⟨k1, hen, k2, hc ▸ k3⟩, fun b o hb hS hnf => k4 b o (Fl.keep b o (k b o hb hS)) hnf⟩
  obtain ⟨env', he', hf'⟩ := List.mem_filterMap.mp hm
  rcases List.mem_cons.mp he' with rfl | he'
  · rw [hf] at hf'
    cases hf'
    rw [hL] at hb
    cases hb
  · exact hfr _ he' hf'

theorem leave_next (hA : A.frames = some l) (hf : env.frame = some L) (hL : H.get? L = none) (k : Kp H h₂ S) (T : Thrown (env :: l) h₂ s.heap S' e) (hS : ∀ b ∈ S', b ∈ S ∨ H.get? b = none)
    (hQ : ∀ h'', Thrown l H h'' S e → Q () { s with heap := h'' }) : wpAny M (A.deeper env) (leaving env (.ref e)) Q E s := by
  obtain ⟨B, a0, h1, h2, h3⟩ := T
  have nS' : ∀ b o, H.get? b = some o → b ∉ S → b ∉ S' := fun b o hb hn hm => by
    rcases hS b hm with q | q
    · exact hn q
    · rw [hb] at q; cases q
  refine wpAny_leaves_onW (Around.frames_deeper hA) hf h2 fun h'' x1 x2 => hQ h'' ⟨B, a0, fun b o hb hn hfr => h1 b o (k b o hb hn) (nS' b o hb hn) fun env' he' q => ?_, x1, fun b o hb hn hnf => ?_⟩
  · rcases List.mem_cons.mp he' with rfl | he'
    · rw [hf] at q
      cases q
      rw [hL] at hb
      cases hb
    · exact hfr _ he' q
  · obtain ⟨sl, e1⟩ := h3 b o (k b o hb hn) (nS' b o hb hn) hnf
    obtain ⟨sl', e2⟩ := x2 b _ e1 hnf
    exact ⟨sl', e2⟩
end

section
variable {M : Model} {A : Around} {E : Value → Shared → Prop} {env : Env}
variable {nm q : Str} {C N : Addr} {bs bm : List Value} {hdct : Bool} {sn : List Str} {sub : List Value} {ab : Bool} {col : Option Bool} {dd : Option Addr} {k0 k1 k2 k3 k5 : Option Value} {newId : String}
theorem raise_made {s : Shared} {x : Sem Value} {Q : Flow → Shared → Prop} (hbase : bm.contains (.type "BaseException") = true) (hh : A.handled = none)
    (h : wpAny M A x (fun v s₁ => ∃ e oe vs, v = .ref e ∧ s₁.heap.get? C = some (excClassObj nm q C N bs bm hdct sn sub ab col dd k0 k1 k2 k3 k5 newId) ∧
      s₁.heap.get? e = some oe ∧ oe.cls = .ref C ∧ oe.data = .fields vs ∧ vs[1]? = some .none ∧ E (.ref e) s₁) E s) :
    wpAny M A (raiseStmt env (some x) none) Q E s := by
  have hcB : (Value.ref C :: bm).contains (.type "BaseException") = true := by rw [List.contains_cons, hbase, Bool.or_true]
  unfold raiseStmt
  refine wpAny_bind (wpAny_mono h (fun v s₁ h₁ => ?_) fun _ _ x => x)
  obtain ⟨e, oe, vs, rfl, hC, he, hcls, hdd, hd1, hE⟩ := h₁
  obtain ⟨oc, od, oD, osl⟩ := oe
  dsimp only at hcls hdd
  subst hcls hdd
  obtain ⟨hp, g, d, tk, os⟩ := s₁
  repeat (first | (with_reducible refine wpAny_loadPart_at he ?_) | with_reducible refine wpAny_loadPart_at hC ?_ | (with_reducible refine wpAny_isSubtype_exc hC ?_; rw [hcB]) | wp_step)
  rw [hd1]
  repeat wp_step
  exact wpAny_raiseNew_none hh hE
theorem cls51 (w : World) : ∃ (nm q : Str) (N : Addr) (bs bm : List Value) (hdct : Bool) (sn : List Str) (sub : List Value) (ab : Bool) (col : Option Bool) (dd : Option Addr) (k0 k1 k2 k3 k5 : Option Value) (newId : String),
    (Mine.hd.heap_1 w.params).lookup 51 = some (excClassObj nm q 51 N bs bm hdct sn sub ab col dd k0 k1 k2 k3 k5 newId) ∧ bm.contains (.type "BaseException") = true :=
  ⟨_, _, _, _, _, _, _, _, _, _, _, _, _, _, _, _, _, rfl, rfl⟩
def RaiseOk (H₀ : Heap) (E : Value → Shared → Prop) (v : Value) (s₁ : Shared) : Prop :=
  ∃ e oe vs, v = .ref e ∧ H₀.StaysIn s₁.heap ∧ s₁.heap.get? e = some oe ∧ oe.cls = .ref 51 ∧ oe.data = .fields vs ∧ vs[1]? = some .none ∧ E (.ref e) s₁
theorem raiseOk_of {H₀ h : Heap} {E : Value → Shared → Prop} {e : Addr} {s₁ : Shared} (k : H₀.StaysIn h) (F : Flaw h s₁.heap e) (hE : E (.ref e) s₁) : RaiseOk H₀ E (.ref e) s₁ := by
  obtain ⟨oe, vs, a0, he, hc, hd, _, h1⟩ := F.there
  exact ⟨e, oe, vs, rfl, fun b o q => F.keep b o (k b o q), he, hc, hd, h1, hE⟩
theorem raise_own {w : World} {s : Shared} {H₀ : Heap} {x : Expr} {pos : Pos} {Q : Flow → Shared → Prop} (X : (Mine.hd.heap_1 w.params).In H₀) (hh : A.handled = none)
    (h : wpAny M A (eval x env) (RaiseOk H₀ E) E s) :
    wpAny M A (exec (.Raise (some x) none pos) env) Q E s := by
  obtain ⟨nm, q, N, bs, bm, hdct, sn, sub, ab, col, dd, k0, k1, k2, k3, k5, newId, hl, hb⟩ := cls51 w
  rw [arm_exec_Raise]
  refine wpAny_bind (wpAny_standAt (raise_made (C := 51) (nm := nm) (q := q) (N := N) (bs := bs) (bm := bm) (hdct := hdct) (sn := sn) (sub := sub) (ab := ab) (col := col) (dd := dd) (k0 := k0) (k1 := k1) (k2 := k2) (k3 := k3) (k5 := k5) (newId := newId) hb hh ?_))
  refine wpAny_bind (wpAny_mono h (fun v s₁ h₁ => wpAny_bind (wpAny_standAt (wpAny_pure ?_))) fun _ _ x => x)
  obtain ⟨e, oe, vs, rfl, st, he, hc, hd, h1, hE⟩ := h₁
  exact ⟨e, oe, vs, rfl, X.keeps st _ _ hl, he, hc, hd, h1, hE⟩
end
theorem font_use {w : World} {p : Program} {loose : List Str} {mean : ExcName → Option Value} {mg mb : Str → Option Value} {H₀ : Heap} {dp un : Nat} {gd : Option (List Code)} {l : List Env} {s : Shared} {Q E : Value → Shared → Prop} {msg : Str} {t1 : Tok} (C : Cx (Mine.hd.heap_1 w.params) p loose mean mg mb H₀ l s.heap) (h1 : dp ≤ 400) (h2 : un ≤ 400)
    (h : ∀ e h' tk, Flaw s.heap h' e → Q (.ref e) ⟨h', s.gens, s.drawn, tk, s.os⟩) : wpAny (model PySem.Challenge.rw_on0238_01.row.prog w) (AA dp un gd l) (call (.ref 51) [.str msg t1]) Q E s :=
  font_ok w p loose mean mg mb H₀ dp un gd l s Q E msg t1 C h1 h2 h
end
section
open PySem PySem.Spec PySem.Calls PySem.W PyProof.Rows
theorem u16_x : ∀ (w : World) (p : Program) (loose : List Str) (mean : ExcName → Option Value) (mg mb : Str → Option Value) (H₀ : Heap)
  (dp un : Nat) (gd : Option (List Code)) (l : List Env) (s : Shared) (Q E : Value → Shared → Prop) (B : List UInt8) (k : Int) (t1 t2 : Tok),
  Cx (Mine.hd.heap_1 w.params) p loose mean mg mb H₀ l s.heap → (0 ≤ k) → (B.length < k + 2) → (B.length ≤ 100) →
  dp + 2 ≤ 400 → un + 16 ≤ 400 →
  (∀ e h' tk', Thrown l s.heap h' [] e → E (.ref e) {s with heap := h', toks := tk'}) →
  wpAny (model PySem.Challenge.rw_on0238_01.row.prog w) (AA dp un gd l) (call (.ref 125) [.bytes B.toArray t1, .int k t2]) Q E s := by
  k_fill
  w_top off
  intro w p loose mean mg mb H₀ dp un gd l s Q E B k t1 t2 C h0 h1 h2 hd hu hret
  refine wpAny_call ?_
  k_dflt (refine' enterK C [] ?O ?kA ?k6 ?k7 ?k8 ?k9 ?kB ?_ ?c2 ?c3 ?c4 ?c5; (case O => exact List.forall_mem_nil _); (case kA => exact rfl); (case k6 => k_is); (case k7 => k_is); (case k8 => ktr_room); (case k9 => exact BindsTo.of_eq rfl); (case c5 => decide); (case kB => exact locs rfl); (case c2 => exact rfl); (case c3 => exact rfl); (case c4 => exact rfl); k_whole; intro g L' h₁ hL hg F' N' B' X' T'; (try dsimp only); (try k_fold); (try (refine foldL ?_; intro eV aV)))
  (repeat' (first | (k_unfold; (try dsimp only)) | (k_end; wrow_close) | ((with_reducible show wpAny _ _ (call (Value.ref _) _) _ _ _); first | (with_reducible (k_here; (with_reducible show wpAny _ _ (call (Value.ref 51) _) _ _ _); k_dflt (refine' font_use ?C ?a ?b ?_; (case C => exact Cx.next (by assumption) (by assumption) (by assumption) rfl rfl); (case a => ktr_room); (case b => ktr_units); k_whole; intro eq h'q tk'q hFlq)))) | ((with_reducible show wpAny _ _ (exec (Stmt.Raise _ _ _) _) _ _ _); first | (with_reducible (k_here; (with_reducible rename Frag.In _ _ => kX); k_dflt (refine' raise_own kX ?hh ?_; (case hh => exact rfl); k_whole))) | ((k_here; (with_reducible rename Frag.In _ _ => kX); k_dflt (refine' raise_own kX ?hh ?_; (case hh => exact rfl); k_whole)))) | walk1 | (dsimp only; (with_reducible show wpAny _ _ _ _ _ _)) | (leave1; walk_say "STEP leave1"; try dsimp only) | fail "no step"))
  all_goals (with_reducible rename Flaw _ _ _ => hFl)
  all_goals ((with_reducible rename Fr _ _ _ _ => kF); (with_reducible rename News _ _ _ _ => kN); (with_reducible rename Below _ _ _ _ => kB); refine raiseOk_of kF.keep ?f ?_; (case f => exact hFl); (try dsimp only); refine leave_first kB kF rfl rfl hL (kp_of hg kF) ?f fun h'' hT => ?_; (case f => exact hFl); exact hret _ _ _ hT)
theorem part_x : ∀ (w : World) (p : Program) (loose : List Str) (mean : ExcName → Option Value) (mg mb : Str → Option Value) (H₀ : Heap)
  (dp un : Nat) (gd : Option (List Code)) (l : List Env) (s : Shared) (Q E : Value → Shared → Prop) (B : List UInt8) (k : Int) (t1 t2 t3 : Tok),
  Cx (Mine.hd.heap_1 w.params) p loose mean mg mb H₀ l s.heap → (0 ≤ k) → (B.length < k + 1) → (B.length ≤ 100) →
  dp + 2 ≤ 400 → un + 16 ≤ 400 →
  (∀ e h' tk', Thrown l s.heap h' [] e → E (.ref e) {s with heap := h', toks := tk'}) →
  wpAny (model PySem.Challenge.rw_on0238_01.row.prog w) (AA dp un gd l) (call (.ref 146) [.bytes B.toArray t1, .int k t2, .int 1 t3]) Q E s := by
  k_fill
  w_top off
  intro w p loose mean mg mb H₀ dp un gd l s Q E B k t1 t2 t3 C h0 h1 h2 hd hu hret
  refine wpAny_call ?_
  k_dflt (refine' enterK C [] ?O ?kA ?k6 ?k7 ?k8 ?k9 ?kB ?_ ?c2 ?c3 ?c4 ?c5; (case O => exact List.forall_mem_nil _); (case kA => exact rfl); (case k6 => k_is); (case k7 => k_is); (case k8 => ktr_room); (case k9 => exact BindsTo.of_eq rfl); (case c5 => decide); (case kB => exact locs rfl); (case c2 => exact rfl); (case c3 => exact rfl); (case c4 => exact rfl); k_whole; intro g L' h₁ hL hg F' N' B' X' T'; (try dsimp only); (try k_fold); (try (refine foldL ?_; intro eV aV)))
  (repeat' (first | (k_unfold; (try dsimp only)) | (k_end; wrow_close) | ((with_reducible show wpAny _ _ (call (Value.ref _) _) _ _ _); first | (with_reducible (k_here; (with_reducible show wpAny _ _ (call (Value.ref 51) _) _ _ _); k_dflt (refine' font_use ?C ?a ?b ?_; (case C => exact Cx.next (by assumption) (by assumption) (by assumption) rfl rfl); (case a => ktr_room); (case b => ktr_units); k_whole; intro eq h'q tk'q hFlq)))) | ((with_reducible show wpAny _ _ (exec (Stmt.Raise _ _ _) _) _ _ _); first | (with_reducible (k_here; (with_reducible rename Frag.In _ _ => kX); k_dflt (refine' raise_own kX ?hh ?_; (case hh => exact rfl); k_whole))) | ((k_here; (with_reducible rename Frag.In _ _ => kX); k_dflt (refine' raise_own kX ?hh ?_; (case hh => exact rfl); k_whole)))) | walk1 | (dsimp only; (with_reducible show wpAny _ _ _ _ _ _)) | (leave1; walk_say "STEP leave1"; try dsimp only) | fail "no step"))
  all_goals (with_reducible rename Flaw _ _ _ => hFl)
  all_goals ((with_reducible rename Fr _ _ _ _ => kF); (with_reducible rename News _ _ _ _ => kN); (with_reducible rename Below _ _ _ _ => kB); refine raiseOk_of kF.keep ?f ?_; (case f => exact hFl); (try dsimp only); refine leave_first kB kF rfl rfl hL (kp_of hg kF) ?f fun h'' hT => ?_; (case f => exact hFl); exact hret _ _ _ hT)
theorem s16_x : ∀ (w : World) (p : Program) (loose : List Str) (mean : ExcName → Option Value) (mg mb : Str → Option Value) (H₀ : Heap)
  (dp un : Nat) (gd : Option (List Code)) (l : List Env) (s : Shared) (Q E : Value → Shared → Prop) (B : List UInt8) (k : Int) (t1 t2 : Tok),
  Cx (Mine.hd.heap_1 w.params) p loose mean mg mb H₀ l s.heap → (0 ≤ k) → (B.length < k + 2) → (B.length ≤ 100) →
  dp + 3 ≤ 400 → un + 24 ≤ 400 →
  (∀ e h' tk', Thrown l s.heap h' [] e → E (.ref e) {s with heap := h', toks := tk'}) →
  wpAny (model PySem.Challenge.rw_on0238_01.row.prog w) (AA dp un gd l) (call (.ref 132) [.bytes B.toArray t1, .int k t2]) Q E s := by
  k_fill
  w_top off
  intro w p loose mean mg mb H₀ dp un gd l s Q E B k t1 t2 C h0 h1 h2 hd hu hret
  refine wpAny_call ?_
  k_dflt (refine' enterK C [] ?O ?kA ?k6 ?k7 ?k8 ?k9 ?kB ?_ ?c2 ?c3 ?c4 ?c5; (case O => exact List.forall_mem_nil _); (case kA => exact rfl); (case k6 => k_is); (case k7 => k_is); (case k8 => ktr_room); (case k9 => exact BindsTo.of_eq rfl); (case c5 => decide); (case kB => exact locs rfl); (case c2 => exact rfl); (case c3 => exact rfl); (case c4 => exact rfl); k_whole; intro g L' h₁ hL hg F' N' B' X' T'; (try dsimp only); (try k_fold); (try (refine foldL ?_; intro eV aV)))
  (repeat' (first | (k_unfold; (try dsimp only)) | (k_end; wrow_close) | ((with_reducible show wpAny _ _ (call (Value.ref _) _) _ _ _); first | (with_reducible (k_here; (with_reducible show wpAny _ _ (call (Value.ref 125) _) _ _ _); k_dflt ( refine' u16_x _ _ _ _ _ _ _ _ _ _ _ _ _ _ _ _ _ _ ?C ?h0 ?h1 ?h2 ?hd ?hu ?_; (case C => exact Cx.next (by assumption) (by assumption) (by assumption) rfl rfl); (case h0 => omega); (case h1 => omega); (case h2 => assumption); (case hd => ktr_room); (case hu => ktr_units); k_whole; intro eq h'q tk'q hTq)))) | walk1 | (dsimp only; (with_reducible show wpAny _ _ _ _ _ _)) | (leave1; walk_say "STEP leave1"; try dsimp only) | fail "no step"))
  all_goals (with_reducible rename Thrown _ _ _ _ _ => hT)
  all_goals ((with_reducible rename Fr _ _ _ _ => kF); (with_reducible rename News _ _ _ _ => kN); (try dsimp only); refine leave_next (S' := []) rfl rfl hL (kp_of hg kF) ?f ?g fun h'' hT' => hret _ _ _ hT'; (case f => exact hT); (case g => exact fun _ q => nomatch q))
theorem signed_x : ∀ (w : World) (p : Program) (loose : List Str) (mean : ExcName → Option Value) (mg mb : Str → Option Value) (H₀ : Heap)
  (dp un : Nat) (gd : Option (List Code)) (l : List Env) (s : Shared) (Q E : Value → Shared → Prop) (x dx : Addr) (B : List UInt8) (k e1 e2 : Int) (k1 k2 tb tk : Tok),
  Cx (Mine.hd.heap_1 w.params) p loose mean mg mb H₀ l s.heap → (Own H₀ l s.heap x (instObj 191 dx)) → (Own H₀ l s.heap dx (dictOf [⟨e1, .str (Str.ofString "octets") k1, .bytes B.toArray tb⟩, ⟨e2, .str (Str.ofString "at") k2, .int k tk⟩] 2)) → (@Ne Nat x dx) → (0 ≤ k) → (B.length < k + 2) → (B.length ≤ 100) →
  dp + 5 ≤ 400 → un + 32 ≤ 400 →
  (∀ e h' tk', Thrown l s.heap h' [dx] e → E (.ref e) {s with heap := h', toks := tk'}) →
  wpAny (model PySem.Challenge.rw_on0238_01.row.prog w) (AA dp un gd l) (call (.ref 181) [.ref x]) Q E s := by
  k_fill
  w_top off
  intro w p loose mean mg mb H₀ dp un gd l s Q E x dx B k e1 e2 k1 k2 tb tk C Ox Od hne h0 h1 h2 hd hu hret
  refine wpAny_call ?_
  let oq1 : Obj := dictOf [⟨e1, .str (Str.ofString "octets") k1, .bytes B.toArray tb⟩, ⟨e2, .str (Str.ofString "at") k2, .int k tk⟩] 2; k_dflt (refine' enterK C [(x, instObj 191 dx), (dx, oq1)] ?O ?kA ?k6 ?k7 ?k8 ?k9 ?kB ?_ ?c2 ?c3 ?c4 ?c5; (case O => exact (acons (Ox) (List.forall_mem_singleton.mpr Od))); (case kA => exact rfl); (case k6 => k_is); (case k7 => k_is); (case k8 => ktr_room); (case k9 => exact BindsTo.of_eq rfl); (case c5 => decide); (case kB => exact locs rfl); (case c2 => exact rfl); (case c3 => exact rfl); (case c4 => exact rfl); k_whole; intro g L' h₁ hL hg F' N' B' X' T'; (try dsimp only); (try k_fold); (try (refine foldL ?_; intro eV aV)))
  (repeat' (first | (k_unfold; (try dsimp only)) | (k_end; wrow_close) | ((with_reducible show wpAny _ _ (call (Value.ref _) _) _ _ _); first | (with_reducible (k_here; (with_reducible show wpAny _ _ (call (Value.ref 132) _) _ _ _); k_dflt ( refine' s16_x _ _ _ _ _ _ _ _ _ _ _ _ _ _ _ _ _ _ ?C ?h0 ?h1 ?h2 ?hd ?hu ?_; (case C => exact Cx.next (by assumption) (by assumption) (by assumption) rfl rfl); (case h0 => omega); (case h1 => omega); (case h2 => assumption); (case hd => ktr_room); (case hu => ktr_units); k_whole; intro eq h'q tk'q hTq)))) | walk1 | (dsimp only; (with_reducible show wpAny _ _ _ _ _ _)) | (leave1; walk_say "STEP leave1"; try dsimp only) | fail "no step"))
  all_goals (with_reducible rename Thrown _ _ _ _ _ => hT)
  all_goals ((with_reducible rename Fr _ _ _ _ => kF); (with_reducible rename News _ _ _ _ => kN); (try dsimp only); refine leave_next (S' := []) rfl rfl hL (kp_pair hg kF Ox.1 (kN.get (by k_mem))) ?f ?g fun h'' hT' => hret _ _ _ hT'; (case f => exact hT); (case g => exact fun _ q => nomatch q))
theorem word_x : ∀ (w : World) (p : Program) (loose : List Str) (mean : ExcName → Option Value) (mg mb : Str → Option Value) (H₀ : Heap)
  (dp un : Nat) (gd : Option (List Code)) (l : List Env) (s : Shared) (Q E : Value → Shared → Prop) (x dx : Addr) (B : List UInt8) (k e1 e2 : Int) (k1 k2 tb tk : Tok),
  Cx (Mine.hd.heap_1 w.params) p loose mean mg mb H₀ l s.heap → (Own H₀ l s.heap x (instObj 191 dx)) → (Own H₀ l s.heap dx (dictOf [⟨e1, .str (Str.ofString "octets") k1, .bytes B.toArray tb⟩, ⟨e2, .str (Str.ofString "at") k2, .int k tk⟩] 2)) → (@Ne Nat x dx) → (0 ≤ k) → (B.length < k + 2) → (B.length ≤ 100) →
  dp + 5 ≤ 400 → un + 32 ≤ 400 →
  (∀ e h' tk', Thrown l s.heap h' [dx] e → E (.ref e) {s with heap := h', toks := tk'}) →
  wpAny (model PySem.Challenge.rw_on0238_01.row.prog w) (AA dp un gd l) (call (.ref 174) [.ref x]) Q E s := by
  k_fill
  w_top off
  intro w p loose mean mg mb H₀ dp un gd l s Q E x dx B k e1 e2 k1 k2 tb tk C Ox Od hne h0 h1 h2 hd hu hret
  refine wpAny_call ?_
  let oq1 : Obj := dictOf [⟨e1, .str (Str.ofString "octets") k1, .bytes B.toArray tb⟩, ⟨e2, .str (Str.ofString "at") k2, .int k tk⟩] 2; k_dflt (refine' enterK C [(x, instObj 191 dx), (dx, oq1)] ?O ?kA ?k6 ?k7 ?k8 ?k9 ?kB ?_ ?c2 ?c3 ?c4 ?c5; (case O => exact (acons (Ox) (List.forall_mem_singleton.mpr Od))); (case kA => exact rfl); (case k6 => k_is); (case k7 => k_is); (case k8 => ktr_room); (case k9 => exact BindsTo.of_eq rfl); (case c5 => decide); (case kB => exact locs rfl); (case c2 => exact rfl); (case c3 => exact rfl); (case c4 => exact rfl); k_whole; intro g L' h₁ hL hg F' N' B' X' T'; (try dsimp only); (try k_fold); (try (refine foldL ?_; intro eV aV)))
  (repeat' (first | (k_unfold; (try dsimp only)) | (k_end; wrow_close) | ((with_reducible show wpAny _ _ (call (Value.ref _) _) _ _ _); first | (with_reducible (k_here; (with_reducible show wpAny _ _ (call (Value.ref 125) _) _ _ _); k_dflt ( refine' u16_x _ _ _ _ _ _ _ _ _ _ _ _ _ _ _ _ _ _ ?C ?h0 ?h1 ?h2 ?hd ?hu ?_; (case C => exact Cx.next (by assumption) (by assumption) (by assumption) rfl rfl); (case h0 => omega); (case h1 => omega); (case h2 => assumption); (case hd => ktr_room); (case hu => ktr_units); k_whole; intro eq h'q tk'q hTq)))) | walk1 | (dsimp only; (with_reducible show wpAny _ _ _ _ _ _)) | (leave1; walk_say "STEP leave1"; try dsimp only) | fail "no step"))
  all_goals (with_reducible rename Thrown _ _ _ _ _ => hT)
  all_goals ((with_reducible rename Fr _ _ _ _ => kF); (with_reducible rename News _ _ _ _ => kN); (try dsimp only); refine leave_next (S' := []) rfl rfl hL (kp_pair hg kF Ox.1 (kN.get (by k_mem))) ?f ?g fun h'' hT' => hret _ _ _ hT'; (case f => exact hT); (case g => exact fun _ q => nomatch q))
theorem byte_x : ∀ (w : World) (p : Program) (loose : List Str) (mean : ExcName → Option Value) (mg mb : Str → Option Value) (H₀ : Heap)
  (dp un : Nat) (gd : Option (List Code)) (l : List Env) (s : Shared) (Q E : Value → Shared → Prop) (x dx : Addr) (B : List UInt8) (k e1 e2 : Int) (k1 k2 tb tk : Tok),
  Cx (Mine.hd.heap_1 w.params) p loose mean mg mb H₀ l s.heap → (Own H₀ l s.heap x (instObj 191 dx)) → (Own H₀ l s.heap dx (dictOf [⟨e1, .str (Str.ofString "octets") k1, .bytes B.toArray tb⟩, ⟨e2, .str (Str.ofString "at") k2, .int k tk⟩] 2)) → (@Ne Nat x dx) → (0 ≤ k) → (B.length < k + 1) → (B.length ≤ 100) →
  dp + 5 ≤ 400 → un + 32 ≤ 400 →
  (∀ e h' tk', Thrown l s.heap h' [dx] e → E (.ref e) {s with heap := h', toks := tk'}) →
  wpAny (model PySem.Challenge.rw_on0238_01.row.prog w) (AA dp un gd l) (call (.ref 167) [.ref x]) Q E s := by
  k_fill
  w_top off
  intro w p loose mean mg mb H₀ dp un gd l s Q E x dx B k e1 e2 k1 k2 tb tk C Ox Od hne h0 h1 h2 hd hu hret
  refine wpAny_call ?_
  let oq1 : Obj := dictOf [⟨e1, .str (Str.ofString "octets") k1, .bytes B.toArray tb⟩, ⟨e2, .str (Str.ofString "at") k2, .int k tk⟩] 2; k_dflt (refine' enterK C [(x, instObj 191 dx), (dx, oq1)] ?O ?kA ?k6 ?k7 ?k8 ?k9 ?kB ?_ ?c2 ?c3 ?c4 ?c5; (case O => exact (acons (Ox) (List.forall_mem_singleton.mpr Od))); (case kA => exact rfl); (case k6 => k_is); (case k7 => k_is); (case k8 => ktr_room); (case k9 => exact BindsTo.of_eq rfl); (case c5 => decide); (case kB => exact locs rfl); (case c2 => exact rfl); (case c3 => exact rfl); (case c4 => exact rfl); k_whole; intro g L' h₁ hL hg F' N' B' X' T'; (try dsimp only); (try k_fold); (try (refine foldL ?_; intro eV aV)))
  (repeat' (first | (k_unfold; (try dsimp only)) | (k_end; wrow_close) | ((with_reducible show wpAny _ _ (call (Value.ref _) _) _ _ _); first | (with_reducible (k_here; (with_reducible show wpAny _ _ (call (Value.ref 146) _) _ _ _); k_dflt ( refine' part_x _ _ _ _ _ _ _ _ _ _ _ _ _ _ _ _ _ _ _ ?C ?h0 ?h1 ?h2 ?hd ?hu ?_; (case C => exact Cx.next (by assumption) (by assumption) (by assumption) rfl rfl); (case h0 => omega); (case h1 => omega); (case h2 => assumption); (case hd => ktr_room); (case hu => ktr_units); k_whole; intro eq h'q tk'q hTq)))) | walk1 | (dsimp only; (with_reducible show wpAny _ _ _ _ _ _)) | (leave1; walk_say "STEP leave1"; try dsimp only) | fail "no step"))
  all_goals (with_reducible rename Thrown _ _ _ _ _ => hT)
  all_goals ((with_reducible rename Fr _ _ _ _ => kF); (with_reducible rename News _ _ _ _ => kN); (try dsimp only); refine leave_next (S' := []) rfl rfl hL (kp_pair hg kF Ox.1 (kN.get (by k_mem))) ?f ?g fun h'' hT' => hret _ _ _ hT'; (case f => exact hT); (case g => exact fun _ q => nomatch q))
theorem rs128_x : ∀ (w : World) (p : Program) (loose : List Str) (mean : ExcName → Option Value) (mg mb : Str → Option Value) (H₀ : Heap)
  (dp un : Nat) (gd : Option (List Code)) (l : List Env) (s : Shared) (Q E : Value → Shared → Prop) (x dx : Addr) (B : List UInt8) (e1 e2 : Int) (k1 k2 tb tk tf : Tok),
  Cx (Mine.hd.heap_1 w.params) p loose mean mg mb H₀ l s.heap → (Own H₀ l s.heap x (instObj 191 dx)) → (Own H₀ l s.heap dx (dictOf [⟨e1, .str (Str.ofString "octets") k1, .bytes B.toArray tb⟩, ⟨e2, .str (Str.ofString "at") k2, .int 0 tk⟩] 2)) → (@Ne Nat x dx) → (B.length = 7) → (B.length ≤ 100) →
  dp + 7 ≤ 400 → un + 48 ≤ 400 →
  (∀ e h' tk', Thrown l s.heap h' [dx] e → E (.ref e) {s with heap := h', toks := tk'}) →
  wpAny (model PySem.Challenge.rw_on0238_01.row.prog w) (AA dp un gd l) (call (.ref 232) [.ref x, .int 128 tf]) Q E s := by
  k_fill
  w_top off
  intro w p loose mean mg mb H₀ dp un gd l s Q E x dx B e1 e2 k1 k2 tb tk tf C Ox Od hne h1 h2 hd hu hret
  refine wpAny_call ?_
  let oq1 : Obj := dictOf [⟨e1, .str (Str.ofString "octets") k1, .bytes B.toArray tb⟩, ⟨e2, .str (Str.ofString "at") k2, .int 0 tk⟩] 2; k_dflt (refine' enterK C [(x, instObj 191 dx), (dx, oq1)] ?O ?kA ?k6 ?k7 ?k8 ?k9 ?kB ?_ ?c2 ?c3 ?c4 ?c5; (case O => exact (acons (Ox) (List.forall_mem_singleton.mpr Od))); (case kA => exact rfl); (case k6 => k_is); (case k7 => k_is); (case k8 => ktr_room); (case k9 => exact BindsTo.of_eq rfl); (case c5 => decide); (case kB => exact locs rfl); (case c2 => exact rfl); (case c3 => exact rfl); (case c4 => exact rfl); k_whole; intro g L' h₁ hL hg F' N' B' X' T'; (try dsimp only); (try k_fold); (try (refine foldL ?_; intro eV aV)))
  (repeat' (first | (k_unfold; (try dsimp only)) | (k_end; wrow_close) | ((with_reducible show wpAny _ _ (call (Value.ref _) _) _ _ _); first | (with_reducible (k_here; (with_reducible show wpAny _ _ (call (Value.ref 181) _) _ _ _); k_dflt ( refine' signed_ok _ _ _ _ _ _ _ _ _ _ _ _ _ _ _ _ _ _ _ _ _ _ _ _ ?C ?Ox ?Od ?hne ?h0 ?h1 ?h2 ?hd ?hu ?_; (case C => exact Cx.next (by assumption) (by assumption) (by assumption) rfl rfl); (case Ox => exact own_of (by assumption) (by assumption) (by k_mem) rfl); (case Od => exact own_of (by assumption) (by assumption) (by k_mem) rfl); (case hne => omega); (case h0 => omega); (case h1 => omega); (case h2 => assumption); (case hd => ktr_room); (case hu => ktr_units); k_whole; intro rq tq tk₂q h'q tk'q hrq hKq hsq; (with_reducible rename Fr _ _ _ _ => kF); (with_reducible rename News _ _ _ _ => kN); have F'q := fr_kp1 kF kN (by k_mem) hKq; have N'q := news_upd kN hKq (by k_upd) hsq; clear hKq hsq; (try k_sweep); subst hrq))) | (with_reducible (k_here; (with_reducible show wpAny _ _ (call (Value.ref 181) _) _ _ _); k_dflt ( refine' signed_x _ _ _ _ _ _ _ _ _ _ _ _ _ _ _ _ _ _ _ _ _ _ _ _ ?C ?Ox ?Od ?hne ?h0 ?h1 ?h2 ?hd ?hu ?_; (case C => exact Cx.next (by assumption) (by assumption) (by assumption) rfl rfl); (case Ox => exact own_of (by assumption) (by assumption) (by k_mem) rfl); (case Od => exact own_of (by assumption) (by assumption) (by k_mem) rfl); (case hne => omega); (case h0 => omega); (case h1 => omega); (case h2 => assumption); (case hd => ktr_room); (case hu => ktr_units); k_whole; intro eq h'q tk'q hTq)))) | walk1 | (dsimp only; (with_reducible show wpAny _ _ _ _ _ _)) | (leave1; walk_say "STEP leave1"; try dsimp only) | fail "no step"))
  all_goals (with_reducible rename Thrown _ _ _ _ _ => hT)
  all_goals ((with_reducible rename Fr _ _ _ _ => kF); (with_reducible rename News _ _ _ _ => kN); (try dsimp only); refine leave_next (S' := [dx]) rfl rfl hL (kp_pair hg kF Ox.1 (kN.get (by k_mem))) ?f ?g fun h'' hT' => hret _ _ _ hT'; (case f => exact hT); (case g => exact fun _ q => .inl q))
theorem ra0_x : ∀ (w : World) (p : Program) (loose : List Str) (mean : ExcName → Option Value) (mg mb : Str → Option Value) (H₀ : Heap)
  (dp un : Nat) (gd : Option (List Code)) (l : List Env) (s : Shared) (Q E : Value → Shared → Prop) (x dx : Addr) (B : List UInt8) (e1 e2 : Int) (k1 k2 tb tk tf : Tok),
  Cx (Mine.hd.heap_1 w.params) p loose mean mg mb H₀ l s.heap → (Own H₀ l s.heap x (instObj 191 dx)) → (Own H₀ l s.heap dx (dictOf [⟨e1, .str (Str.ofString "octets") k1, .bytes B.toArray tb⟩, ⟨e2, .str (Str.ofString "at") k2, .int 0 tk⟩] 2)) → (@Ne Nat x dx) → (B.length = 1) → (B.length ≤ 100) →
  dp + 7 ≤ 400 → un + 48 ≤ 400 →
  (∀ e h' tk', Thrown l s.heap h' [dx] e → E (.ref e) {s with heap := h', toks := tk'}) →
  wpAny (model PySem.Challenge.rw_on0238_01.row.prog w) (AA dp un gd l) (call (.ref 246) [.ref x, .int 0 tf]) Q E s := by
  k_fill
  w_top off
  intro w p loose mean mg mb H₀ dp un gd l s Q E x dx B e1 e2 k1 k2 tb tk tf C Ox Od hne h1 h2 hd hu hret
  refine wpAny_call ?_
  let oq1 : Obj := dictOf [⟨e1, .str (Str.ofString "octets") k1, .bytes B.toArray tb⟩, ⟨e2, .str (Str.ofString "at") k2, .int 0 tk⟩] 2; k_dflt (refine' enterK C [(x, instObj 191 dx), (dx, oq1)] ?O ?kA ?k6 ?k7 ?k8 ?k9 ?kB ?_ ?c2 ?c3 ?c4 ?c5; (case O => exact (acons (Ox) (List.forall_mem_singleton.mpr Od))); (case kA => exact rfl); (case k6 => k_is); (case k7 => k_is); (case k8 => ktr_room); (case k9 => exact BindsTo.of_eq rfl); (case c5 => decide); (case kB => exact locs rfl); (case c2 => exact rfl); (case c3 => exact rfl); (case c4 => exact rfl); k_whole; intro g L' h₁ hL hg F' N' B' X' T'; (try dsimp only); (try k_fold); (try (refine foldL ?_; intro eV aV)))
  (repeat' (first | (k_unfold; (try dsimp only)) | (k_end; wrow_close) | ((with_reducible show wpAny _ _ (call (Value.ref _) _) _ _ _); first | (with_reducible (k_here; (with_reducible show wpAny _ _ (call (Value.ref 167) _) _ _ _); k_dflt ( refine' byte_ok _ _ _ _ _ _ _ _ _ _ _ _ _ _ _ _ _ _ _ _ _ _ _ _ ?C ?Ox ?Od ?hne ?h0 ?h1 ?h2 ?hd ?hu ?_; (case C => exact Cx.next (by assumption) (by assumption) (by assumption) rfl rfl); (case Ox => exact own_of (by assumption) (by assumption) (by k_mem) rfl); (case Od => exact own_of (by assumption) (by assumption) (by k_mem) rfl); (case hne => omega); (case h0 => omega); (case h1 => omega); (case h2 => assumption); (case hd => ktr_room); (case hu => ktr_units); k_whole; intro rq tq tk₂q h'q tk'q hrq hKq hsq; (with_reducible rename Fr _ _ _ _ => kF); (with_reducible rename News _ _ _ _ => kN); have F'q := fr_kp1 kF kN (by k_mem) hKq; have N'q := news_upd kN hKq (by k_upd) hsq; clear hKq hsq; (try k_sweep); subst hrq))) | (with_reducible (k_here; (with_reducible show wpAny _ _ (call (Value.ref 167) _) _ _ _); k_dflt ( refine' byte_x _ _ _ _ _ _ _ _ _ _ _ _ _ _ _ _ _ _ _ _ _ _ _ _ ?C ?Ox ?Od ?hne ?h0 ?h1 ?h2 ?hd ?hu ?_; (case C => exact Cx.next (by assumption) (by assumption) (by assumption) rfl rfl); (case Ox => exact own_of (by assumption) (by assumption) (by k_mem) rfl); (case Od => exact own_of (by assumption) (by assumption) (by k_mem) rfl); (case hne => omega); (case h0 => omega); (case h1 => omega); (case h2 => assumption); (case hd => ktr_room); (case hu => ktr_units); k_whole; intro eq h'q tk'q hTq)))) | walk1 | (dsimp only; (with_reducible show wpAny _ _ _ _ _ _)) | (leave1; walk_say "STEP leave1"; try dsimp only) | fail "no step"))
  all_goals (with_reducible rename Thrown _ _ _ _ _ => hT)
  all_goals ((with_reducible rename Fr _ _ _ _ => kF); (with_reducible rename News _ _ _ _ => kN); (try dsimp only); refine leave_next (S' := [dx]) rfl rfl hL (kp_pair hg kF Ox.1 (kN.get (by k_mem))) ?f ?g fun h'' hT' => hret _ _ _ hT'; (case f => exact hT); (case g => exact fun _ q => .inl q))
theorem ra1_x : ∀ (w : World) (p : Program) (loose : List Str) (mean : ExcName → Option Value) (mg mb : Str → Option Value) (H₀ : Heap)
  (dp un : Nat) (gd : Option (List Code)) (l : List Env) (s : Shared) (Q E : Value → Shared → Prop) (x dx : Addr) (B : List UInt8) (e1 e2 : Int) (k1 k2 tb tk tf : Tok),
  Cx (Mine.hd.heap_1 w.params) p loose mean mg mb H₀ l s.heap → (Own H₀ l s.heap x (instObj 191 dx)) → (Own H₀ l s.heap dx (dictOf [⟨e1, .str (Str.ofString "octets") k1, .bytes B.toArray tb⟩, ⟨e2, .str (Str.ofString "at") k2, .int 0 tk⟩] 2)) → (@Ne Nat x dx) → (B.length = 3) → (B.length ≤ 100) →
  dp + 7 ≤ 400 → un + 48 ≤ 400 →
  (∀ e h' tk', Thrown l s.heap h' [dx] e → E (.ref e) {s with heap := h', toks := tk'}) →
  wpAny (model PySem.Challenge.rw_on0238_01.row.prog w) (AA dp un gd l) (call (.ref 246) [.ref x, .int 1 tf]) Q E s := by
  k_fill
  w_top off
  intro w p loose mean mg mb H₀ dp un gd l s Q E x dx B e1 e2 k1 k2 tb tk tf C Ox Od hne h1 h2 hd hu hret
  refine wpAny_call ?_
  let oq1 : Obj := dictOf [⟨e1, .str (Str.ofString "octets") k1, .bytes B.toArray tb⟩, ⟨e2, .str (Str.ofString "at") k2, .int 0 tk⟩] 2; k_dflt (refine' enterK C [(x, instObj 191 dx), (dx, oq1)] ?O ?kA ?k6 ?k7 ?k8 ?k9 ?kB ?_ ?c2 ?c3 ?c4 ?c5; (case O => exact (acons (Ox) (List.forall_mem_singleton.mpr Od))); (case kA => exact rfl); (case k6 => k_is); (case k7 => k_is); (case k8 => ktr_room); (case k9 => exact BindsTo.of_eq rfl); (case c5 => decide); (case kB => exact locs rfl); (case c2 => exact rfl); (case c3 => exact rfl); (case c4 => exact rfl); k_whole; intro g L' h₁ hL hg F' N' B' X' T'; (try dsimp only); (try k_fold); (try (refine foldL ?_; intro eV aV)))
  (repeat' (first | (k_unfold; (try dsimp only)) | (k_end; wrow_close) | ((with_reducible show wpAny _ _ (call (Value.ref _) _) _ _ _); first | (with_reducible (k_here; (with_reducible show wpAny _ _ (call (Value.ref 174) _) _ _ _); k_dflt ( refine' word_ok _ _ _ _ _ _ _ _ _ _ _ _ _ _ _ _ _ _ _ _ _ _ _ _ ?C ?Ox ?Od ?hne ?h0 ?h1 ?h2 ?hd ?hu ?_; (case C => exact Cx.next (by assumption) (by assumption) (by assumption) rfl rfl); (case Ox => exact own_of (by assumption) (by assumption) (by k_mem) rfl); (case Od => exact own_of (by assumption) (by assumption) (by k_mem) rfl); (case hne => omega); (case h0 => omega); (case h1 => omega); (case h2 => assumption); (case hd => ktr_room); (case hu => ktr_units); k_whole; intro rq tq tk₂q h'q tk'q hrq hKq hsq; (with_reducible rename Fr _ _ _ _ => kF); (with_reducible rename News _ _ _ _ => kN); have F'q := fr_kp1 kF kN (by k_mem) hKq; have N'q := news_upd kN hKq (by k_upd) hsq; clear hKq hsq; (try k_sweep); subst hrq))) | (with_reducible (k_here; (with_reducible show wpAny _ _ (call (Value.ref 174) _) _ _ _); k_dflt ( refine' word_x _ _ _ _ _ _ _ _ _ _ _ _ _ _ _ _ _ _ _ _ _ _ _ _ ?C ?Ox ?Od ?hne ?h0 ?h1 ?h2 ?hd ?hu ?_; (case C => exact Cx.next (by assumption) (by assumption) (by assumption) rfl rfl); (case Ox => exact own_of (by assumption) (by assumption) (by k_mem) rfl); (case Od => exact own_of (by assumption) (by assumption) (by k_mem) rfl); (case hne => omega); (case h0 => omega); (case h1 => omega); (case h2 => assumption); (case hd => ktr_room); (case hu => ktr_units); k_whole; intro eq h'q tk'q hTq)))) | walk1 | (dsimp only; (with_reducible show wpAny _ _ _ _ _ _)) | (leave1; walk_say "STEP leave1"; try dsimp only) | fail "no step"))
  all_goals (with_reducible rename Thrown _ _ _ _ _ => hT)
  all_goals ((with_reducible rename Fr _ _ _ _ => kF); (with_reducible rename News _ _ _ _ => kN); (try dsimp only); refine leave_next (S' := [dx]) rfl rfl hL (kp_pair hg kF Ox.1 (kN.get (by k_mem))) ?f ?g fun h'' hT' => hret _ _ _ hT'; (case f => exact hT); (case g => exact fun _ q => .inl q))
theorem ra2_x : ∀ (w : World) (p : Program) (loose : List Str) (mean : ExcName → Option Value) (mg mb : Str → Option Value) (H₀ : Heap)
  (dp un : Nat) (gd : Option (List Code)) (l : List Env) (s : Shared) (Q E : Value → Shared → Prop) (x dx : Addr) (B : List UInt8) (e1 e2 : Int) (k1 k2 tb tk tf : Tok),
  Cx (Mine.hd.heap_1 w.params) p loose mean mg mb H₀ l s.heap → (Own H₀ l s.heap x (instObj 191 dx)) → (Own H₀ l s.heap dx (dictOf [⟨e1, .str (Str.ofString "octets") k1, .bytes B.toArray tb⟩, ⟨e2, .str (Str.ofString "at") k2, .int 0 tk⟩] 2)) → (@Ne Nat x dx) → (B.length = 1) → (B.length ≤ 100) →
  dp + 7 ≤ 400 → un + 48 ≤ 400 →
  (∀ e h' tk', Thrown l s.heap h' [dx] e → E (.ref e) {s with heap := h', toks := tk'}) →
  wpAny (model PySem.Challenge.rw_on0238_01.row.prog w) (AA dp un gd l) (call (.ref 246) [.ref x, .int 2 tf]) Q E s := by
  k_fill
  w_top off
  intro w p loose mean mg mb H₀ dp un gd l s Q E x dx B e1 e2 k1 k2 tb tk tf C Ox Od hne h1 h2 hd hu hret
  refine wpAny_call ?_
  let oq1 : Obj := dictOf [⟨e1, .str (Str.ofString "octets") k1, .bytes B.toArray tb⟩, ⟨e2, .str (Str.ofString "at") k2, .int 0 tk⟩] 2; k_dflt (refine' enterK C [(x, instObj 191 dx), (dx, oq1)] ?O ?kA ?k6 ?k7 ?k8 ?k9 ?kB ?_ ?c2 ?c3 ?c4 ?c5; (case O => exact (acons (Ox) (List.forall_mem_singleton.mpr Od))); (case kA => exact rfl); (case k6 => k_is); (case k7 => k_is); (case k8 => ktr_room); (case k9 => exact BindsTo.of_eq rfl); (case c5 => decide); (case kB => exact locs rfl); (case c2 => exact rfl); (case c3 => exact rfl); (case c4 => exact rfl); k_whole; intro g L' h₁ hL hg F' N' B' X' T'; (try dsimp only); (try k_fold); (try (refine foldL ?_; intro eV aV)))
  (repeat' (first | (k_unfold; (try dsimp only)) | (k_end; wrow_close) | ((with_reducible show wpAny _ _ (call (Value.ref _) _) _ _ _); first | (with_reducible (k_here; (with_reducible show wpAny _ _ (call (Value.ref 167) _) _ _ _); k_dflt ( refine' byte_ok _ _ _ _ _ _ _ _ _ _ _ _ _ _ _ _ _ _ _ _ _ _ _ _ ?C ?Ox ?Od ?hne ?h0 ?h1 ?h2 ?hd ?hu ?_; (case C => exact Cx.next (by assumption) (by assumption) (by assumption) rfl rfl); (case Ox => exact own_of (by assumption) (by assumption) (by k_mem) rfl); (case Od => exact own_of (by assumption) (by assumption) (by k_mem) rfl); (case hne => omega); (case h0 => omega); (case h1 => omega); (case h2 => assumption); (case hd => ktr_room); (case hu => ktr_units); k_whole; intro rq tq tk₂q h'q tk'q hrq hKq hsq; (with_reducible rename Fr _ _ _ _ => kF); (with_reducible rename News _ _ _ _ => kN); have F'q := fr_kp1 kF kN (by k_mem) hKq; have N'q := news_upd kN hKq (by k_upd) hsq; clear hKq hsq; (try k_sweep); subst hrq))) | (with_reducible (k_here; (with_reducible show wpAny _ _ (call (Value.ref 167) _) _ _ _); k_dflt ( refine' byte_x _ _ _ _ _ _ _ _ _ _ _ _ _ _ _ _ _ _ _ _ _ _ _ _ ?C ?Ox ?Od ?hne ?h0 ?h1 ?h2 ?hd ?hu ?_; (case C => exact Cx.next (by assumption) (by assumption) (by assumption) rfl rfl); (case Ox => exact own_of (by assumption) (by assumption) (by k_mem) rfl); (case Od => exact own_of (by assumption) (by assumption) (by k_mem) rfl); (case hne => omega); (case h0 => omega); (case h1 => omega); (case h2 => assumption); (case hd => ktr_room); (case hu => ktr_units); k_whole; intro eq h'q tk'q hTq)))) | walk1 | (dsimp only; (with_reducible show wpAny _ _ _ _ _ _)) | (leave1; walk_say "STEP leave1"; try dsimp only) | fail "no step"))
  all_goals (with_reducible rename Thrown _ _ _ _ _ => hT)
  all_goals ((with_reducible rename Fr _ _ _ _ => kF); (with_reducible rename News _ _ _ _ => kN); (try dsimp only); refine leave_next (S' := [dx]) rfl rfl hL (kp_pair hg kF Ox.1 (kN.get (by k_mem))) ?f ?g fun h'' hT' => hret _ _ _ hT'; (case f => exact hT); (case g => exact fun _ q => .inl q))
theorem ra3_x : ∀ (w : World) (p : Program) (loose : List Str) (mean : ExcName → Option Value) (mg mb : Str → Option Value) (H₀ : Heap)
  (dp un : Nat) (gd : Option (List Code)) (l : List Env) (s : Shared) (Q E : Value → Shared → Prop) (x dx : Addr) (B : List UInt8) (e1 e2 : Int) (k1 k2 tb tk tf : Tok),
  Cx (Mine.hd.heap_1 w.params) p loose mean mg mb H₀ l s.heap → (Own H₀ l s.heap x (instObj 191 dx)) → (Own H₀ l s.heap dx (dictOf [⟨e1, .str (Str.ofString "octets") k1, .bytes B.toArray tb⟩, ⟨e2, .str (Str.ofString "at") k2, .int 0 tk⟩] 2)) → (@Ne Nat x dx) → (B.length = 3) → (B.length ≤ 100) →
  dp + 7 ≤ 400 → un + 48 ≤ 400 →
  (∀ e h' tk', Thrown l s.heap h' [dx] e → E (.ref e) {s with heap := h', toks := tk'}) →
  wpAny (model PySem.Challenge.rw_on0238_01.row.prog w) (AA dp un gd l) (call (.ref 246) [.ref x, .int 3 tf]) Q E s := by
  k_fill
  w_top off
  intro w p loose mean mg mb H₀ dp un gd l s Q E x dx B e1 e2 k1 k2 tb tk tf C Ox Od hne h1 h2 hd hu hret
  refine wpAny_call ?_
  let oq1 : Obj := dictOf [⟨e1, .str (Str.ofString "octets") k1, .bytes B.toArray tb⟩, ⟨e2, .str (Str.ofString "at") k2, .int 0 tk⟩] 2; k_dflt (refine' enterK C [(x, instObj 191 dx), (dx, oq1)] ?O ?kA ?k6 ?k7 ?k8 ?k9 ?kB ?_ ?c2 ?c3 ?c4 ?c5; (case O => exact (acons (Ox) (List.forall_mem_singleton.mpr Od))); (case kA => exact rfl); (case k6 => k_is); (case k7 => k_is); (case k8 => ktr_room); (case k9 => exact BindsTo.of_eq rfl); (case c5 => decide); (case kB => exact locs rfl); (case c2 => exact rfl); (case c3 => exact rfl); (case c4 => exact rfl); k_whole; intro g L' h₁ hL hg F' N' B' X' T'; (try dsimp only); (try k_fold); (try (refine foldL ?_; intro eV aV)))
  (repeat' (first | (k_unfold; (try dsimp only)) | (k_end; wrow_close) | ((with_reducible show wpAny _ _ (call (Value.ref _) _) _ _ _); first | (with_reducible (k_here; (with_reducible show wpAny _ _ (call (Value.ref 181) _) _ _ _); k_dflt ( refine' signed_ok _ _ _ _ _ _ _ _ _ _ _ _ _ _ _ _ _ _ _ _ _ _ _ _ ?C ?Ox ?Od ?hne ?h0 ?h1 ?h2 ?hd ?hu ?_; (case C => exact Cx.next (by assumption) (by assumption) (by assumption) rfl rfl); (case Ox => exact own_of (by assumption) (by assumption) (by k_mem) rfl); (case Od => exact own_of (by assumption) (by assumption) (by k_mem) rfl); (case hne => omega); (case h0 => omega); (case h1 => omega); (case h2 => assumption); (case hd => ktr_room); (case hu => ktr_units); k_whole; intro rq tq tk₂q h'q tk'q hrq hKq hsq; (with_reducible rename Fr _ _ _ _ => kF); (with_reducible rename News _ _ _ _ => kN); have F'q := fr_kp1 kF kN (by k_mem) hKq; have N'q := news_upd kN hKq (by k_upd) hsq; clear hKq hsq; (try k_sweep); subst hrq))) | (with_reducible (k_here; (with_reducible show wpAny _ _ (call (Value.ref 181) _) _ _ _); k_dflt ( refine' signed_x _ _ _ _ _ _ _ _ _ _ _ _ _ _ _ _ _ _ _ _ _ _ _ _ ?C ?Ox ?Od ?hne ?h0 ?h1 ?h2 ?hd ?hu ?_; (case C => exact Cx.next (by assumption) (by assumption) (by assumption) rfl rfl); (case Ox => exact own_of (by assumption) (by assumption) (by k_mem) rfl); (case Od => exact own_of (by assumption) (by assumption) (by k_mem) rfl); (case hne => omega); (case h0 => omega); (case h1 => omega); (case h2 => assumption); (case hd => ktr_room); (case hu => ktr_units); k_whole; intro eq h'q tk'q hTq)))) | walk1 | (dsimp only; (with_reducible show wpAny _ _ _ _ _ _)) | (leave1; walk_say "STEP leave1"; try dsimp only) | fail "no step"))
  all_goals (with_reducible rename Thrown _ _ _ _ _ => hT)
  all_goals ((with_reducible rename Fr _ _ _ _ => kF); (with_reducible rename News _ _ _ _ => kN); (try dsimp only); refine leave_next (S' := [dx]) rfl rfl hL (kp_pair hg kF Ox.1 (kN.get (by k_mem))) ?f ?g fun h'' hT' => hret _ _ _ hT'; (case f => exact hT); (case g => exact fun _ q => .inl q))
end
section
open PySem PySem.Spec PySem.Calls PySem.W PyProof.Rows
theorem u8 (x : Int) : (((x.fmod 256).toNat.toUInt8).toNat : Int) = x.fmod 256 := by
  rw [Int.fmod_eq_emod_of_nonneg _ (by decide)]
  have h : (((x % 256).toNat.toUInt8).toNat) = (x % 256).toNat % 256 := rfl
  rw [h]
  omega
theorem two_len (x : Int) : (two x).length = 2 := rfl
theorem be_two (x : Int) (R : List UInt8) : be (two x ++ R) 0 = (x.fdiv 256).fmod 256 * 256 + x.fmod 256 := by
  show ((((((x.fdiv 256).fmod 256).toNat.toUInt8).toNat : Nat) : Int)) * 256 + (((x.fmod 256).toNat.toUInt8).toNat : Int) = _
  rw [u8, u8]
theorem be_u {x : Int} (h0 : 0 ≤ x) (h1 : x < 65536) (R : List UInt8) : be (two x ++ R) 0 = x := by
  rw [be_two, Int.fmod_eq_emod_of_nonneg _ (by decide), Int.fmod_eq_emod_of_nonneg _ (by decide), Int.fdiv_eq_ediv_of_nonneg _ (by decide)]
  omega
theorem be_s {x : Int} (h0 : -32768 ≤ x) (h1 : x < 32768) (R : List UInt8) : sg (be (two x ++ R) 0) = x := by
  rw [be_two, Int.fmod_eq_emod_of_nonneg _ (by decide), Int.fmod_eq_emod_of_nonneg _ (by decide), Int.fdiv_eq_ediv_of_nonneg _ (by decide)]
  unfold sg
  split <;> omega
theorem be_skip (x : Int) (R : List UInt8) (k : Nat) : be (two x ++ R) ((k + 2 : Nat) : Int) = be R (k : Nat) := by
  unfold be
  have e1 : ((k + 2 : Nat) : Int).toNat = k + 2 := rfl
  have e2 : (((k + 2 : Nat) : Int) + 1).toNat = k + 1 + 2 := by omega
  have e3 : ((k : Nat) : Int).toNat = k := rfl
  have e4 : (((k : Nat) : Int) + 1).toNat = k + 1 := by omega
  rw [e1, e2, e3, e4]
  rfl
theorem be_2 (x : Int) (R : List UInt8) : be (two x ++ R) 2 = be R 0 := be_skip x R 0
theorem be_4 (x y : Int) (R : List UInt8) : be (two x ++ (two y ++ R)) 4 = be R 0 := (be_skip x _ 2).trans (be_skip y R 0)
theorem be_6 (x y z : Int) (R : List UInt8) : be (two x ++ (two y ++ (two z ++ R))) 6 = be R 0 := (be_skip x _ 4).trans ((be_skip y _ 2).trans (be_skip z R 0))
theorem one_u {x : Int} (h0 : 0 ≤ x) (h1 : x < 256) : (((x.fmod 256).toNat.toUInt8).toNat : Int) = x := by
  rw [u8, Int.fmod_eq_emod_of_nonneg _ (by decide)]
  omega
theorem one_s {x : Int} (h0 : -128 ≤ x) (h1 : x < 128) : (if 128 ≤ (((x.fmod 256).toNat.toUInt8).toNat : Int) then (((x.fmod 256).toNat.toUInt8).toNat : Int) - 256 else (((x.fmod 256).toNat.toUInt8).toNat : Int)) = x := by
  rw [u8, Int.fmod_eq_emod_of_nonneg _ (by decide)]
  split <;> omega
theorem round_led (N : Int) : (N + 8192).fdiv 16384 = (2 * N + 16384).fdiv 32768 := by
  rw [Int.fdiv_eq_ediv_of_nonneg _ (by decide), Int.fdiv_eq_ediv_of_nonneg _ (by decide)]
  omega
end
section
open PySem PySem.Spec PySem.Calls PySem.W PyProof.Rows

def Rg (mv : Bool) (f n : Int) : Prop := if mv = true then (-32768 ≤ f ∧ f < 32768) ∧ -32768 ≤ n ∧ n < 32768 else (0 ≤ f ∧ f < 65536) ∧ 0 ≤ n ∧ n < 65536
theorem cg2 {α β γ : Type} (f : α → β → γ) {a a' : α} {b b' : β} (h : a = a') (k : b = b') : f a b = f a' b' := by rw [h, k]
theorem two_toList (x : Int) : two x = [((x.fdiv 256).fmod 256).toNat.toUInt8, (x.fmod 256).toNat.toUInt8] := rfl
theorem arB_len (mv : Bool) (f n : Int) : (arB mv f n).length ≤ 4 ∧ 2 ≤ (arB mv f n).length := by
  unfold arB; split <;> exact ⟨(Nat.le_of_ble_eq_true rfl), (Nat.le_of_ble_eq_true rfl)⟩
theorem scB_len (a b c d : Int) : (scB a b c d).length ≤ 8 := by
  unfold scB; (repeat' split) <;> exact (Nat.le_of_ble_eq_true rfl)
theorem ra_ok : ∀ (w : World) (p : Program) (loose : List Str) (mean : ExcName → Option Value) (mg mb : Str → Option Value) (H₀ : Heap)
  (dp un : Nat) (gd : Option (List Code)) (l : List Env) (s : Shared) (Q E : Value → Shared → Prop) (x dx : Addr) (W : Array UInt8) (fl : Int) (mv : Bool) (f n : Int) (T : List UInt8) (e1 e2 : Int) (k1 k2 tb tk tf : Tok),
  Cx (Mine.hd.heap_1 w.params) p loose mean mg mb H₀ l s.heap → (Own H₀ l s.heap x (instObj 191 dx)) → (Own H₀ l s.heap dx (dictOf [⟨e1, .str (Str.ofString "octets") k1, .bytes W tb⟩, ⟨e2, .str (Str.ofString "at") k2, .int 0 tk⟩] 2)) → (@Ne Nat x dx) → (fl = arF mv f n) → (W = (arB mv f n ++ T).toArray) → (T.length ≤ 10) → (Rg mv f n) →
  dp + 6 ≤ 400 → un + 40 ≤ 400 →
  (∀ r ta tb' tk₂ h' tk', s.heap.get? r = none → Kp s.heap h' [dx] → h'.get? dx = some (dictOf [⟨e1, .str (Str.ofString "octets") k1, .bytes W tb⟩, ⟨e2, .str (Str.ofString "at") k2, .int ((arB mv f n).length : Nat) tk₂⟩] 2) → h'.get? r = some (tup [.int (f) ta, .int (n) tb']) → Q (.ref r) {s with heap := h', toks := tk'}) →
  wpAny (model PySem.Challenge.rw_on0238_01.row.prog w) (AA dp un gd l) (call (.ref 246) [.ref x, .int fl tf]) Q E s := by
  intro w p loose mean mg mb H₀ dp un gd l s Q E x dx W fl mv f n T e1 e2 k1 k2 tb tk tf C Ox Od hne hfl hW hT hr hd hu hret
  subst hW hfl
  have hl := (arB_len mv f n).1
  have hl2 : (arB mv f n ++ T).length ≤ 100 := by rw [List.length_append]; omega
  cases mv with
  | true =>
    have hr' : (-32768 ≤ f ∧ f < 32768) ∧ -32768 ≤ n ∧ n < 32768 := hr
    by_cases h : arS true f n
    · have h' : -128 ≤ f ∧ f < 128 ∧ -128 ≤ n ∧ n < 128 := h
      have e1' : arF true f n = 2 := by unfold arF; rw [if_pos rfl, if_pos h']
      have e2' : arB true f n = [(f.fmod 256).toNat.toUInt8, (n.fmod 256).toNat.toUInt8] := by unfold arB; rw [if_pos h]
      rw [e2'] at Od hret hl2
      rw [e1']
      refine ra2_ok w p loose mean mg mb H₀ dp un gd l s Q E x dx _ e1 e2 k1 k2 tb tk tf C Ox Od hne (by simp) hl2 hd hu fun r ta tb' tk₂ h₁ tk' a b c d => ?_
      refine hret r ta tb' tk₂ h₁ tk' a b c ?_
      rw [d]
      exact congrArg some (cg2 (fun u v => tup [.int u ta, .int v tb']) (one_s h'.1 h'.2.1) (one_s h'.2.2.1 h'.2.2.2))
    · have e1' : arF true f n = 3 := by unfold arF; rw [if_pos rfl, if_neg (by exact h)]
      have e2' : arB true f n = two f ++ two n := by unfold arB; rw [if_neg h]
      rw [e2'] at Od hret hl2
      rw [e1']
      refine ra3_ok w p loose mean mg mb H₀ dp un gd l s Q E x dx _ e1 e2 k1 k2 tb tk tf C Ox Od hne (by simp [two_len]; omega) hl2 hd hu fun r ta tb' tk₂ h₁ tk' a b c d => ?_
      refine hret r ta tb' tk₂ h₁ tk' a b c ?_
      rw [d]
      rw [List.append_assoc, be_s hr'.1.1 hr'.1.2, be_2, be_s hr'.2.1 hr'.2.2]
  | false =>
    have hr' : (0 ≤ f ∧ f < 65536) ∧ 0 ≤ n ∧ n < 65536 := hr
    by_cases h : arS false f n
    · have h' : 0 ≤ f ∧ f < 256 ∧ 0 ≤ n ∧ n < 256 := h
      have e1' : arF false f n = 0 := by unfold arF; rw [if_neg (by decide), if_pos h']
      have e2' : arB false f n = [(f.fmod 256).toNat.toUInt8, (n.fmod 256).toNat.toUInt8] := by unfold arB; rw [if_pos h]
      rw [e2'] at Od hret hl2
      rw [e1']
      refine ra0_ok w p loose mean mg mb H₀ dp un gd l s Q E x dx _ e1 e2 k1 k2 tb tk tf C Ox Od hne (by simp) hl2 hd hu fun r ta tb' tk₂ h₁ tk' a b c d => ?_
      refine hret r ta tb' tk₂ h₁ tk' a b c ?_
      rw [d]
      exact congrArg some (cg2 (fun u v => tup [.int u ta, .int v tb']) (one_u h'.1 h'.2.1) (one_u h'.2.2.1 h'.2.2.2))
    · have e1' : arF false f n = 1 := by unfold arF; rw [if_neg (by decide), if_neg (by exact h)]
      have e2' : arB false f n = two f ++ two n := by unfold arB; rw [if_neg h]
      rw [e2'] at Od hret hl2
      rw [e1']
      refine ra1_ok w p loose mean mg mb H₀ dp un gd l s Q E x dx _ e1 e2 k1 k2 tb tk tf C Ox Od hne (by simp [two_len]; omega) hl2 hd hu fun r ta tb' tk₂ h₁ tk' a b c d => ?_
      refine hret r ta tb' tk₂ h₁ tk' a b c ?_
      rw [d]
      rw [List.append_assoc, be_u hr'.1.1 hr'.1.2, be_2, be_u hr'.2.1 hr'.2.2]
theorem ral_ok : ∀ (w : World) (p : Program) (loose : List Str) (mean : ExcName → Option Value) (mg mb : Str → Option Value) (H₀ : Heap)
  (dp un : Nat) (gd : Option (List Code)) (l : List Env) (s : Shared) (Q E : Value → Shared → Prop) (x dx : Addr) (W : Array UInt8) (fl : Int) (mv : Bool) (f n : Int) (e1 e2 : Int) (k1 k2 tb tk tf : Tok),
  Cx (Mine.hd.heap_1 w.params) p loose mean mg mb H₀ l s.heap → (Own H₀ l s.heap x (instObj 191 dx)) → (Own H₀ l s.heap dx (dictOf [⟨e1, .str (Str.ofString "octets") k1, .bytes W tb⟩, ⟨e2, .str (Str.ofString "at") k2, .int 0 tk⟩] 2)) → (@Ne Nat x dx) → (fl = if mv = true then 3 else 1) → (W = (two f ++ two n).toArray) → (Rg mv f n) →
  dp + 6 ≤ 400 → un + 40 ≤ 400 →
  (∀ r ta tb' tk₂ h' tk', s.heap.get? r = none → Kp s.heap h' [dx] → h'.get? dx = some (dictOf [⟨e1, .str (Str.ofString "octets") k1, .bytes W tb⟩, ⟨e2, .str (Str.ofString "at") k2, .int 4 tk₂⟩] 2) → h'.get? r = some (tup [.int (f) ta, .int (n) tb']) → Q (.ref r) {s with heap := h', toks := tk'}) →
  wpAny (model PySem.Challenge.rw_on0238_01.row.prog w) (AA dp un gd l) (call (.ref 246) [.ref x, .int fl tf]) Q E s := by
  intro w p loose mean mg mb H₀ dp un gd l s Q E x dx W fl mv f n e1 e2 k1 k2 tb tk tf C Ox Od hne hfl hW hr hd hu hret
  subst hW hfl
  cases mv with
  | true =>
    have hr' : (-32768 ≤ f ∧ f < 32768) ∧ -32768 ≤ n ∧ n < 32768 := hr
    refine ra3_ok w p loose mean mg mb H₀ dp un gd l s Q E x dx _ e1 e2 k1 k2 tb tk tf C Ox Od hne (Nat.le_of_ble_eq_true rfl) (Nat.le_of_ble_eq_true rfl) hd hu fun r ta tb' tk₂ h₁ tk' a b c d => ?_
    refine hret r ta tb' tk₂ h₁ tk' a b c ?_
    rw [d, be_s hr'.1.1 hr'.1.2, be_2, ← List.append_nil (two n), be_s hr'.2.1 hr'.2.2]
  | false =>
    have hr' : (0 ≤ f ∧ f < 65536) ∧ 0 ≤ n ∧ n < 65536 := hr
    refine ra1_ok w p loose mean mg mb H₀ dp un gd l s Q E x dx _ e1 e2 k1 k2 tb tk tf C Ox Od hne (Nat.le_of_ble_eq_true rfl) (Nat.le_of_ble_eq_true rfl) hd hu fun r ta tb' tk₂ h₁ tk' a b c d => ?_
    refine hret r ta tb' tk₂ h₁ tk' a b c ?_
    rw [d, be_u hr'.1.1 hr'.1.2, be_2, ← List.append_nil (two n), be_u hr'.2.1 hr'.2.2]
theorem ra_x : ∀ (w : World) (p : Program) (loose : List Str) (mean : ExcName → Option Value) (mg mb : Str → Option Value) (H₀ : Heap)
  (dp un : Nat) (gd : Option (List Code)) (l : List Env) (s : Shared) (Q E : Value → Shared → Prop) (x dx : Addr) (W : Array UInt8) (fl : Int) (mv : Bool) (f n : Int) (e1 e2 : Int) (k1 k2 tb tk tf : Tok),
  Cx (Mine.hd.heap_1 w.params) p loose mean mg mb H₀ l s.heap → (Own H₀ l s.heap x (instObj 191 dx)) → (Own H₀ l s.heap dx (dictOf [⟨e1, .str (Str.ofString "octets") k1, .bytes W tb⟩, ⟨e2, .str (Str.ofString "at") k2, .int 0 tk⟩] 2)) → (@Ne Nat x dx) → (W = ((arB mv f n).take ((arB mv f n).length - 1)).toArray) → (fl = arF mv f n) →
  dp + 7 ≤ 400 → un + 48 ≤ 400 →
  (∀ e h' tk', Thrown l s.heap h' [dx] e → E (.ref e) {s with heap := h', toks := tk'}) →
  wpAny (model PySem.Challenge.rw_on0238_01.row.prog w) (AA dp un gd l) (call (.ref 246) [.ref x, .int fl tf]) Q E s := by
  intro w p loose mean mg mb H₀ dp un gd l s Q E x dx W fl mv f n e1 e2 k1 k2 tb tk tf C Ox Od hne hW hfl hd hu hret
  subst hW hfl
  cases mv with
  | true =>
    by_cases h : arS true f n
    · have h' : -128 ≤ f ∧ f < 128 ∧ -128 ≤ n ∧ n < 128 := h
      have e1' : arF true f n = 2 := by unfold arF; rw [if_pos rfl, if_pos h']
      have e2' : arB true f n = [(f.fmod 256).toNat.toUInt8, (n.fmod 256).toNat.toUInt8] := by unfold arB; rw [if_pos h]
      rw [e2'] at Od
      rw [e1']
      exact ra2_x w p loose mean mg mb H₀ dp un gd l s Q E x dx _ e1 e2 k1 k2 tb tk tf C Ox Od hne rfl (Nat.le_of_ble_eq_true rfl) hd hu hret
    · have e1' : arF true f n = 3 := by unfold arF; rw [if_pos rfl, if_neg (by exact h)]
      have e2' : arB true f n = two f ++ two n := by unfold arB; rw [if_neg h]
      rw [e2'] at Od
      rw [e1']
      exact ra3_x w p loose mean mg mb H₀ dp un gd l s Q E x dx _ e1 e2 k1 k2 tb tk tf C Ox Od hne rfl (Nat.le_of_ble_eq_true rfl) hd hu hret
  | false =>
    by_cases h : arS false f n
    · have h' : 0 ≤ f ∧ f < 256 ∧ 0 ≤ n ∧ n < 256 := h
      have e1' : arF false f n = 0 := by unfold arF; rw [if_neg (by decide), if_pos h']
      have e2' : arB false f n = [(f.fmod 256).toNat.toUInt8, (n.fmod 256).toNat.toUInt8] := by unfold arB; rw [if_pos h]
      rw [e2'] at Od
      rw [e1']
      exact ra0_x w p loose mean mg mb H₀ dp un gd l s Q E x dx _ e1 e2 k1 k2 tb tk tf C Ox Od hne rfl (Nat.le_of_ble_eq_true rfl) hd hu hret
    · have e1' : arF false f n = 1 := by unfold arF; rw [if_neg (by decide), if_neg (by exact h)]
      have e2' : arB false f n = two f ++ two n := by unfold arB; rw [if_neg h]
      rw [e2'] at Od
      rw [e1']
      exact ra1_x w p loose mean mg mb H₀ dp un gd l s Q E x dx _ e1 e2 k1 k2 tb tk tf C Ox Od hne rfl (Nat.le_of_ble_eq_true rfl) hd hu hret
theorem rs_ok : ∀ (w : World) (p : Program) (loose : List Str) (mean : ExcName → Option Value) (mg mb : Str → Option Value) (H₀ : Heap)
  (dp un : Nat) (gd : Option (List Code)) (l : List Env) (s : Shared) (Q E : Value → Shared → Prop) (x dx : Addr) (W : Array UInt8) (fl : Int) (a b c d : Int) (T : List UInt8) (e1 e2 : Int) (k1 k2 tb tk tf : Tok),
  Cx (Mine.hd.heap_1 w.params) p loose mean mg mb H₀ l s.heap → (Own H₀ l s.heap x (instObj 191 dx)) → (Own H₀ l s.heap dx (dictOf [⟨e1, .str (Str.ofString "octets") k1, .bytes W tb⟩, ⟨e2, .str (Str.ofString "at") k2, .int 0 tk⟩] 2)) → (@Ne Nat x dx) → (fl = scF a b c d) → (W = (scB a b c d ++ T).toArray) → (T.length ≤ 10) → (∀ q ∈ [a, b, c, d], -32768 ≤ q ∧ q < 32768) →
  dp + 6 ≤ 400 → un + 40 ≤ 400 →
  (∀ r ta tb' tc td tk₂ h' tk', s.heap.get? r = none → Kp s.heap h' [dx] → h'.get? dx = some (dictOf [⟨e1, .str (Str.ofString "octets") k1, .bytes W tb⟩, ⟨e2, .str (Str.ofString "at") k2, .int ((scB a b c d).length : Nat) tk₂⟩] 2) → h'.get? r = some (tup [.int (a) ta, .int (b) tb', .int (c) tc, .int (d) td]) → Q (.ref r) {s with heap := h', toks := tk'}) →
  wpAny (model PySem.Challenge.rw_on0238_01.row.prog w) (AA dp un gd l) (call (.ref 232) [.ref x, .int fl tf]) Q E s := by
  intro w p loose mean mg mb H₀ dp un gd l s Q E x dx W fl a b c d T e1 e2 k1 k2 tb tk tf C Ox Od hne hfl hW hT hr hd hu hret
  subst hW hfl
  have ha := hr a (by simp)
  have hb := hr b (by simp)
  have hc := hr c (by simp)
  have hdd := hr d (by simp)
  have hl := scB_len a b c d
  have hl2 : (scB a b c d ++ T).length ≤ 100 := by rw [List.length_append]; omega
  by_cases h1 : (a == 16384 && (b == 0 && (c == 0 && d == 16384))) = true
  · have e1' : scF a b c d = 0 := by unfold scF; rw [if_pos h1]
    have e2' : scB a b c d = [] := by unfold scB; rw [if_pos h1]
    simp only [Bool.and_eq_true, beq_iff_eq] at h1
    obtain ⟨rfl, rfl, rfl, rfl⟩ := h1
    rw [e2'] at Od hret hl2
    rw [e1']
    exact rs0_ok w p loose mean mg mb H₀ dp un gd l s Q E x dx _ e1 e2 k1 k2 tb tk tf C Ox Od hne (Nat.zero_le _) hl2 hd hu hret
  · by_cases h2 : (b == 0 && c == 0) = true
    · by_cases h3 : a = d
      · have e1' : scF a b c d = 8 := by unfold scF; rw [if_neg h1, if_pos h2, if_pos h3]
        have e2' : scB a b c d = two a := by unfold scB; rw [if_neg h1, if_pos h2, if_pos h3]
        simp only [Bool.and_eq_true, beq_iff_eq] at h2
        obtain ⟨rfl, rfl⟩ := h2
        subst h3
        rw [e2'] at Od hret hl2
        rw [e1']
        refine rs8_ok w p loose mean mg mb H₀ dp un gd l s Q E x dx _ e1 e2 k1 k2 tb tk tf C Ox Od hne (by simp [two_len]) hl2 hd hu fun r ta tb' tc td tk₂ h₁ tk' q1 q2 q3 q4 => ?_
        refine hret r ta tb' tc td tk₂ h₁ tk' q1 q2 q3 ?_
        rw [q4, be_s ha.1 ha.2]
      · have e1' : scF a b c d = 64 := by unfold scF; rw [if_neg h1, if_pos h2, if_neg h3]
        have e2' : scB a b c d = two a ++ two d := by unfold scB; rw [if_neg h1, if_pos h2, if_neg h3]
        simp only [Bool.and_eq_true, beq_iff_eq] at h2
        obtain ⟨rfl, rfl⟩ := h2
        rw [e2'] at Od hret hl2
        rw [e1']
        refine rs64_ok w p loose mean mg mb H₀ dp un gd l s Q E x dx _ e1 e2 k1 k2 tb tk tf C Ox Od hne (by simp [two_len]; omega) hl2 hd hu fun r ta tb' tc td tk₂ h₁ tk' q1 q2 q3 q4 => ?_
        refine hret r ta tb' tc td tk₂ h₁ tk' q1 q2 q3 ?_
        rw [q4, List.append_assoc, be_s ha.1 ha.2, be_2, be_s hdd.1 hdd.2]
    · have e1' : scF a b c d = 128 := by unfold scF; rw [if_neg h1, if_neg h2]
      have e2' : scB a b c d = two a ++ two b ++ two c ++ two d := by unfold scB; rw [if_neg h1, if_neg h2]
      rw [e2'] at Od hret hl2
      rw [e1']
      refine rs128_ok w p loose mean mg mb H₀ dp un gd l s Q E x dx _ e1 e2 k1 k2 tb tk tf C Ox Od hne (by simp [two_len]; omega) hl2 hd hu fun r ta tb' tc td tk₂ h₁ tk' q1 q2 q3 q4 => ?_
      refine hret r ta tb' tc td tk₂ h₁ tk' q1 q2 q3 ?_
      rw [q4]
      simp only [List.append_assoc]
      rw [be_s ha.1 ha.2, be_2, be_s hb.1 hb.2, be_4, be_s hc.1 hc.2, be_6, be_s hdd.1 hdd.2]
theorem rsw_ok : ∀ (w : World) (p : Program) (loose : List Str) (mean : ExcName → Option Value) (mg mb : Str → Option Value) (H₀ : Heap)
  (dp un : Nat) (gd : Option (List Code)) (l : List Env) (s : Shared) (Q E : Value → Shared → Prop) (x dx : Addr) (W : Array UInt8) (a b c d : Int) (e1 e2 : Int) (k1 k2 tb tk tf : Tok),
  Cx (Mine.hd.heap_1 w.params) p loose mean mg mb H₀ l s.heap → (Own H₀ l s.heap x (instObj 191 dx)) → (Own H₀ l s.heap dx (dictOf [⟨e1, .str (Str.ofString "octets") k1, .bytes W tb⟩, ⟨e2, .str (Str.ofString "at") k2, .int 0 tk⟩] 2)) → (@Ne Nat x dx) → (W = (two a ++ two b ++ two c ++ two d).toArray) → (∀ q ∈ [a, b, c, d], -32768 ≤ q ∧ q < 32768) →
  dp + 6 ≤ 400 → un + 40 ≤ 400 →
  (∀ r ta tb' tc td tk₂ h' tk', s.heap.get? r = none → Kp s.heap h' [dx] → h'.get? dx = some (dictOf [⟨e1, .str (Str.ofString "octets") k1, .bytes W tb⟩, ⟨e2, .str (Str.ofString "at") k2, .int 8 tk₂⟩] 2) → h'.get? r = some (tup [.int (a) ta, .int (b) tb', .int (c) tc, .int (d) td]) → Q (.ref r) {s with heap := h', toks := tk'}) →
  wpAny (model PySem.Challenge.rw_on0238_01.row.prog w) (AA dp un gd l) (call (.ref 232) [.ref x, .int 128 tf]) Q E s := by
  intro w p loose mean mg mb H₀ dp un gd l s Q E x dx W a b c d e1 e2 k1 k2 tb tk tf C Ox Od hne hW hr hd hu hret
  subst hW
  have ha := hr a (by simp)
  have hb := hr b (by simp)
  have hc := hr c (by simp)
  have hdd := hr d (by simp)
  refine rs128_ok w p loose mean mg mb H₀ dp un gd l s Q E x dx _ e1 e2 k1 k2 tb tk tf C Ox Od hne (Nat.le_of_ble_eq_true rfl) (Nat.le_of_ble_eq_true rfl) hd hu fun r ta tb' tc td tk₂ h₁ tk' q1 q2 q3 q4 => ?_
  refine hret r ta tb' tc td tk₂ h₁ tk' q1 q2 q3 ?_
  rw [q4]
  simp only [List.append_assoc]
  rw [be_s ha.1 ha.2, be_2, be_s hb.1 hb.2, be_4, be_s hc.1 hc.2, be_6, ← List.append_nil (two d), be_s hdd.1 hdd.2]
theorem rsw_x : ∀ (w : World) (p : Program) (loose : List Str) (mean : ExcName → Option Value) (mg mb : Str → Option Value) (H₀ : Heap)
  (dp un : Nat) (gd : Option (List Code)) (l : List Env) (s : Shared) (Q E : Value → Shared → Prop) (x dx : Addr) (W : Array UInt8) (a b c d : Int) (e1 e2 : Int) (k1 k2 tb tk tf : Tok),
  Cx (Mine.hd.heap_1 w.params) p loose mean mg mb H₀ l s.heap → (Own H₀ l s.heap x (instObj 191 dx)) → (Own H₀ l s.heap dx (dictOf [⟨e1, .str (Str.ofString "octets") k1, .bytes W tb⟩, ⟨e2, .str (Str.ofString "at") k2, .int 0 tk⟩] 2)) → (@Ne Nat x dx) → (W = ((two a ++ two b ++ two c ++ two d).take 7).toArray) →
  dp + 7 ≤ 400 → un + 48 ≤ 400 →
  (∀ e h' tk', Thrown l s.heap h' [dx] e → E (.ref e) {s with heap := h', toks := tk'}) →
  wpAny (model PySem.Challenge.rw_on0238_01.row.prog w) (AA dp un gd l) (call (.ref 232) [.ref x, .int 128 tf]) Q E s := by
  intro w p loose mean mg mb H₀ dp un gd l s Q E x dx W a b c d e1 e2 k1 k2 tb tk tf C Ox Od hne hW hd hu hret
  subst hW
  exact rs128_x w p loose mean mg mb H₀ dp un gd l s Q E x dx _ e1 e2 k1 k2 tb tk tf C Ox Od hne rfl (Nat.le_of_ble_eq_true rfl) hd hu hret
end
section
open PySem PySem.Spec PySem.Calls PySem.W PySem.W.X PyProof.Rows
theorem slot_join : Slot "bytes" "join" "bytes.join" :=
  .of (owner := "bytes") (n := "join") (by rw [typeLookup_type, builtinLookup_eq_fast]; kernel_rfl) (by decide +kernel) (by decide +kernel) (by decide +kernel)
    (by first | exact .inl (by decide +kernel) | exact .inr (by decide +kernel)) (by rw [isSubtype_type]; kernel_rfl)
theorem type_join : typeOf (.builtin "bytes.join") = pure (.type "method_descriptor") := by kernel_rfl
theorem getm_join {M : Model} {A : Around} {E : Value → Shared → Prop} {s : Shared} {b : Array UInt8} {t : Tok} {pl : Sem Bool} {Q : Value × List Value → Shared → Prop} (h : Q (.builtin "bytes.join", [.bytes b t]) s) : wpAny M A (getMethod (.bytes b t) "join" pl) Q E s :=
  KBd.method_of (.bytes b t) (typeIs_bytes _ _ _) slot_join type_join KBd.noRef h
local macro_rules | `(tactic| x_close) => `(tactic| ((with_reducible rename RetX _ _ _ => kR); refine' retX_use0 kR ?a; (case a => exact ⟨_, rfl⟩)))
local macro_rules | `(tactic| x_close) => `(tactic| ((with_reducible rename Mem _ _ _ _ => kD); (with_reducible rename RetX _ _ _ => kR); refine' retX_use kR kD ?a; (case a => exact ⟨_, rfl⟩)))
theorem join_okG : ∀ (prog : Program) (w : World) 
  (gd : Option (List Code)) (l : List Env) (s : Shared) (Q E : Value → Shared → Prop) (lst : Addr) (a1 a2 b1 b2 c1 c2 d1 d2 : UInt8) (t t1 t2 t3 t4 : Tok) (n : Nat),
  (Mine.hd.heap_1 w.params).In s.heap → s.heap.get? lst = some ({ cls := .type "list", data := .seq #[.bytes #[a1, a2] t1, .bytes #[b1, b2] t2, .bytes #[c1, c2] t3, .bytes #[d1, d2] t4] n } : Obj) → RetX s Q (fun v _ => ∃ t, v = .bytes [a1, a2, b1, b2, c1, c2, d1, d2].toArray t) →
  wpAny (model prog w) (AA 400 400 gd l) (call (.builtin "bytes.join") [.bytes #[] t, .ref lst]) Q E s := by
  k_fill
  w_top off
  intro prog w gd l s Q E lst a1 a2 b1 b2 c1 c2 d1 d2 t t1 t2 t3 t4 n X hl hret
  x_run
theorem join_ok : ∀ (w : World) 
  (gd : Option (List Code)) (l : List Env) (s : Shared) (Q E : Value → Shared → Prop) (lst : Addr) (a1 a2 b1 b2 c1 c2 d1 d2 : UInt8) (t t1 t2 t3 t4 : Tok) (n : Nat),
  (Mine.hd.heap_1 w.params).In s.heap → s.heap.get? lst = some ({ cls := .type "list", data := .seq #[.bytes #[a1, a2] t1, .bytes #[b1, b2] t2, .bytes #[c1, c2] t3, .bytes #[d1, d2] t4] n } : Obj) → RetX s Q (fun v _ => ∃ t, v = .bytes [a1, a2, b1, b2, c1, c2, d1, d2].toArray t) →
  wpAny (model PySem.Challenge.rw_on0238_01.row.prog w) (AA 400 400 gd l) (call (.builtin "bytes.join") [.bytes #[] t, .ref lst]) Q E s :=
  fun w gd l s Q E lst a1 a2 b1 b2 c1 c2 d1 d2 t t1 t2 t3 t4 n X hl hret => join_okG _ w gd l s Q E lst a1 a2 b1 b2 c1 c2 d1 d2 t t1 t2 t3 t4 n X hl hret
end
section
open PySem PySem.Spec PySem.Calls PySem.W PyProof.Rows

theorem join_use {w : World} {dp un : Nat} {gd : Option (List Code)} {l : List Env} {s : Shared} {Q E : Value → Shared → Prop} {lst : Addr} {a1 a2 b1 b2 c1 c2 d1 d2 : UInt8} {t t1 t2 t3 t4 : Tok} {n : Nat} (X : (Mine.hd.heap_1 w.params).In s.heap) (hl : s.heap.get? lst = some (listOf #[.bytes #[a1, a2] t1, .bytes #[b1, b2] t2, .bytes #[c1, c2] t3, .bytes #[d1, d2] t4] n)) (h1 : dp ≤ 400) (h2 : un ≤ 400)
    (h : ∀ t h' tk, Kp s.heap h' [] → Q (.bytes [a1, a2, b1, b2, c1, c2, d1, d2].toArray t) ⟨h', s.gens, s.drawn, tk, s.os⟩) : wpAny (model PySem.Challenge.rw_on0238_01.row.prog w) (AA dp un gd l) (call (.builtin "bytes.join") [.bytes #[] t, .ref lst]) Q E s :=
  wp_deep h1 h2 (join_ok w gd l s Q E lst a1 a2 b1 b2 c1 c2 d1 d2 t t1 t2 t3 t4 n X hl fun v h' tk k ⟨t, e⟩ => e ▸ h t h' tk k)
theorem len_four {ys : List Value} (h : ys.length = 4) : ∃ y1 y2 y3 y4, ys = [y1, y2, y3, y4] := by
  match ys, h with
  | [y1, y2, y3, y4], _ => exact ⟨y1, y2, y3, y4, rfl⟩
theorem four_at {a b c d : Int} {ta tb tc td : Tok} {j : Nat} {v : Value} (h : ([.int a ta, .int b tb, .int c tc, .int d td] : List Value)[j]? = some v) : ∃ x t, ([a, b, c, d] : List Int)[j]? = some x ∧ v = .int x t := by
  match j, h with
  | 0, h => cases h; exact ⟨_, _, rfl, rfl⟩
  | 1, h => cases h; exact ⟨_, _, rfl, rfl⟩
  | 2, h => cases h; exact ⟨_, _, rfl, rfl⟩
  | 3, h => cases h; exact ⟨_, _, rfl, rfl⟩
theorem scd_1 : ∀ (w : World) (p : Program) (loose : List Str) (mean : ExcName → Option Value) (mg mb : Str → Option Value) (H₀ : Heap)
  (dp un : Nat) (gd : Option (List Code)) (l : List Env) (s : Shared) (Q E : Value → Shared → Prop) (ts : Addr) (a b c d : Int) (ta tb tc td : Tok),
  Cx (Mine.hd.heap_1 w.params) p loose mean mg mb H₀ l s.heap → (Own H₀ l s.heap ts (tup [.int a ta, .int 0 tb, .int 0 tc, .int d td])) →
  dp + 3 ≤ 400 → un + 24 ≤ 400 →
  (∀ r fl W t₁ t₂ h' tk', fl = scF a 0 0 d → W = (scB a 0 0 d).toArray → s.heap.get? r = none → Kp s.heap h' [] → h'.get? r = some (tup [.int fl t₁, .bytes W t₂]) → Q (.ref r) {s with heap := h', toks := tk'}) →
  wpAny (model PySem.Challenge.rw_on0238_01.row.prog w) (AA dp un gd l) (call (.ref 321) [.ref ts]) Q E s := by
  k_fill
  w_top off
  intro w p loose mean mg mb H₀ dp un gd l s Q E ts a b c d ta tb tc td C Ot hd hu hret
  refine wpAny_call ?_
  let oq0 : Obj := tup [.int a ta, .int 0 tb, .int 0 tc, .int d td]; k_dflt (refine' enterK C [(ts, oq0)] ?O ?kA ?k6 ?k7 ?k8 ?k9 ?kB ?_ ?c2 ?c3 ?c4 ?c5; (case O => exact List.forall_mem_singleton.mpr Ot); (case kA => exact rfl); (case k6 => k_is); (case k7 => k_is); (case k8 => ktr_room); (case k9 => exact BindsTo.of_eq rfl); (case c5 => decide); (case kB => exact locs rfl); (case c2 => exact rfl); (case c3 => exact rfl); (case c4 => exact rfl); k_whole; intro g L' h₁ hL hg F' N' B' X' T'; (try dsimp only); (try k_fold))
  (repeat' (first | (k_unfold; (try dsimp only)) | (k_end; wrow_close) | (with_reducible (k_here; first | ((with_reducible refine ite_pos ?h ?_); (case h => omega)) | ((with_reducible refine ite_neg ?h ?_); (case h => omega)))) | ((k_here; first | ((with_reducible refine ite_pos ?h ?_); (case h => omega)) | ((with_reducible refine ite_neg ?h ?_); (case h => omega)))) | ((with_reducible show wpAny _ _ (call (Value.ref _) _) _ _ _); first | (with_reducible (k_here; (with_reducible show wpAny _ _ (call (Value.ref 309) _) _ _ _); k_dflt ( refine' two_ok _ _ _ _ _ _ _ _ _ _ _ _ _ _ _ _ ?C  ?hd ?hu ?_; (case C => exact Cx.next (by assumption) (by assumption) (by assumption) rfl rfl); (case hd => ktr_room); (case hu => ktr_units); k_whole; intro tq h'q tk'q hKq; (with_reducible rename Fr _ _ _ _ => kF); (with_reducible rename News _ _ _ _ => kN); have F'q := fr_kp0 kF hKq; have N'q := news_kp0 kN hKq; clear hKq; (try k_sweep))))) | walk1 | (dsimp only; (with_reducible show wpAny _ _ _ _ _ _)) | (leave1; walk_say "STEP leave1"; try dsimp only) | fail "no step"))
  all_goals (try dsimp only)
  all_goals ((try k_unfold); (try dsimp only); (with_reducible rename Fr _ _ _ _ => kF); (with_reducible rename News _ _ _ _ => kN); refine hret _ _ _ _ _ _ _ ?_ ?_ (fresh_of hg kN (by k_mem) (notin1 (by k_ne))) (kp_one hg kF Ot.1 (kN.get (by k_mem))) (kN.get (by k_mem)))
  all_goals (clear hret C; by_cases h16 : a = 16384 <;> by_cases hdd : d = 16384 <;> first | (exfalso; omega) | (simp_all [scF, scB, two]; done) | (simp only [scF, scB, two]; rfl) | (simp only [scF, scB, two, *]; simp_all; done))
theorem scd_2 : ∀ (w : World) (p : Program) (loose : List Str) (mean : ExcName → Option Value) (mg mb : Str → Option Value) (H₀ : Heap)
  (dp un : Nat) (gd : Option (List Code)) (l : List Env) (s : Shared) (Q E : Value → Shared → Prop) (ts : Addr) (a b c d : Int) (ta tb tc td : Tok),
  Cx (Mine.hd.heap_1 w.params) p loose mean mg mb H₀ l s.heap → (Own H₀ l s.heap ts (tup [.int a ta, .int b tb, .int c tc, .int d td])) → (¬(b = 0 ∧ c = 0)) →
  dp + 3 ≤ 400 → un + 24 ≤ 400 →
  (∀ r fl W t₁ t₂ h' tk', fl = scF a b c d → W = (scB a b c d).toArray → s.heap.get? r = none → Kp s.heap h' [] → h'.get? r = some (tup [.int fl t₁, .bytes W t₂]) → Q (.ref r) {s with heap := h', toks := tk'}) →
  wpAny (model PySem.Challenge.rw_on0238_01.row.prog w) (AA dp un gd l) (call (.ref 321) [.ref ts]) Q E s := by
  k_fill
  w_top off
  intro w p loose mean mg mb H₀ dp un gd l s Q E ts a b c d ta tb tc td C Ot hbc hd hu hret
  refine wpAny_call ?_
  let oq0 : Obj := tup [.int a ta, .int b tb, .int c tc, .int d td]; k_dflt (refine' enterK C [(ts, oq0)] ?O ?kA ?k6 ?k7 ?k8 ?k9 ?kB ?_ ?c2 ?c3 ?c4 ?c5; (case O => exact List.forall_mem_singleton.mpr Ot); (case kA => exact rfl); (case k6 => k_is); (case k7 => k_is); (case k8 => ktr_room); (case k9 => exact BindsTo.of_eq rfl); (case c5 => decide); (case kB => exact locs rfl); (case c2 => exact rfl); (case c3 => exact rfl); (case c4 => exact rfl); k_whole; intro g L' h₁ hL hg F' N' B' X' T'; (try dsimp only); (try k_fold))
  (repeat' (first | (k_unfold; (try dsimp only)) | (k_end; wrow_close) | ((with_reducible show wpAny _ _ (eval (Expr.ListComp _ _ _ _) _) _ _ _); first | (with_reducible (k_here; (with_reducible rename Fr _ _ _ _ => kF); k_dflt (refine' comp_ok rule_name ?hh ?cl ?cell ?kind ?names (frL kF) ?_; (case hh => exact rfl); (case cl => exact rfl); (case cell => decide); (case kind => exact rfl); (case names => decide); k_whole)))) | (with_reducible (k_here; first | ((with_reducible refine ite_pos ?h ?_); (case h => omega)) | ((with_reducible refine ite_neg ?h ?_); (case h => omega)))) | ((k_here; first | ((with_reducible refine ite_pos ?h ?_); (case h => omega)) | ((with_reducible refine ite_neg ?h ?_); (case h => omega)))) | ((with_reducible show wpAny _ _ (call (Value.builtin _) _) _ _ _); first | (with_reducible (k_here; k_dflt (refine' join_use ?X ?N ?a ?b ?_; (case X => k_in); (case N => exact News.get (by assumption) (by k_mem)); (case a => ktr_room); (case b => ktr_units); k_whole; intro tq h'q tk'q hKq; (with_reducible rename Fr _ _ _ _ => kF); (with_reducible rename News _ _ _ _ => kN); have F'q := fr_kp0 kF hKq; have N'q := news_kp0 kN hKq; clear hKq; (try k_sweep))))) | ((with_reducible show wpAny _ _ (getMethod (Value.bytes _ _) _ _) _ _ _); first | (with_reducible (k_here; (with_reducible refine getm_join ?_)))) | ((with_reducible show wpAny _ _ (call (Value.ref _) _) _ _ _); first | (with_reducible (k_here; (with_reducible show wpAny _ _ (call (Value.ref 309) _) _ _ _); k_dflt ( refine' two_ok _ _ _ _ _ _ _ _ _ _ _ _ _ _ _ _ ?C  ?hd ?hu ?_; (case C => exact Cx.next (by assumption) (by assumption) (by assumption) rfl rfl); (case hd => ktr_room); (case hu => ktr_units); k_whole; intro tq h'q tk'q hKq; (with_reducible rename Fr _ _ _ _ => kF); (with_reducible rename News _ _ _ _ => kN); have F'q := fr_kp0 kF hKq; have N'q := news_kp0 kN hKq; clear hKq; (try k_sweep))))) | walk1 | (dsimp only; (with_reducible show wpAny _ _ _ _ _ _)) | (leave1; walk_say "STEP leave1"; try dsimp only) | fail "no step"))
  all_goals (first | (exfalso; omega) | (
    (with_reducible show SrcOk _ _ _ _ _ _ _ _ _ _ _ _)
    (with_reducible rename Fr _ _ _ _ => kF)
    (with_reducible rename News _ _ _ _ => kN)
    refine ⟨ts, [.int a ta, .int b tb, .int c tc, .int d td], _, kF.ns, rfl, .inr ⟨_, (kN _ (.head _)).1, rfl, _, rfl⟩, Nat.le_of_ble_eq_true rfl, fun j y _ => ∃ x t, ([a, b, c, d] : List Int)[j]? = some x ∧ y = .bytes #[((x.fdiv 256).fmod 256).toNat.toUInt8, (x.fmod 256).toNat.toUInt8] t, ?_, ?_⟩
    · intro C1 D1 I1 j v s₃ oC oI m₃ ys E' hv hI hID hDC eC hoC hD eI hk hkL hs₃
      obtain ⟨x, tx, hx, rfl⟩ := four_at hv
      obtain ⟨h3, tk3, rfl⟩ := hs₃
      refine assign1 rfl rfl eC hoC fun h4 tk4 oC4 m4 eC4 hoC4 hx4 hk4 => ?_
      obtain ⟨F4, rest, N4, hr⟩ := turn_in kF (Nat.le_of_lt (Nat.lt_of_le_of_lt hI (Nat.lt_trans hID hDC))) hk hkL hk4 eC4
      clear kN
      (repeat' (first | (k_unfold; (try dsimp only)) | (k_end; wrow_close) | ((with_reducible show wpAny _ _ (eval (Expr.ListComp _ _ _ _) _) _ _ _); first | (with_reducible (k_here; (with_reducible rename Fr _ _ _ _ => kF); k_dflt (refine' comp_ok rule_name ?hh ?cl ?cell ?kind ?names (frL kF) ?_; (case hh => exact rfl); (case cl => exact rfl); (case cell => decide); (case kind => exact rfl); (case names => decide); k_whole)))) | (with_reducible (k_here; first | ((with_reducible refine ite_pos ?h ?_); (case h => omega)) | ((with_reducible refine ite_neg ?h ?_); (case h => omega)))) | ((k_here; first | ((with_reducible refine ite_pos ?h ?_); (case h => omega)) | ((with_reducible refine ite_neg ?h ?_); (case h => omega)))) | ((with_reducible show wpAny _ _ (call (Value.builtin _) _) _ _ _); first | (with_reducible (k_here; k_dflt (refine' join_use ?X ?N ?a ?b ?_; (case X => k_in); (case N => exact News.get (by assumption) (by k_mem)); (case a => ktr_room); (case b => ktr_units); k_whole; intro tq h'q tk'q hKq; (with_reducible rename Fr _ _ _ _ => kF); (with_reducible rename News _ _ _ _ => kN); have F'q := fr_kp0 kF hKq; have N'q := news_kp0 kN hKq; clear hKq; (try k_sweep))))) | ((with_reducible show wpAny _ _ (getMethod (Value.bytes _ _) _ _) _ _ _); first | (with_reducible (k_here; (with_reducible refine getm_join ?_)))) | ((with_reducible show wpAny _ _ (call (Value.ref _) _) _ _ _); first | (with_reducible (k_here; (with_reducible show wpAny _ _ (call (Value.ref 309) _) _ _ _); k_dflt ( refine' two_ok _ _ _ _ _ _ _ _ _ _ _ _ _ _ _ _ ?C  ?hd ?hu ?_; (case C => exact Cx.next (by assumption) (by assumption) (by assumption) rfl rfl); (case hd => ktr_room); (case hu => ktr_units); k_whole; intro tq h'q tk'q hKq; (with_reducible rename Fr _ _ _ _ => kF); (with_reducible rename News _ _ _ _ => kN); have F'q := fr_kp0 kF hKq; have N'q := news_kp0 kN hKq; clear hKq; (try k_sweep))))) | walk1 | (dsimp only; (with_reducible show wpAny _ _ _ _ _ _)) | (leave1; walk_say "STEP leave1"; try dsimp only) | fail "no step"))
      (with_reducible rename Fr _ _ _ _ => kF9)
      (with_reducible rename News _ _ _ _ => kN9)
      exact turn_out hr hk4 hoC4 (fun m' hm' => ns_unique (fr_kpL kF hk hkL).ns hm') kF9 kN9 (.head _) (fun p hp => .tail _ hp) (fun h'' _ => ⟨x, _, hx, rfl⟩)
    · intro D1 ys h5 tk5 hD hk hkL hDl hlen hG
      have F5 := fr_kpL kF hk hkL
      have N5 := news_new kF (news_kpL kN hk) hD hDl
      have hne := neAll D1 kN hD
      simp only [NeAll, and_true] at hne
      clear kN hk hkL kF
      obtain ⟨y1, y2, y3, y4, rfl⟩ := len_four hlen
      obtain ⟨x1, u1, q1, rfl⟩ := hG 0 y1 rfl
      obtain ⟨x2, u2, q2, rfl⟩ := hG 1 y2 rfl
      obtain ⟨x3, u3, q3, rfl⟩ := hG 2 y3 rfl
      obtain ⟨x4, u4, q4, rfl⟩ := hG 3 y4 rfl
      cases q1; cases q2; cases q3; cases q4
      dsimp only
      (repeat' (first | (k_unfold; (try dsimp only)) | (k_end; wrow_close) | ((with_reducible show wpAny _ _ (eval (Expr.ListComp _ _ _ _) _) _ _ _); first | (with_reducible (k_here; (with_reducible rename Fr _ _ _ _ => kF); k_dflt (refine' comp_ok rule_name ?hh ?cl ?cell ?kind ?names (frL kF) ?_; (case hh => exact rfl); (case cl => exact rfl); (case cell => decide); (case kind => exact rfl); (case names => decide); k_whole)))) | (with_reducible (k_here; first | ((with_reducible refine ite_pos ?h ?_); (case h => omega)) | ((with_reducible refine ite_neg ?h ?_); (case h => omega)))) | ((k_here; first | ((with_reducible refine ite_pos ?h ?_); (case h => omega)) | ((with_reducible refine ite_neg ?h ?_); (case h => omega)))) | ((with_reducible show wpAny _ _ (call (Value.builtin _) _) _ _ _); first | (with_reducible (k_here; k_dflt (refine' join_use ?X ?N ?a ?b ?_; (case X => k_in); (case N => exact News.get (by assumption) (by k_mem)); (case a => ktr_room); (case b => ktr_units); k_whole; intro tq h'q tk'q hKq; (with_reducible rename Fr _ _ _ _ => kF); (with_reducible rename News _ _ _ _ => kN); have F'q := fr_kp0 kF hKq; have N'q := news_kp0 kN hKq; clear hKq; (try k_sweep))))) | ((with_reducible show wpAny _ _ (getMethod (Value.bytes _ _) _ _) _ _ _); first | (with_reducible (k_here; (with_reducible refine getm_join ?_)))) | ((with_reducible show wpAny _ _ (call (Value.ref _) _) _ _ _); first | (with_reducible (k_here; (with_reducible show wpAny _ _ (call (Value.ref 309) _) _ _ _); k_dflt ( refine' two_ok _ _ _ _ _ _ _ _ _ _ _ _ _ _ _ _ ?C  ?hd ?hu ?_; (case C => exact Cx.next (by assumption) (by assumption) (by assumption) rfl rfl); (case hd => ktr_room); (case hu => ktr_units); k_whole; intro tq h'q tk'q hKq; (with_reducible rename Fr _ _ _ _ => kF); (with_reducible rename News _ _ _ _ => kN); have F'q := fr_kp0 kF hKq; have N'q := news_kp0 kN hKq; clear hKq; (try k_sweep))))) | walk1 | (dsimp only; (with_reducible show wpAny _ _ _ _ _ _)) | (leave1; walk_say "STEP leave1"; try dsimp only) | fail "no step"))
      all_goals (try dsimp only)
      all_goals ((try k_unfold); (try dsimp only); (with_reducible rename Fr _ _ _ _ => kF); (with_reducible rename News _ _ _ _ => kN); refine hret _ _ _ _ _ _ _ ?_ ?_ (fresh_of hg kN (by k_mem) (notin1 (by k_ne))) (kp_one hg kF Ot.1 (kN.get (by k_mem))) (kN.get (by k_mem)))
      all_goals (clear hret; first | (simp_all [scF, scB, two]; done) | (simp only [scF, scB, two, *, if_false, Bool.false_eq_true]; done) | (simp only [scF, scB, two, *, if_false, Bool.false_eq_true]; rfl))))
theorem scd_ok : ∀ (w : World) (p : Program) (loose : List Str) (mean : ExcName → Option Value) (mg mb : Str → Option Value) (H₀ : Heap)
  (dp un : Nat) (gd : Option (List Code)) (l : List Env) (s : Shared) (Q E : Value → Shared → Prop) (ts : Addr) (a b c d : Int) (ta tb tc td : Tok),
  Cx (Mine.hd.heap_1 w.params) p loose mean mg mb H₀ l s.heap → (Own H₀ l s.heap ts (tup [.int a ta, .int b tb, .int c tc, .int d td])) →
  dp + 3 ≤ 400 → un + 24 ≤ 400 →
  (∀ r fl W t₁ t₂ h' tk', fl = scF a b c d → W = (scB a b c d).toArray → s.heap.get? r = none → Kp s.heap h' [] → h'.get? r = some (tup [.int fl t₁, .bytes W t₂]) → Q (.ref r) {s with heap := h', toks := tk'}) →
  wpAny (model PySem.Challenge.rw_on0238_01.row.prog w) (AA dp un gd l) (call (.ref 321) [.ref ts]) Q E s := by
  intro w p loose mean mg mb H₀ dp un gd l s Q E ts a b c d ta tb tc td C Ot hd hu hret
  by_cases h : b = 0 ∧ c = 0
  · obtain ⟨rfl, rfl⟩ := h
    exact scd_1 w p loose mean mg mb H₀ dp un gd l s Q E ts a 0 0 d ta tb tc td C Ot hd hu hret
  · exact scd_2 w p loose mean mg mb H₀ dp un gd l s Q E ts a b c d ta tb tc td C Ot h hd hu hret
end
section
open PySem PySem.Spec PySem.Calls PySem.W PyProof.Rows
theorem my_blen {prog : Program} {w : World} {A : Around} {E : Value → Shared → Prop} {s : Shared} {b : List UInt8} {t : Tok} {Q : Value → Shared → Prop} (hfit : b.length ≤ 100) (h : Q (.int (b.length : Nat) (s.toks + 1)) { s with toks := s.toks + 1 + 1 }) : wpAny (model prog w) A (call (.builtin "len") [.bytes b.toArray t]) Q E s :=
  len_bytes (by rw [List.size_toArray]; omega) (by rw [List.size_toArray]; exact h)
theorem flag_long (mv : Bool) : ((2 * if mv = true then 1 else 0) + 1 : Int) = if mv = true then 3 else 1 := by cases mv <;> rfl
theorem ne_int_same {prog : Program} {w : World} {A : Around} {E : Value → Shared → Prop} {s : Shared} {a : Int} {t u : Tok} {Q : Value → Shared → Prop} (h : Q (.bool false) s) : wpAny (model prog w) A (compareOp .NotEq (.int a t) (.int a u)) Q E s := PyProof.Rows.ne_int (by rw [bne_self_eq_false]; exact h)
theorem ne_all2 {r : Addr} {news : List (Addr × Obj)} {p : Addr × Obj} (h : NeAll r news) (hm : p ∈ news) : p.1 ≠ r := ne_all (o := p.2) h hm
end
section
open PySem PySem.Spec PySem.Calls PySem.W PyProof.Rows
/-- all stands but `S`; the frames of `l` may have new slots -/
def KpF (l : List Env) (h h' : Heap) (S : List Addr) : Prop :=
  (∀ b o, h.get? b = some o → b ∉ S → (∀ env ∈ l, env.frame ≠ some b) → h'.get? b = some o) ∧
  ∀ b o, h.get? b = some o → b ∉ S → (∀ vs, o.data ≠ .fields vs) → ∃ sl, h'.get? b = some { o with slots := sl }
theorem KpF.pre {l : List Env} {h h₁ h₂ : Heap} {S : List Addr} (k : Kp h h₁ S) (x : KpF l h₁ h₂ S) : KpF l h h₂ S :=
  ⟨fun b o e n f => x.1 b o (k b o e n) n f, fun b o e n f => x.2 b o (k b o e n) n f⟩
theorem thrown_caught {l : List Env} {H h' : Heap} {S : List Addr} {e : Addr} (T : Thrown l H h' S e) : ∃ B a0, (∀ b o, H.get? b = some o → b ∉ S → (∀ env ∈ l, env.frame ≠ some b) → B.get? b = some o) ∧ Heap.FlyingW B l e (.ref 51) a0 h' ∧
    ∀ b o, H.get? b = some o → b ∉ S → (∀ vs, o.data ≠ .fields vs) → ∃ sl, h'.get? b = some { o with slots := sl } := T

section
variable {prog : Program} {w : World} {A₀ : Around} {E : Value → Shared → Prop} {s' : Shared} {H H₀ g h : Heap} {l : List Env} {L a e : Addr} {m : Str → Option Value} {name : Str} {scope : Scope} {cd : Value}
  {b₀ : Stmt} {suite : List Stmt} {pos np : Pos} {rest : List ExceptHandler} {Q : Flow → Shared → Prop}
  {p : Program} {loose : List Str} {mean : ExcName → Option Value} {mg mb : Str → Option Value}
theorem frames_none {h : Heap} : ∀ {l : List Env}, h.FunFrames H₀ l → ∀ env ∈ l, ∀ b, env.frame = some b → H₀.get? b = none := fun {l} ff env he b hf => (ff.mem (List.mem_filterMap.mpr ⟨env, he, hf⟩)).1
theorem caught_own (A : A₀.frames = some l) (X : (Mine.hd.heap_1 w.params).In H₀) (T : Top p loose mean mg mb H₀) (st : H₀.StaysIn H) (n0 : ∀ env ∈ (envOf name scope L a cd :: l), ∀ b, env.frame = some b → H₀.get? b = none)
    (R : Thrown (envOf name scope L a cd :: l) H s'.heap [] e)
    (k : ∀ h', KpF (envOf name scope L a cd :: l) H h' [] → wpAny (model prog w) ((A₀.deeper (envOf name scope L a cd)).mark (some (.ref e))) (execs (b₀ :: suite) (envOf name scope L a cd)) Q E { s' with heap := h' })
    (ex : nsIn (Mine.hd.heap_1 w.params) mainGlobals "FontFault" = some (some (.ref 51)))
    (hk : scope.kind = .function := by rfl) (hx : (envOf name scope L a cd).kindOf "FontFault" = some .globalImplicit := by rfl)
    (hE : PassesOwnAt (model prog w) ((A₀.deeper (envOf name scope L a cd)).mark (some (.ref e))) (A₀.deeper (envOf name scope L a cd)) (envOf name scope L a cd) E := by passes_own) :
    wpAny (model prog w) (A₀.deeper (envOf name scope L a cd)) (noteFrame (.ref e) (envOf name scope L a cd))
      (fun _ s₂ => wpAny (model prog w) (A₀.deeper (envOf name scope L a cd)) (setFlight (.ref e) none) (fun _ s₃ =>
        wpAny (model prog w) (A₀.deeper (envOf name scope L a cd)) (handleBy (.ref e) (envOf name scope L a cd) (.ExceptHandler (some (.Name "FontFault" np)) none (b₀ :: suite) pos :: rest)) Q E s₃) E s₂) E s' := by
  obtain ⟨B, a0, h1, hfl, h3⟩ := R
  obtain ⟨nm, q, N, bs, bm, hdct, sn, sub, ab, col, dd, k0, k1, k2, k3, k5, newId, hl, hb⟩ := cls51 w
  have hB : H₀.StaysIn B := fun b o hb => h1 b o (st b o hb) (List.not_mem_nil) fun env he q => by rw [n0 env he b q] at hb; cases hb
  refine wpAny_looks_onW (Around.frames_deeper A) rfl hfl fun h₄ hheld₄ hsm₄ => ?_
  refine wpAny_landsW hheld₄ fun h₅ hheld hsm₅' => ?_
  have hsm₅ := hsm₄.trans hsm₅'
  have hheld' := flyingW_base hB hheld
  obtain ⟨ob, hob, hobc⟩ := hheld'.there
  refine wpAny_handleBy_cons (codeAny_handlers_test (Name_function_global (env := envOf name scope L a cd) hk hx (loadGlobal_global (env := envOf name scope L a cd) (T.g.keeps hheld'.1) (mg_of X T.g ex) ?_) (by decide))) (by intro q; cases q)
  refine wpAny_excMatches_sub_self ((X.keeps hheld'.1) _ _ hl) hob hobc hb (codeAny_handlers_suite ?_)
  refine lands_againW hheld fun h₆ hfl₆ hsm₆ => ?_
  refine wpAny_passesOwnAt hE (k h₆ ⟨fun b o e1 n f => hfl₆.1 b o (h1 b o e1 n f), fun b o e1 n f => ?_⟩)
  obtain ⟨sl, e2⟩ := h3 b o e1 n f
  obtain ⟨sl', e3⟩ := (hsm₅.trans hsm₆) b _ e2 f
  exact ⟨sl', e3⟩
end
end
section
open PySem PySem.Spec PySem.Calls PySem.W PyProof.Rows
section
variable {prog : Program} {w : World} {A A₀ : Around} {s : Shared} {K : Frag} {L : Addr} {H₀ : Heap} {mg mb : Str → Option Value} {p : Program} {loose : List Str} {mean : ExcName → Option Value} {l : List Env}
theorem enterC {R : Result → Shared → Prop} {name qual : Str} {params : Arguments} {body : List Stmt} {scope : Scope} {dV kV doc pm cdv ct oc : Value} {an od : Option Addr} {osl : Array (Option Value)} {f : Addr} {args : Args} {binds : List (Str × Value)}
    (C : Cx K p loose mean mg mb H₀ l s.heap) (news : List (Addr × Obj)) (O : ∀ q ∈ news, Own H₀ l s.heap q.1 q.2) (hA : A.frames = some l)
    (ho : K.lookup f = some ⟨oc, od, .func (fnOf name qual params body scope dV kV doc pm an cdv ct), osl⟩) (hcd : codeIn K cdv qual = true) (hroom : A.depth < recursionLimit)
    (hbind : BindsTo s (fnOf name qual params body scope dV kV doc pm an cdv ct) args binds) (hkind : (binds.all fun y => scope.names.lookup y.1 == some .local || scope.names.lookup y.1 == some .cell) = true)
    (hnd : ((cellsFrom 0 scope.names []).map (·.1)).Nodup)
    (h : ∀ g L' h₁ tk cells, s.heap.get? L' = none → (∀ q ∈ cells, s.heap.get? q.1 = none) → (∀ b o, s.heap.get? b = some o → b ∉ news.map (·.1) → g.get? b = some o) →
      Fr g L' h₁ (bindL (envOfC qual scope L' f cdv).kindOf binds fun _ => none) → News g L' h₁ (cells ++ news) →
      CellsAre (bindC (envOfC qual scope L' f cdv).kindOf binds fun _ => none) (cellsFrom (L' + 1) scope.names []) cells → Below A H₀ l g → K.In g → Top p loose mean mg mb g → (∀ p ∈ news, p.1 < L') →
      wpAny (model prog w) (A.deeper (envOfC qual scope L' f cdv)) (execs body (envOfC qual scope L' f cdv))
        (fun fl s' => R (.ok (.ret (match fl with | .ret v => v | _ => .none))) s')
        (fun e s' => wpAny (model prog w) (A.deeper (envOfC qual scope L' f cdv)) (leaving (envOfC qual scope L' f cdv) e) (fun _ s'' => R (.error e) s'') (fun e' s'' => R (.error e') s'') s')
        { s with heap := h₁, toks := tk })
    (hco : scope.isCoroutine = false) (hgen : scope.isGenerator = false) (hk : scope.kind = .function) : codeAny (model prog w) A (.call (.ref f) args) R s := by
  have hb : ∀ b o, H₀.get? b = some o → b ∉ news.map (·.1) := fun b o e q => by
    obtain ⟨x, hx, rfl⟩ := List.mem_map.mp q
    rw [(O x hx).2.1] at e; cases e
  have st : H₀.StaysIn (hideAll s.heap (news.map (·.1))) := fun b o e => hideAll_get _ (C.st b o e) (hb b o e)
  have fn : ∀ env ∈ l, ∀ a ∈ news.map (·.1), env.frame ≠ some a := fun env he a ha => by
    obtain ⟨x, hx, rfl⟩ := List.mem_map.mp ha
    exact (O x hx).2.2 env he
  have ho' := (C.X.keeps C.st) _ _ ho
  refine codeAny_call_function hroom ho' rfl hco hgen rfl (codeRec_of (C.X.keeps C.st) hcd) (hbind _ _ _ _ ?_)
  refine wpAny_newFunctionEnv_cells hk (kindsX hkind _) fun env' he s' x => ?_
  subst he
  refine ⟨(C.T.nolimit.keeps C.st).keeps x.toInCall.keep, codeAny_func ?_⟩
  obtain ⟨h₁, tk, rfl, _⟩ := x.done
  have hk₁ := x.toInCall.keep
  obtain ⟨cells, NC, Y⟩ := Cl.news (h₀ := s.heap) (Nat.le_refl _) fun n c hm => ⟨x.cell n c (lookup_of_mem_nodup (cellsFrom_names scope.names 0 (s.heap.objs.size + 1) [] [] rfl ▸ hnd) hm), x.above n c hm⟩
  refine h (hideAll s.heap (news.map (·.1))) s.heap.objs.size h₁ tk cells (Heap.get?_none_of_le (Nat.le_refl _)) (fun q hq => (NC q hq).2.2) (fun b o e n => hideAll_get _ e n) ⟨x.toInCall.ns, fun b o e => hk₁ b o (of_hideAll _ e), Nat.le_of_eq (hideAll_size _ _)⟩ (fun p hp => ?_) Y ⟨hA, st, funFrames_hideAll C.ff fn⟩ (C.X.keeps fun b o e => st b o e) (C.T.keeps fun b o e => st b o e) (fun p hp => Heap.lt_size (O p hp).1)
  rcases List.mem_append.mp hp with hp | hp
  · refine ⟨(NC p hp).1, (NC p hp).2.1, ?_⟩
    cases q : (hideAll s.heap (news.map (·.1))).get? p.1 with
    | none => rfl
    | some o => have := of_hideAll _ q; rw [(NC p hp).2.2] at this; cases this
  · exact ⟨hk₁ _ _ (O p hp).1, Nat.ne_of_lt (Heap.lt_size (O p hp).1), hideAll_none _ (List.mem_map_of_mem hp)⟩
end
end
section
open PySem PySem.Spec PySem.Calls PySem.W PyProof.Rows
section
variable {prog : Program} {w : World} {A : Around} {E : Value → Shared → Prop} {s : Shared}
theorem eqAt_bytes (b : Array UInt8) (t u : Tok) : SeqAt.EqAt A s (.bytes b t) (.bytes b u) true := fun prog w E Q h => by
  by_cases htu : t = u
  · subst htu
    exact SeqAt.EqAt.same _ prog w E Q h
  unfold eqBool
  refine wpAny_holding ?_
  refine wpAny_ite_split (fun hab => absurd (eq_of_beq hab) (fun q => by cases q; exact htu rfl)) (fun _ => ?_)
  have rc : ∀ Q' : Value → Shared → Prop, Q' (.bool true) s → wpAny (model prog w) A (richCompare .Eq (.bytes b t) (.bytes b u)) Q' E s := fun Q' h' => eq_bytes (by rw [beq_self_eq_true]; exact h')
  exact wpAny_bind (rc _ (wpAny_truthy_bool h))
inductive SameV : Value → Value → Prop
  | int (x t u) : SameV (.int x t) (.int x u)
  | bytes (b t u) : SameV (.bytes b t) (.bytes b u)
theorem SameV.eqAt {v v' : Value} (h : SameV v v') : SeqAt.EqAt A s v v' true := by
  cases h with
  | int x t u => have := SeqAt.EqAt.int_int (A := A) (s := s) x t x u; rwa [beq_self_eq_true] at this
  | bytes b t u => exact eqAt_bytes b t u
theorem ne_same {r1 r2 : Addr} {vs ws : List Value} {Q : Value → Shared → Prop} (h1 : s.heap.IsTuple r1 vs.toArray) (h2 : s.heap.IsTuple r2 ws.toArray) (hl : vs.length = ws.length) (hs : ∀ j (j1 : j < vs.length) (j2 : j < ws.length), SameV vs[j] ws[j])
    (hu : A.units ≤ 400) (h : Q (.bool false) s) : wpAny (model prog w) A (compareOp .NotEq (.ref r1) (.ref r2)) Q E s := by
  have := SeqAt.RcNeAt.tuples (A := A) (e := fun _ => true) h1 h2 (Nat.lt_of_le_of_lt hu (by decide)) (fun j j1 j2 => by
    have := (hs j (by simpa using j1) (by simpa using j2)).eqAt (A := A.in1) (s := s)
    simpa using this)
  refine this prog w E Q ?_
  have e : vs.toArray.size = ws.toArray.size := by simpa using hl
  rw [e]
  have e2 : ((List.range (min ws.toArray.size ws.toArray.size)).all (fun _ => true)) = true := List.all_eq_true.mpr fun _ _ => rfl
  rw [e2, beq_self_eq_true]
  exact h
theorem same2 {a b a' b' : Value} (h1 : SameV a a') (h2 : SameV b b') : ∀ j (j1 : j < [a, b].length) (j2 : j < [a', b'].length), SameV [a, b][j] [a', b'][j] := by
  intro j j1 j2
  match j with
  | 0 => exact h1
  | 1 => exact h2
theorem same4 {a b c d a' b' c' d' : Value} (h1 : SameV a a') (h2 : SameV b b') (h3 : SameV c c') (h4 : SameV d d') : ∀ j (j1 : j < [a, b, c, d].length) (j2 : j < [a', b', c', d'].length), SameV [a, b, c, d][j] [a', b', c', d'][j] := by
  intro j j1 j2
  match j with
  | 0 => exact h1
  | 1 => exact h2
  | 2 => exact h3
  | 3 => exact h4
theorem ne_same2 {r1 r2 : Addr} {a b a' b' : Value} {Q : Value → Shared → Prop} (h1 : s.heap.IsTuple r1 [a, b].toArray) (h2 : s.heap.IsTuple r2 [a', b'].toArray) (s1 : SameV a a') (s2 : SameV b b') (hu : A.units ≤ 400) (h : Q (.bool false) s) : wpAny (model prog w) A (compareOp .NotEq (.ref r1) (.ref r2)) Q E s :=
  ne_same h1 h2 rfl (same2 s1 s2) hu h
theorem ne_same4 {r1 r2 : Addr} {a b c d a' b' c' d' : Value} {Q : Value → Shared → Prop} (h1 : s.heap.IsTuple r1 [a, b, c, d].toArray) (h2 : s.heap.IsTuple r2 [a', b', c', d'].toArray) (s1 : SameV a a') (s2 : SameV b b') (s3 : SameV c c') (s4 : SameV d d') (hu : A.units ≤ 400) (h : Q (.bool false) s) : wpAny (model prog w) A (compareOp .NotEq (.ref r1) (.ref r2)) Q E s :=
  ne_same h1 h2 rfl (same4 s1 s2 s3 s4) hu h
end
end
section
open PySem PySem.Spec PySem.Calls PySem.W PyProof.Rows
def reslot (g h : Heap) : List Addr → Heap
  | [] => g
  | a :: r => (reslot g h r).update a (fun o => { o with slots := (h.get? a).elim o.slots (·.slots) })
theorem reslot_size (g h : Heap) : ∀ as : List Addr, (reslot g h as).objs.size = g.objs.size
  | [] => rfl
  | a :: r => by
    show ((reslot g h r).update a _).objs.size = _
    rw [← reslot_size g h r]
    cases reslot g h r
    exact Array.size_modify
theorem reslot_out (g h : Heap) {b : Addr} : ∀ as : List Addr, b ∉ as → (reslot g h as).get? b = g.get? b
  | [], _ => rfl
  | a :: r, hb => (Heap.get?_update_other _ _ (fun q : a = b => hb (q ▸ List.mem_cons_self))).trans (reslot_out g h r fun q => hb (List.mem_cons_of_mem _ q))
theorem reslot_in (g h : Heap) {b : Addr} {o : Obj} {sl : Array (Option Value)} (hg : g.get? b = some o) (hh : h.get? b = some { o with slots := sl }) : ∀ as : List Addr, b ∈ as → (reslot g h as).get? b = some { o with slots := sl }
  | a :: r, hb => by
    by_cases q : a = b
    · subst q
      have hfr := (Heap.get?_some_iff.mp hh).2
      by_cases hr : a ∈ r
      · have e := reslot_in g h hg hh r hr
        show ((reslot g h r).update a _).get? a = _
        rw [Heap.get?_update_self (fun o => { o with slots := (h.get? a).elim o.slots (·.slots) }) e (by rw [hh]; exact hfr), hh]
        rfl
      · have e := (reslot_out g h r hr).trans hg
        show ((reslot g h r).update a _).get? a = _
        rw [Heap.get?_update_self (fun o => { o with slots := (h.get? a).elim o.slots (·.slots) }) e (by rw [hh]; exact hfr), hh]
        rfl
    · rcases List.mem_cons.mp hb with e | hr
      · exact absurd e.symm q
      · exact (Heap.get?_update_other _ _ q).trans (reslot_in g h hg hh r hr)

section
variable {K : Frag} {p : Program} {loose : List Str} {mean : ExcName → Option Value} {mg mb : Str → Option Value} {H₀ g h h₂ : Heap} {l : List Env} {env : Env} {A : Around} {L : Addr} {m : Str → Option Value} {news : List (Addr × Obj)}
/-- behind a call that threw and was caught: a new ground, the frames' slots renewed -/
theorem reground (B : Below A H₀ l g) (F : Fr g L h m) (N : News g L h news) (X : K.In H₀) (T : Top p loose mean mg mb H₀) (hf : env.frame = some L) (k : KpF (env :: l) h h₂ []) :
    ∃ g₂, Fr g₂ L h₂ m ∧ News g₂ L h₂ news ∧ Below A H₀ l g₂ ∧ K.In g₂ ∧ Top p loose mean mg mb g₂ ∧ (∀ b o, g.get? b = some o → (∀ env ∈ l, env.frame ≠ some b) → g₂.get? b = some o) ∧
      ∀ b o, g.get? b = some o → (∀ vs, o.data ≠ .fields vs) → ∃ sl, g₂.get? b = some { o with slots := sl } := by
  have fin : ∀ b, b ∈ l.filterMap (·.frame) → ∃ o sl, g.get? b = some o ∧ (∀ vs, o.data ≠ .fields vs) ∧ h₂.get? b = some { o with slots := sl } ∧ (reslot g h₂ (l.filterMap (·.frame))).get? b = some { o with slots := sl } := fun b hb => by
    obtain ⟨_, o, ho, hd⟩ := B.frames.mem hb
    obtain ⟨sl, e⟩ := k.2 b o (F.keep b o ho) List.not_mem_nil hd
    exact ⟨o, sl, ho, hd, e, reslot_in g h₂ ho e _ hb⟩
  have nfr : ∀ b, b ∉ l.filterMap (·.frame) → ∀ env ∈ l, env.frame ≠ some b := fun b hb env he q => hb (List.mem_filterMap.mpr ⟨env, he, q⟩)
  have nL : ∀ b o, g.get? b = some o → b ≠ L := fun b o e q => absurd (Nat.lt_of_lt_of_le (Heap.lt_size (q ▸ e)) F.above) (Nat.lt_irrefl _)
  have st : H₀.StaysIn (reslot g h₂ (l.filterMap (·.frame))) := fun b o e => (reslot_out g h₂ _ fun hm => by rw [(B.frames.mem hm).1] at e; cases e).trans (B.stays b o e)
  refine ⟨reslot g h₂ (l.filterMap (·.frame)), ⟨?_, fun b o e => ?_, ?_⟩, fun q hq => ⟨?_, (N q hq).2.1, ?_⟩, ⟨B.stack, st, B.frames.of_keeps fun b o e hn => ?_⟩, X.keeps (fun b o e => st b o e), T.keeps (fun b o e => st b o e), fun b o e n => ?_, fun b o e hn => ?_⟩
  · obtain ⟨oL, es, ep, e1, e2, e3⟩ := F.ns
    obtain ⟨sl, e4⟩ := k.2 L oL e1 List.not_mem_nil fun vs z => by rw [e2] at z; cases z
    exact ⟨_, es, ep, e4, e2, e3⟩
  · by_cases hm : b ∈ l.filterMap (·.frame)
    · obtain ⟨o', sl, _, _, e2, e3⟩ := fin b hm
      rw [e3] at e
      cases e
      exact e2
    · rw [reslot_out g h₂ _ hm] at e
      refine k.1 b o (F.keep b o e) List.not_mem_nil fun env' he q => ?_
      rcases List.mem_cons.mp he with rfl | he
      · rw [hf] at q; exact nL b o e (Option.some.inj q).symm
      · exact nfr b hm env' he q
  · rw [reslot_size]; exact F.above
  · refine k.1 q.1 q.2 (N q hq).1 List.not_mem_nil fun env' he z => ?_
    rcases List.mem_cons.mp he with rfl | he
    · rw [hf] at z; exact (N q hq).2.1 (Option.some.inj z).symm
    · obtain ⟨o, _, e, _⟩ := fin q.1 (List.mem_filterMap.mpr ⟨env', he, z⟩)
      rw [(N q hq).2.2] at e; cases e
  · rw [reslot_out g h₂ _ fun hm => by obtain ⟨o, _, e, _⟩ := fin q.1 hm; rw [(N q hq).2.2] at e; cases e]
    exact (N q hq).2.2
  · by_cases hm : b ∈ l.filterMap (·.frame)
    · obtain ⟨o', sl, e1, _, _, e3⟩ := fin b hm
      rw [e1] at e
      cases e
      exact ⟨_, e3, rfl⟩
    · exact ⟨o, (reslot_out g h₂ _ hm).trans e, rfl⟩
  · exact (reslot_out g h₂ _ fun hm => by obtain ⟨env, he, q⟩ := List.mem_filterMap.mp hm; exact n env he q).trans e
  · by_cases hm : b ∈ l.filterMap (·.frame)
    · obtain ⟨o', sl, e1, _, _, e3⟩ := fin b hm
      rw [e1] at e
      cases e
      exact ⟨sl, e3⟩
    · exact ⟨o.slots, (reslot_out g h₂ _ hm).trans e⟩
end

section
variable {prog : Program} {w : World} {A A₀ : Around} {s : Shared} {K : Frag} {L : Addr} {H₀ : Heap} {mg mb : Str → Option Value} {p : Program} {loose : List Str} {mean : ExcName → Option Value} {l : List Env}
theorem enterL {R : Result → Shared → Prop} {name qual : Str} {params : Arguments} {body : Expr} {scope : Scope} {cl : List (Str × Addr)} {pm ctv : Value} {c' f : Addr} {args : Args} {binds : List (Str × Value)}
    (C : Cx K p loose mean mg mb H₀ l s.heap) (news : List (Addr × Obj)) (O : ∀ q ∈ news, Own H₀ l s.heap q.1 q.2) (hA : A.frames = some l)
    (ho : s.heap.get? f = some (kla_obj name qual params body scope cl pm c' ctv)) (hcd : s.heap.CodeRec (.ref c') qual) (hroom : A.depth < recursionLimit)
    (hbind : bindArgs (kla_fn name qual params body scope cl pm (.ref c') ctv) args = pure binds) (hloc : ∀ y ∈ binds, scope.names.lookup y.1 = some .local)
    (h : ∀ g L' h₁, s.heap.get? L' = none → (∀ b o, s.heap.get? b = some o → b ∉ news.map (·.1) → g.get? b = some o) → Fr g L' h₁ (fun y => binds.reverse.lookup y) → News g L' h₁ news → Below A H₀ l g → K.In g → Top p loose mean mg mb g →
      wpAny (model prog w) (A.deeper (envX qual scope L' f (.ref c') cl)) (eval body (envX qual scope L' f (.ref c') cl))
        (fun v s' => R (.ok (.ret v)) s')
        (fun e s' => wpAny (model prog w) (A.deeper (envX qual scope L' f (.ref c') cl)) (leaving (envX qual scope L' f (.ref c') cl) e) (fun _ s'' => R (.error e) s'') (fun e' s'' => R (.error e') s'') s')
        { s with heap := h₁, toks := s.toks + binds.length })
    (hco : scope.isCoroutine = false) (hgen : scope.isGenerator = false) (hk : scope.kind = .function) (hcell : ∀ x ∈ scope.names, x.2 ≠ .cell) : codeAny (model prog w) A (.call (.ref f) args) R s := by
  have hb : ∀ b o, H₀.get? b = some o → b ∉ news.map (·.1) := fun b o e q => by
    obtain ⟨x, hx, rfl⟩ := List.mem_map.mp q
    rw [(O x hx).2.1] at e; cases e
  have st : H₀.StaysIn (hideAll s.heap (news.map (·.1))) := fun b o e => hideAll_get _ (C.st b o e) (hb b o e)
  have fn : ∀ env ∈ l, ∀ a ∈ news.map (·.1), env.frame ≠ some a := fun env he a ha => by
    obtain ⟨x, hx, rfl⟩ := List.mem_map.mp ha
    exact (O x hx).2.2 env he
  refine kla_callFunE hroom ho rfl hco hgen rfl hcd ?_
  rw [hbind]
  refine wpAny_pure (wpAny_newFunctionEnv hcell hloc (fun h₁ hns hsb => ⟨((C.T.nolimit).keeps C.st).fresh _ hsb, ?_⟩) hk)
  show codeAny _ _ (.expr body (envX qual scope s.heap.objs.size f (.ref c') cl)) _ _
  have hk₁ : ∀ b o, s.heap.get? b = some o → h₁.get? b = some o := fun b o e => hsb.extBut b o (Nat.ne_of_lt (Heap.lt_size e)) (Heap.get?_push_of_some _ e)
  refine kla_codeExpr (h (hideAll s.heap (news.map (·.1))) s.heap.objs.size h₁ (Heap.get?_none_of_le (Nat.le_refl _)) (fun b o e n => hideAll_get _ e n) ⟨hns, fun b o e => hk₁ b o (of_hideAll _ e), Nat.le_of_eq (hideAll_size _ _)⟩ (fun q hq => ?_) ⟨hA, st, funFrames_hideAll C.ff fn⟩ (C.X.keeps (fun b o e => st b o e)) (C.T.keeps (fun b o e => st b o e)))
  exact ⟨hk₁ _ _ (O q hq).1, Nat.ne_of_lt (Heap.lt_size (O q hq).1), hideAll_none _ (List.mem_map_of_mem hq)⟩
end
end
section
open PySem PySem.Spec PySem.Calls PySem.W PyProof.Rows
/-- the body of a def of the text, as the written heap holds it -/
noncomputable def bodyOf (w : World) (a : Addr) : List Stmt := match List.lookup a (Mine.hd.heap_1 w.params) with
  | some o => match o.data with
    | .func f => match f.body with | .stmts b => b | _ => []
    | _ => []
  | none => []
noncomputable def scopeOf (w : World) (a : Addr) : Scope := match List.lookup a (Mine.hd.heap_1 w.params) with
  | some o => match o.data with
    | .func f => f.scope
    | _ => default
  | none => default
theorem KpF.refl (l : List Env) (h : Heap) (S : List Addr) : KpF l h h S := ⟨fun _ _ e _ _ => e, fun b o e _ _ => ⟨o.slots, e⟩⟩
theorem KpF.trans {l : List Env} {h h₁ h₂ : Heap} {S : List Addr} (k : KpF l h h₁ S) (x : KpF l h₁ h₂ S) : KpF l h h₂ S :=
  ⟨fun b o e n f => x.1 b o (k.1 b o e n f) n f, fun b o e n f => by
    obtain ⟨sl, e1⟩ := k.2 b o e n f
    obtain ⟨sl', e2⟩ := x.2 b _ e1 n f
    exact ⟨sl', e2⟩⟩
/-- a table of the code of two lambdas: empty, or both in it -/
def TabSt (cods : List (Addr × Obj)) (l1 c1 l2 c2 : Nat) (q1 q2 : Str) (ps : Array Value) : Prop :=
  ps = #[] ∨ ∃ a1 a2 o1 o2 vs1 vs2 t1 t2, ps = #[rawInt l1, rawInt c1, .ref a1, rawInt l2, rawInt c2, .ref a2] ∧ (a1, o1) ∈ cods ∧ (a2, o2) ∈ cods ∧ o1.data = .fields vs1 ∧ vs1[1]? = some (.str q1 t1) ∧ o2.data = .fields vs2 ∧ vs2[1]? = some (.str q2 t2)
section
variable {A : Around} {K : Frag} {H₀ h0 g g₂ h h' : Heap} {l : List Env} {L : Addr} {m : Str → Option Value} {S : List (Addr × Obj)} {S' : List Addr}
theorem kpF_end (hg : ∀ b o, h0.get? b = some o → b ∉ List.map (fun q : Addr × Obj => q.1) S → g.get? b = some o) (k : KpF l g g₂ []) (F : Fr g₂ L h' m) (N : ∀ q ∈ S, q.1 ∈ S' ∨ (h0.get? q.1 = some q.2 ∧ h'.get? q.1 = some q.2)) : KpF l h0 h' S' := by
  refine ⟨fun b o e n f => ?_, fun b o e n f => ?_⟩
  · by_cases q : b ∈ List.map (fun q : Addr × Obj => q.1) S
    · obtain ⟨x, hx, rfl⟩ := List.mem_map.mp q
      rcases N x hx with y | ⟨y, z⟩
      · exact absurd y n
      · rw [← e, y]; exact z
    · exact F.keep b o (k.1 b o (hg b o e q) List.not_mem_nil f)
  · by_cases q : b ∈ List.map (fun q : Addr × Obj => q.1) S
    · obtain ⟨x, hx, rfl⟩ := List.mem_map.mp q
      rcases N x hx with y | ⟨y, z⟩
      · exact absurd y n
      · rw [y] at e; cases e; exact ⟨_, z⟩
    · obtain ⟨sl, e1⟩ := k.2 b o (hg b o e q) List.not_mem_nil f
      exact ⟨sl, F.keep b _ e1⟩
theorem none_kpF (B : Below A H₀ l g) (k : KpF l g g₂ []) {c : Addr} (e : g₂.get? c = none) : g.get? c = none := by
  cases q : g.get? c with
  | none => rfl
  | some o =>
    by_cases hf : ∃ env ∈ l, env.frame = some c
    · obtain ⟨env, he, hfr⟩ := hf
      obtain ⟨_, o', ho', hd⟩ := B.frames.mem (List.mem_filterMap.mpr ⟨env, he, hfr⟩)
      rw [q] at ho'
      cases ho'
      obtain ⟨sl, e1⟩ := k.2 c o q List.not_mem_nil hd
      rw [e] at e1; cases e1
    · have := k.1 c o q List.not_mem_nil fun env he z => hf ⟨env, he, z⟩
      rw [e] at this; cases this
end
end
section
open PySem PySem.Spec PySem.Calls PySem.W PyProof.Rows

/-- a thunk that refuses: called from any frame, it throws, and leaves all else -/
def Refuses (w : World) (p : Program) (loose : List Str) (mean : ExcName → Option Value) (mg mb : Str → Option Value) (H₀ : Heap) (gd : Option (List Code)) (l : List Env) (s : Shared) (dp un : Nat) (f : Addr) : Prop :=
  ∀ (env : Env) (L' : Addr) (h' : Heap) (tk' : Tok) (dp' un' : Nat) (Q' E' : Value → Shared → Prop), env.frame = some L' → env.scope.kind = .function → s.heap.get? L' = none → Kp s.heap h' [] → Cx (Mine.hd.heap_1 w.params) p loose mean mg mb H₀ (env :: l) h' → dp' ≤ dp + 1 → un' ≤ un + 24 →
    (∀ e h'' tk'', Thrown (env :: l) h' h'' [] e → E' (.ref e) { s with heap := h'', toks := tk'' }) → wpAny (model PySem.Challenge.rw_on0238_01.row.prog w) (AA dp' un' gd (env :: l)) (call (.ref f) []) Q' E' { s with heap := h', toks := tk' }
theorem kp_nil {g h h' : Heap} {L : Addr} {m : Str → Option Value} (hg : ∀ b o, h.get? b = some o → b ∉ List.map (fun q : Addr × Obj => q.1) [] → g.get? b = some o) (F : Fr g L h' m) : Kp h h' [] := kp_of hg F
theorem kpF_of {env : Env} {l : List Env} {h h₁ h₂ : Heap} {L : Addr} (hL : h.get? L = none) (hf : env.frame = some L) (k : Kp h h₁ []) (x : KpF (env :: l) h₁ h₂ []) : KpF l h h₂ [] :=
  ⟨fun b o e n f => x.1 b o (k b o e n) n fun env' he q => by
    rcases List.mem_cons.mp he with rfl | he
    · rw [hf] at q; cases q; rw [hL] at e; cases e
    · exact f _ he q, fun b o e n f => x.2 b o (k b o e n) n f⟩
theorem fnAt_kp {f : Addr} {h h' : Heap} (X : FnAt f h) (k : Kp h h' []) : FnAt f h' := by
  obtain ⟨oc, od, fd, sl, e⟩ := X
  exact ⟨oc, od, fd, sl, k _ _ e (List.not_mem_nil)⟩
theorem refused_ok : ∀ (w : World) (p : Program) (loose : List Str) (mean : ExcName → Option Value) (mg mb : Str → Option Value) (H₀ : Heap)
  (dp un : Nat) (gd : Option (List Code)) (l : List Env) (s : Shared) (Q E : Value → Shared → Prop) (f : Addr),
  Cx (Mine.hd.heap_1 w.params) p loose mean mg mb H₀ l s.heap → (FnAt f s.heap) → (Refuses w p loose mean mg mb H₀ gd l s dp un f) →
  dp + 2 ≤ 400 → un + 24 ≤ 400 →
  (∀ h' tk', KpF l s.heap h' [] → Q (.bool true) {s with heap := h', toks := tk'}) →
  wpAny (model PySem.Challenge.rw_on0238_01.row.prog w) (AA dp un gd l) (call (.ref 328) [.ref f]) Q E s := by
  k_fill
  w_top off
  intro w p loose mean mg mb H₀ dp un gd l s Q E f C hfn hth hd hu hret
  refine wpAny_call ?_
  k_dflt (refine' enterK C [] ?O ?kA ?k6 ?k7 ?k8 ?k9 ?kB ?_ ?c2 ?c3 ?c4 ?c5; (case O => exact List.forall_mem_nil _); (case kA => exact rfl); (case k6 => k_is); (case k7 => k_is); (case k8 => ktr_room); (case k9 => exact BindsTo.of_eq rfl); (case c5 => decide); (case kB => exact locs rfl); (case c2 => exact rfl); (case c3 => exact rfl); (case c4 => exact rfl); k_whole; intro g L' h₁ hL hg F' N' B' X' T'; (try dsimp only); (try k_fold); (try (refine foldL ?_; intro eV aV)))
  (repeat' (first | (k_unfold; (try dsimp only)) | (k_end; wrow_close) | ((with_reducible show wpAny _ _ (call (Value.ref _) _) _ _ _); first | (with_reducible (k_here; (with_reducible rename Refuses _ _ _ _ _ _ _ _ _ _ _ _ _ => kT); (with_reducible rename Fr _ _ _ _ => kF); k_dflt (refine' kT _ _ _ _ _ _ _ _ ?a ?b ?c ?d ?C ?eq ?f ?_; (case a => exact rfl); (case b => exact rfl); (case c => assumption); (case d => exact kp_nil (by assumption) kF); (case C => exact Cx.next (by assumption) (by assumption) (by assumption) rfl rfl); (case eq => ktr_room); (case f => ktr_units); k_whole; intro eq h'q tk'q hTq)))) | ((with_reducible show wpAny _ _ (callWith _ (Value.ref _) _ _ _) _ _ _); first | (with_reducible (k_here; (with_reducible rename FnAt _ _ => kFn); (with_reducible rename Fr _ _ _ _ => kF); k_dflt (refine' callWith_F0 ?x ?_; (case x => exact fnAt_kp kFn (kp_nil (by assumption) kF)); k_whole; (try dsimp only [List.nil_append, List.cons_append]))))) | walk1 | (dsimp only; (with_reducible show wpAny _ _ _ _ _ _)) | (leave1; walk_say "STEP leave1"; try dsimp only) | fail "no step"))
  (with_reducible rename Fr _ _ _ _ => kF)
  (with_reducible rename Thrown _ _ _ _ _ => hT)
  refine caught_own rfl C.X C.T (fun b o e => kF.keep b o (B'.stays b o e)) (frames_none (Cx.next C B' kF rfl rfl).ff) hT (fun h'' k => ?_) rfl
  have k1 := kpF_of hL rfl (kp_nil hg kF) k
  clear k hT kF X' T' B' N' hg hL C
  (repeat' (first | (k_unfold; (try dsimp only)) | (k_end; wrow_close) | ((with_reducible show wpAny _ _ (call (Value.ref _) _) _ _ _); first | (with_reducible (k_here; (with_reducible rename Refuses _ _ _ _ _ _ _ _ _ _ _ _ _ => kT); (with_reducible rename Fr _ _ _ _ => kF); k_dflt (refine' kT _ _ _ _ _ _ _ _ ?a ?b ?c ?d ?C ?eq ?f ?_; (case a => exact rfl); (case b => exact rfl); (case c => assumption); (case d => exact kp_nil (by assumption) kF); (case C => exact Cx.next (by assumption) (by assumption) (by assumption) rfl rfl); (case eq => ktr_room); (case f => ktr_units); k_whole; intro eq h'q tk'q hTq)))) | ((with_reducible show wpAny _ _ (callWith _ (Value.ref _) _ _ _) _ _ _); first | (with_reducible (k_here; (with_reducible rename FnAt _ _ => kFn); (with_reducible rename Fr _ _ _ _ => kF); k_dflt (refine' callWith_F0 ?x ?_; (case x => exact fnAt_kp kFn (kp_nil (by assumption) kF)); k_whole; (try dsimp only [List.nil_append, List.cons_append]))))) | walk1 | (dsimp only; (with_reducible show wpAny _ _ _ _ _ _)) | (leave1; walk_say "STEP leave1"; try dsimp only) | fail "no step"))
  exact hret _ _ k1
end
section
open PySem PySem.Spec PySem.Calls PySem.W PyProof.Rows
structure CutR (P : Prop) : Prop where
  out : P
theorem kpF_mk {l : List Env} {g g₂ : Heap} (a : ∀ b o, g.get? b = some o → (∀ env ∈ l, env.frame ≠ some b) → g₂.get? b = some o) (b : ∀ b o, g.get? b = some o → (∀ vs, o.data ≠ .fields vs) → ∃ sl, g₂.get? b = some { o with slots := sl }) : KpF l g g₂ [] := ⟨fun c o e _ f => a c o e f, fun c o e _ f => b c o e f⟩
theorem own_more {H₀ h h9 : Heap} {l : List Env} {env9 : Env} {L9 a : Addr} {o : Obj} (O : Own H₀ l h a o) (k : Kp h h9 []) (hf : env9.frame = some L9) (hn : h.get? L9 = none) : Own H₀ (env9 :: l) h9 a o := ⟨k a o O.1 List.not_mem_nil, O.2.1, fun env he => by
  rcases List.mem_cons.mp he with rfl | he
  · rw [hf]; intro q; cases q; rw [O.1] at hn; cases hn
  · exact O.2.2 env he⟩
theorem news_more {g h : Heap} {L : Addr} {news : List (Addr × Obj)} {q : Addr × Obj} (N : News g L h news) (hq : q ∈ news) : News g L h (q :: news) := fun p hp => by
  rcases List.mem_cons.mp hp with rfl | hp
  · exact N _ hq
  · exact N p hp
theorem refused_use {w : World} {p : Program} {loose : List Str} {mean : ExcName → Option Value} {mg mb : Str → Option Value} {H₀ Hc g : Heap} {dp un : Nat} {gd : Option (List Code)} {l : List Env} {env : Env} {s : Shared} {Q E : Value → Shared → Prop} {f L : Addr} {A : Around} {m : Str → Option Value} {news : List (Addr × Obj)}
    (C : Cx (Mine.hd.heap_1 w.params) p loose mean mg mb H₀ l Hc) (B : Below A H₀ l g) (F : Fr g L s.heap m) (N : News g L s.heap news) (hf : env.frame = some L) (hk : env.scope.kind = .function)
    (fn : FnAt f s.heap) (Rf : CutR (Refuses w p loose mean mg mb H₀ gd (env :: l) s dp un f)) (hd : dp + 2 ≤ 400) (hu : un + 24 ≤ 400)
    (h : ∀ g2 h2 tk2, Fr g2 L h2 m → News g2 L h2 news → Below A H₀ l g2 → (Mine.hd.heap_1 w.params).In g2 → Top p loose mean mg mb g2 → KpF l g g2 [] → (∀ c, g2.get? c = none → g.get? c = none) → Q (.bool true) { s with heap := h2, toks := tk2 }) :
    wpAny (model PySem.Challenge.rw_on0238_01.row.prog w) (AA dp un gd (env :: l)) (call (.ref 328) [.ref f]) Q E s := by
  refine refused_ok w p loose mean mg mb H₀ dp un gd (env :: l) s Q E f (Cx.next C B F hf hk) fn Rf.out hd hu fun h2 tk2 hKF => ?_
  obtain ⟨g2, F', N', B', X', T', hk2, hk3⟩ := reground B F N C.X C.T hf hKF
  exact h g2 h2 tk2 F' N' B' X' T' (kpF_mk hk2 hk3) fun c e => none_kpF B (kpF_mk hk2 hk3) e
theorem refuse_go {w : World} {p : Program} {loose : List Str} {mean : ExcName → Option Value} {mg mb : Str → Option Value} {H₀ g : Heap} {dp un : Nat} {gd : Option (List Code)} {l : List Env} {env : Env} {s : Shared} {f L c' : Addr} {A : Around} {m : Str → Option Value} {news : List (Addr × Obj)} {oc : Obj} {vs : Array Value} {t : Tok}
    {name qual : Str} {params : Arguments} {body : Expr} {scope : Scope} {cl : List (Str × Addr)} {pm ctv : Value}
    (B : Below A H₀ l g) (F : Fr g L s.heap m) (N : News g L s.heap news) (hf : env.frame = some L) (S : List (Addr × Obj))
    (ho : (f, kla_obj name qual params body scope cl pm c' ctv) ∈ news) (hc : (c', oc) ∈ news) (hd : oc.data = .fields vs) (hv : vs[1]? = some (.str qual t)) (hS : ∀ q ∈ S, q ∈ news) (hdp : dp + 15 ≤ 400) (hun : un + 100 ≤ 400)
    (hbind : bindArgs (kla_fn name qual params body scope cl pm (.ref c') ctv) ⟨[], []⟩ = pure [])
    (hco : scope.isCoroutine = false) (hgen : scope.isGenerator = false) (hk : scope.kind = .function) (hcell : ∀ x ∈ scope.names, x.2 ≠ .cell)
    (h : ∀ (l9 : List Env) dp9 un9 (s9 : Shared) (Q9 E9 : Value → Shared → Prop) g9 L' h₁ tk1, dp9 + 14 ≤ 400 → un9 + 76 ≤ 400 → Cx (Mine.hd.heap_1 w.params) p loose mean mg mb H₀ l9 s9.heap →
      (∀ q ∈ news, s9.heap.get? q.1 = some q.2) → s9.heap.get? L' = none → (∀ b o, s9.heap.get? b = some o → b ∉ S.map (·.1) → g9.get? b = some o) → Fr g9 L' h₁ (fun _ => none) → News g9 L' h₁ S → Below (AA dp9 un9 gd l9) H₀ l9 g9 → (Mine.hd.heap_1 w.params).In g9 → Top p loose mean mg mb g9 →
      (∀ e h'' tk'', Thrown l9 s9.heap h'' [] e → E9 (.ref e) { s9 with heap := h'', toks := tk'' }) →
      wpAny (model PySem.Challenge.rw_on0238_01.row.prog w) ((AA dp9 un9 gd l9).deeper (envX qual scope L' f (.ref c') cl)) (eval body (envX qual scope L' f (.ref c') cl)) (fun v s' => Q9 v s')
        (fun e s' => wpAny (model PySem.Challenge.rw_on0238_01.row.prog w) ((AA dp9 un9 gd l9).deeper (envX qual scope L' f (.ref c') cl)) (leaving (envX qual scope L' f (.ref c') cl) e) (fun _ s'' => E9 e s'') (fun e' s'' => E9 e' s'') s') { s9 with heap := h₁, toks := tk1 }) :
    CutR (Refuses w p loose mean mg mb H₀ gd (env :: l) s dp un f) := by
  refine ⟨fun env9 L9 h9 tk9 dp9 un9 Q9 E9 hf9 hk9 hn9 hkp9 hC9 hd9 hu9 hret9 => wpAny_call ?_⟩
  have all : ∀ q ∈ news, h9.get? q.1 = some q.2 := fun q hq => hkp9 _ _ (N q hq).1 List.not_mem_nil
  refine enterL (s := { s with heap := h9, toks := tk9 }) (binds := []) hC9 S (fun q hq => own_more (own_of B N (hS q hq) hf) hkp9 hf9 hn9) rfl (all _ ho) ⟨c', oc, vs, t, rfl, all _ hc, hd, hv⟩ (Nat.lt_of_le_of_lt hd9 (Nat.lt_of_lt_of_le (by omega) (show 400 ≤ recursionLimit from by decide))) hbind (fun y hy => nomatch hy) (fun g9 L' h₁ hL hg F' N' B' X' T' => ?_) hco hgen hk hcell
  exact h (env9 :: env :: l) dp9 un9 { s with heap := h9, toks := tk9 } Q9 E9 g9 L' h₁ _ (by omega) (by omega) hC9 all hL hg F' N' B' X' T' hret9
theorem tab_end {g g0 h : Heap} {L f1 f2 c1 c2 x dx sc P : Addr} {ol1 ol2 oc1 oc2 X DX S : Obj} {t1 t2 t3 t4 t5 t6 t7 : Addr × Obj} {cods : List (Addr × Obj)} {l1 k1 l2 k2 : Nat} {q1 q2 : Str} {u1 u2 : Tok} {vs1 vs2 : Array Value}
    (N : News g L h ((f2, ol2) :: (c2, oc2) :: (f1, ol1) :: (c1, oc1) :: t1 :: t2 :: t3 :: t4 :: t5 :: t6 :: t7 :: (x, X) :: (dx, DX) :: (sc, S) :: (P, tabObj ((#[] ++ #[rawInt l1, rawInt k1, .ref c1]) ++ #[rawInt l2, rawInt k2, .ref c2])) :: cods))
    (d1 : oc1.data = .fields vs1) (v1 : vs1[1]? = some (.str q1 u1)) (d2 : oc2.data = .fields vs2) (v2 : vs2[1]? = some (.str q2 u2)) (hng : ∀ c, g.get? c = none → g0.get? c = none) (hc1 : @LT.lt Nat _ L c1) (hc2 : @LT.lt Nat _ L c2) :
    ∃ ps' cods', News g L h ((x, X) :: (dx, DX) :: (sc, S) :: (P, tabObj ps') :: cods') ∧ TabSt cods' l1 k1 l2 k2 q1 q2 ps' ∧ (∀ q ∈ cods, q ∈ cods') ∧ ∀ q ∈ cods', q ∈ cods ∨ (g0.get? q.1 = none ∧ @LT.lt Nat _ L q.1) := by
  refine ⟨_, (c1, oc1) :: (c2, oc2) :: cods, ?_, .inr ⟨c1, c2, oc1, oc2, vs1, vs2, u1, u2, rfl, .head _, .tail _ (.head _), d1, v1, d2, v2⟩, fun q hq => .tail _ (.tail _ hq), ?_⟩
  · have N' : ∀ q ∈ ((x, X) :: (dx, DX) :: (sc, S) :: (P, tabObj ((#[] ++ #[rawInt l1, rawInt k1, .ref c1]) ++ #[rawInt l2, rawInt k2, .ref c2])) :: cods), h.get? q.1 = some q.2 ∧ q.1 ≠ L ∧ g.get? q.1 = none := fun q hq => N q (.tail _ (.tail _ (.tail _ (.tail _ (.tail _ (.tail _ (.tail _ (.tail _ (.tail _ (.tail _ (.tail _ hq)))))))))))
    have e : (#[] ++ #[rawInt l1, rawInt k1, Value.ref c1]) ++ #[rawInt l2, rawInt k2, Value.ref c2] = #[rawInt l1, rawInt k1, .ref c1, rawInt l2, rawInt k2, .ref c2] := rfl
    rw [e] at N'
    intro q hq
    rcases List.mem_cons.mp hq with rfl | hq
    · exact N' _ (.head _)
    rcases List.mem_cons.mp hq with rfl | hq
    · exact N' _ (.tail _ (.head _))
    rcases List.mem_cons.mp hq with rfl | hq
    · exact N' _ (.tail _ (.tail _ (.head _)))
    rcases List.mem_cons.mp hq with rfl | hq
    · exact N' _ (.tail _ (.tail _ (.tail _ (.head _))))
    rcases List.mem_cons.mp hq with rfl | hq
    · exact N _ (.tail _ (.tail _ (.tail _ (.head _))))
    rcases List.mem_cons.mp hq with rfl | hq
    · exact N _ (.tail _ (.head _))
    · exact N' q (.tail _ (.tail _ (.tail _ (.tail _ hq))))
  · intro q hq
    rcases List.mem_cons.mp hq with rfl | hq
    · exact .inr ⟨hng _ (N _ (.tail _ (.tail _ (.tail _ (.head _))))).2.2, hc1⟩
    rcases List.mem_cons.mp hq with rfl | hq
    · exact .inr ⟨hng _ (N _ (.tail _ (.head _))).2.2, hc2⟩
    · exact .inl hq
theorem cut_last (b : List UInt8) (h : 1 ≤ b.length) : ((b.drop ((none : Option Int).elim 0 (clipAt b.length))).take ((some (-1) : Option Int).elim b.length (clipAt b.length) - (none : Option Int).elim 0 (clipAt b.length))).toArray = (b.take (b.length - 1)).toArray := by
  have e : clipAt b.length (-1) = b.length - 1 := by
    unfold clipAt
    split <;> omega
  show ((b.drop 0).take (clipAt b.length (-1) - 0)).toArray = _
  rw [e]; rfl
end
section
open PySem PySem.Spec PySem.Calls PySem.W PyProof.Rows
theorem room_d2 {dp : Nat} (h : dp + 3 ≤ 400) : dp + 1 < recursionLimit := Nat.lt_of_lt_of_le (Nat.lt_of_lt_of_le (Nat.add_lt_add_left (show 1 < 3 by decide) dp) h) (by decide)
def RetOct (s : Shared) (Q : Value → Shared → Prop) (W : Array UInt8) : Prop :=
  ∀ (x dx : Addr) (e1 : Int) (e2 : Int) (k1 : Tok) (k2 : Tok) (tb : Tok) (tk : Tok) (h' : Heap) (tk' : Tok), Kp s.heap h' [] → s.heap.get? x = none → s.heap.get? dx = none → @Ne Nat x dx → h'.get? x = some (instObj 191 dx) → h'.get? dx = some (dictOf [⟨e1, .str (Str.ofString "octets") k1, .bytes W tb⟩, ⟨e2, .str (Str.ofString "at") k2, .int 0 tk⟩] 2) → Q (.ref x) ⟨h', s.gens, s.drawn, tk', s.os⟩
theorem mkOct : ∀ (w : World) (p : Program) (loose : List Str) (mean : ExcName → Option Value) (mg mb : Str → Option Value) (H₀ : Heap) (dp un : Nat) (gd : Option (List Code)) (l : List Env) (s : Shared) (Q E : Value → Shared → Prop) (W : Array UInt8) (t1 : Tok),
  Cx (Mine.hd.heap_1 w.params) p loose mean mg mb H₀ l s.heap → dp + 3 ≤ 400 → un + 20 ≤ 400 → RetOct s Q W →
    wpAny (model PySem.Challenge.rw_on0238_01.row.prog w) (AA dp un gd l) (call (.ref 191) [.bytes W t1]) Q E s := by
  k_fill
  w_top off
  intro w p loose mean mg mb H₀ dp un gd l s Q E W t1 C hd hu hret
  k_dflt (refine' enterI (self := Str.ofString "self") (bs := [(Str.ofString "octets", .bytes W t1)]) C ?kA ?k1 ?k2 ?k3 ?k4 ?k5 ?k6 ?k7 ?k8 ?_ ?c2 ?c3 ?c4 ?c5; (case kA => exact rfl); (case k1 => k_is); (case k2 => k_is); (case k3 => k_is); (case k4 => k_is); (case k5 => k_is); (case k6 => exact room_d2 hd); (case k7 => exact fun x h' k => BindsTo.of_eq rfl); (case k8 => exact locs rfl); (case c5 => decide); (case c2 => exact rfl); (case c3 => exact rfl); (case c4 => exact rfl); k_whole; intro x dx g L' h₁ hx hdx hlt hg F' N' B' X' T'; (try dsimp only); (try k_fold); (try (refine foldL ?_; intro eV aV)))
  k_steps
  all_goals (try dsimp only)
  ((with_reducible rename Fr _ _ _ _ => kF); (with_reducible rename News _ _ _ _ => kN); exact hret x dx _ _ _ _ _ _ _ _ (fun b o e _ => kF.keep b o (hg b o e)) hx hdx (Nat.ne_of_gt hlt) (kN _ (.head _)).1 (kN _ (.tail _ (.head _))).1)
def RetOut (s : Shared) (Q : Value → Shared → Prop) (r : Addr) : Prop :=
  ∀ (x dx : Addr) (e1 : Int) (e2 : Int) (k1 : Tok) (k2 : Tok) (tb : Tok) (h' : Heap) (tk' : Tok), Kp s.heap h' [] → s.heap.get? x = none → s.heap.get? dx = none → @Ne Nat x dx → h'.get? x = some (instObj 97 dx) → h'.get? dx = some (dictOf [⟨e1, .str (Str.ofString "contours") k1, .ref r⟩, ⟨e2, .str (Str.ofString "instructions") k2, .bytes #[] tb⟩] 2) → Q (.ref x) ⟨h', s.gens, s.drawn, tk', s.os⟩
theorem mkOut : ∀ (w : World) (p : Program) (loose : List Str) (mean : ExcName → Option Value) (mg mb : Str → Option Value) (H₀ : Heap) (dp un : Nat) (gd : Option (List Code)) (l : List Env) (s : Shared) (Q E : Value → Shared → Prop) (r : Addr),
  Cx (Mine.hd.heap_1 w.params) p loose mean mg mb H₀ l s.heap → dp + 3 ≤ 400 → un + 20 ≤ 400 → RetOut s Q r →
    wpAny (model PySem.Challenge.rw_on0238_01.row.prog w) (AA dp un gd l) (call (.ref 97) [.ref r]) Q E s := by
  k_fill
  w_top off
  intro w p loose mean mg mb H₀ dp un gd l s Q E r C hd hu hret
  k_dflt (refine' enterI (self := Str.ofString "self") (bs := [(Str.ofString "contours", .ref r), (Str.ofString "instructions", .bytes #[] 255)]) C ?kA ?k1 ?k2 ?k3 ?k4 ?k5 ?k6 ?k7 ?k8 ?_ ?c2 ?c3 ?c4 ?c5; (case kA => exact rfl); (case k1 => k_is); (case k2 => k_is); (case k3 => k_is); (case k4 => k_is); (case k5 => k_is); (case k6 => exact room_d2 hd); (case k7 => exact fun x h' k => BindsTo.of_defaults rfl (k _ _ ((C.X.keeps C.st) _ _ (by k_is))) rfl rfl rfl); (case k8 => exact locs rfl); (case c5 => decide); (case c2 => exact rfl); (case c3 => exact rfl); (case c4 => exact rfl); k_whole; intro x dx g L' h₁ hx hdx hlt hg F' N' B' X' T'; (try dsimp only); (try k_fold); (try (refine foldL ?_; intro eV aV)))
  k_steps
  all_goals (try dsimp only)
  ((with_reducible rename Fr _ _ _ _ => kF); (with_reducible rename News _ _ _ _ => kN); exact hret x dx _ _ _ _ _ _ _ (fun b o e _ => kF.keep b o (hg b o e)) hx hdx (Nat.ne_of_gt hlt) (kN _ (.head _)).1 (kN _ (.tail _ (.head _))).1)
def RetPart (s : Shared) (Q : Value → Shared → Prop) (g f n : Int) (mv : Bool) (sc : Addr) : Prop :=
  ∀ (x dx : Addr) (e1 : Int) (e2 : Int) (e3 : Int) (e4 : Int) (e5 : Int) (k1 : Tok) (k2 : Tok) (k3 : Tok) (k4 : Tok) (k5 : Tok) (tg : Tok) (tf : Tok) (ts : Tok) (h' : Heap) (tk' : Tok), Kp s.heap h' [] → s.heap.get? x = none → s.heap.get? dx = none → @Ne Nat x dx → h'.get? x = some (instObj 221 dx) → h'.get? dx = some (partDict e1 e2 e3 e4 e5 k1 k2 k3 k4 k5 tg tf ts g f n mv sc) → Q (.ref x) ⟨h', s.gens, s.drawn, tk', s.os⟩
theorem mkPart : ∀ (w : World) (p : Program) (loose : List Str) (mean : ExcName → Option Value) (mg mb : Str → Option Value) (H₀ : Heap) (dp un : Nat) (gd : Option (List Code)) (l : List Env) (s : Shared) (Q E : Value → Shared → Prop) (g f n : Int) (mv : Bool) (sc : Addr) (t1 t2 t3 : Tok),
  Cx (Mine.hd.heap_1 w.params) p loose mean mg mb H₀ l s.heap → dp + 3 ≤ 400 → un + 20 ≤ 400 → RetPart s Q g f n mv sc →
    wpAny (model PySem.Challenge.rw_on0238_01.row.prog w) (AA dp un gd l) (call (.ref 221) [.int g t1, .int f t2, .int n t3, .bool mv, .ref sc]) Q E s := by
  k_fill
  w_top off
  intro w p loose mean mg mb H₀ dp un gd l s Q E g f n mv sc t1 t2 t3 C hd hu hret
  k_dflt (refine' enterI (self := Str.ofString "self") (bs := [(Str.ofString "glyph", .int g t1), (Str.ofString "first", .int f t2), (Str.ofString "second", .int n t3), (Str.ofString "is_move", .bool mv), (Str.ofString "scale", .ref sc)]) C ?kA ?k1 ?k2 ?k3 ?k4 ?k5 ?k6 ?k7 ?k8 ?_ ?c2 ?c3 ?c4 ?c5; (case kA => exact rfl); (case k1 => k_is); (case k2 => k_is); (case k3 => k_is); (case k4 => k_is); (case k5 => k_is); (case k6 => exact room_d2 hd); (case k7 => exact fun x h' k => BindsTo.of_defaults rfl (k _ _ ((C.X.keeps C.st) _ _ (by k_is))) rfl rfl rfl); (case k8 => exact locs rfl); (case c5 => decide); (case c2 => exact rfl); (case c3 => exact rfl); (case c4 => exact rfl); k_whole; intro x dx g L' h₁ hx hdx hlt hg F' N' B' X' T'; (try dsimp only); (try k_fold); (try (refine foldL ?_; intro eV aV)))
  k_steps
  all_goals (try dsimp only)
  ((with_reducible rename Fr _ _ _ _ => kF); (with_reducible rename News _ _ _ _ => kN); exact hret x dx _ _ _ _ _ _ _ _ _ _ _ _ _ _ _ (fun b o e _ => kF.keep b o (hg b o e)) hx hdx (Nat.ne_of_gt hlt) (kN _ (.head _)).1 (kN _ (.tail _ (.head _))).1)
theorem mkPart4 : ∀ (w : World) (p : Program) (loose : List Str) (mean : ExcName → Option Value) (mg mb : Str → Option Value) (H₀ : Heap) (dp un : Nat) (gd : Option (List Code)) (l : List Env) (s : Shared) (Q E : Value → Shared → Prop) (g f n : Int) (mv : Bool) (t1 t2 t3 : Tok),
  Cx (Mine.hd.heap_1 w.params) p loose mean mg mb H₀ l s.heap → dp + 3 ≤ 400 → un + 20 ≤ 400 → RetPart s Q g f n mv 203 →
    wpAny (model PySem.Challenge.rw_on0238_01.row.prog w) (AA dp un gd l) (call (.ref 221) [.int g t1, .int f t2, .int n t3, .bool mv]) Q E s := by
  k_fill
  w_top off
  intro w p loose mean mg mb H₀ dp un gd l s Q E g f n mv t1 t2 t3 C hd hu hret
  k_dflt (refine' enterI (self := Str.ofString "self") (bs := [(Str.ofString "glyph", .int g t1), (Str.ofString "first", .int f t2), (Str.ofString "second", .int n t3), (Str.ofString "is_move", .bool mv), (Str.ofString "scale", .ref 203)]) C ?kA ?k1 ?k2 ?k3 ?k4 ?k5 ?k6 ?k7 ?k8 ?_ ?c2 ?c3 ?c4 ?c5; (case kA => exact rfl); (case k1 => k_is); (case k2 => k_is); (case k3 => k_is); (case k4 => k_is); (case k5 => k_is); (case k6 => exact room_d2 hd); (case k7 => exact fun x h' k => BindsTo.of_defaults rfl (k _ _ ((C.X.keeps C.st) _ _ (by k_is))) rfl rfl rfl); (case k8 => exact locs rfl); (case c5 => decide); (case c2 => exact rfl); (case c3 => exact rfl); (case c4 => exact rfl); k_whole; intro x dx g L' h₁ hx hdx hlt hg F' N' B' X' T'; (try dsimp only); (try k_fold); (try (refine foldL ?_; intro eV aV)))
  k_steps
  all_goals (try dsimp only)
  ((with_reducible rename Fr _ _ _ _ => kF); (with_reducible rename News _ _ _ _ => kN); exact hret x dx _ _ _ _ _ _ _ _ _ _ _ _ _ _ _ (fun b o e _ => kF.keep b o (hg b o e)) hx hdx (Nat.ne_of_gt hlt) (kN _ (.head _)).1 (kN _ (.tail _ (.head _))).1)
end
section
open PySem PySem.Spec PySem.Calls PySem.W PyProof.Rows
theorem moved_ok : ∀ (w : World) (p : Program) (loose : List Str) (mean : ExcName → Option Value) (mg mb : Str → Option Value) (H₀ : Heap)
  (dp un : Nat) (gd : Option (List Code)) (l : List Env) (s : Shared) (Q E : Value → Shared → Prop) (v : Value) (x y : Int) (tx ty : Tok) (rows : List (List Pt)),
  Cx (Mine.hd.heap_1 w.params) p loose mean mg mb H₀ l s.heap → (RowsAt (fun c o => s.heap.get? c = some o) v rows) → (Small rows) →
  dp + 4 ≤ 400 → un + 30 ≤ 400 →
  (∀ v' h' tk', Kp s.heap h' [] → RowsAt (NM s.heap h') v' (rows.map (List.map (mvPt x y))) → Q v' {s with heap := h', toks := tk'}) →
  wpAny (model PySem.Challenge.rw_on0238_01.row.prog w) (AA dp un gd l) (call (.ref 106) [v, .int x tx, .int y ty]) Q E s := by
  k_fill
  w_top off
  intro w p loose mean mg mb H₀ dp un gd l s Q E v x y tx ty rows C hv hsm hd hu hret
  refine wpAny_call ?_
  k_dflt (refine' enterC C [] ?O ?kA ?k6 ?k7 ?k8 ?k9 ?kB ?kD ?_ ?c2 ?c3 ?c4; (case O => exact List.forall_mem_nil _); (case kA => exact rfl); (case k6 => k_is); (case k7 => k_is); (case k8 => ktr_room); (case k9 => exact BindsTo.of_eq rfl); (case kB => exact rfl); (case kD => decide +kernel); (case c2 => exact rfl); (case c3 => exact rfl); (case c4 => exact rfl); k_whole; intro g L' h₁ tk' cells hL hcl hg F' N' Y' B' X' T' l1; (try k_lt l1); obtain ⟨o1, o2, hE, d1, d2⟩ := CellsAre.two Y'; subst hE; clear Y'; replace d1 : o1.data = Data.cell (some (.int y ty)) := d1; replace d2 : o2.data = Data.cell (some (.int x tx)) := d2; replace F' : Fr g L' h₁ (fun y => if y = (Str.ofString "contours") then some v else none) := F'; (dsimp only [List.cons_append, List.nil_append] at N'); (try dsimp only); (try k_fold); (try (refine foldL ?_; intro eV aV)))
  (repeat' (first | (k_unfold; (try dsimp only)) | (k_end; wrow_close) | ((with_reducible show wpAny _ _ (eval (Expr.ListComp _ _ _ _) _) _ _ _); first | (with_reducible (k_here; (with_reducible rename Fr _ _ _ _ => kF); k_dflt (refine' comp_nest (fun _ => rule_tuple) ?hh ?cl ?cell ?kind ?names ?cl2 ?cell2 ?kind2 ?names2 ?xn ?db (frL kF) ?_; (case hh => exact rfl); (case cl => exact rfl); (case cell => decide); (case kind => exact rfl); (case names => decide); (case cl2 => intro _; exact rfl); (case cell2 => decide); (case kind2 => exact rfl); (case names2 => decide); (case xn => exact rfl); (case db => decide); k_whole; (dsimp only [frL]))))) | walk1 | (dsimp only; (with_reducible show wpAny _ _ _ _ _ _)) | (leave1; walk_say "STEP leave1"; try dsimp only) | fail "no step"))
  · (with_reducible show NestSrc _ _ _ _ _ _ _ _ _ _ _ _ _ _)
    (with_reducible rename Fr _ _ _ _ => kF)
    (with_reducible rename News _ _ _ _ => kN)
    refine ⟨mvPt x y, fun c o => s.heap.get? c = some o, rows, _, kF.ns, hv, fun c o hc => ⟨kF.keep c o (hg c o hc List.not_mem_nil), fun q => by rw [q, hL] at hc; cases hc⟩, hsm.1, hsm.2, ?_, ?_⟩
    · intro C1 C2 v2 M2 x2 s₃ oC m₃ E' hP hM3 eC hoC hC hk hkL hs₃
      obtain ⟨c2, t1, t2, rfl, hm2⟩ := hP
      obtain ⟨h3, tk3, rfl⟩ := hs₃
      refine assign3 rfl ⟨_, (hM3 _ _ hm2).1, rfl, _, rfl⟩ rfl rfl rfl (by decide) (by decide) (by decide) rfl eC hoC fun h4 tk4 oC4 m4 eC4 hoC4 hx1 hx2 hx3 hk4 => ?_
      obtain ⟨F4, hneC, rest, N4, hr⟩ := turn_in2 kF kN hC hk hkL hk4 eC4
      (try dsimp only [List.cons_append, List.nil_append] at N4)
      have hmm : ∀ m', h3.Ns _ m' → m' = _ := fun m' hm' => ns_unique (fr_kpL kF hk hkL).ns hm'
      clear kN eC hoC eC4 hk hkL
      (repeat' (first | (k_unfold; (try dsimp only)) | (k_end; wrow_close) | ((with_reducible show wpAny _ _ (eval (Expr.ListComp _ _ _ _) _) _ _ _); first | (with_reducible (k_here; (with_reducible rename Fr _ _ _ _ => kF); k_dflt (refine' comp_nest (fun _ => rule_tuple) ?hh ?cl ?cell ?kind ?names ?cl2 ?cell2 ?kind2 ?names2 ?xn ?db (frL kF) ?_; (case hh => exact rfl); (case cl => exact rfl); (case cell => decide); (case kind => exact rfl); (case names => decide); (case cl2 => intro _; exact rfl); (case cell2 => decide); (case kind2 => exact rfl); (case names2 => decide); (case xn => exact rfl); (case db => decide); k_whole; (dsimp only [frL]))))) | walk1 | (dsimp only; (with_reducible show wpAny _ _ _ _ _ _)) | (leave1; walk_say "STEP leave1"; try dsimp only) | fail "no step"))
      (with_reducible rename Fr _ _ _ _ => kF9)
      (with_reducible rename News _ _ _ _ => kN9)
      (with_reducible rename AllLt _ _ => l9)
      exact turn_out2 rfl hr hk4 hoC4 hmm kF9 kN9 (by k_mem) (by intro p hp; repeat (first | exact hp | exact List.mem_append_right _ hp | refine List.Mem.tail _ ?_)) (.head _) (by clear hret; repeat (first | exact l9 | exact allLt_right l9 | replace l9 := l9.2)) (Nat.ne_of_gt l9.1) (fun nm => ⟨_, _, _, rfl, nm⟩)
    · intro D h9 tk9 hD hk hkL hR
      have kF9 := fr_kpL kF hk hkL
      (try k_unfold); (try dsimp only)
      exact hret _ _ _ (kp_of hg kF9) (RowsAt.mono (fun c o ⟨q1, q2⟩ => ⟨q1, none_back hg kF q2⟩) hR)
end
section
open PySem PySem.Spec PySem.Calls PySem.W PyProof.Rows
theorem sn_ok : ∀ (w : World) (p : Program) (loose : List Str) (mean : ExcName → Option Value) (mg mb : Str → Option Value) (H₀ : Heap)
  (dp un : Nat) (gd : Option (List Code)) (l : List Env) (s : Shared) (Q E : Value → Shared → Prop) (x : Int) (t1 : Tok),
  Cx (Mine.hd.heap_1 w.params) p loose mean mg mb H₀ l s.heap →
  dp + 1 ≤ 400 → un + 8 ≤ 400 →
  (∀ t h' tk', Kp s.heap h' [] → Q (.int ((x + 8192).fdiv 16384) t) {s with heap := h', toks := tk'}) →
  wpAny (model PySem.Challenge.rw_on0238_01.row.prog w) (AA dp un gd l) (call (.ref 113) [.int x t1]) Q E s := by
  k_fill
  w_top off
  intro w p loose mean mg mb H₀ dp un gd l s Q E x t1 C  hd hu hret
  refine wpAny_call ?_
  k_dflt (refine' enterK C [] ?O ?kA ?k6 ?k7 ?k8 ?k9 ?kB ?_ ?c2 ?c3 ?c4 ?c5; (case O => exact List.forall_mem_nil _); (case kA => exact rfl); (case k6 => k_is); (case k7 => k_is); (case k8 => ktr_room); (case k9 => exact BindsTo.of_eq rfl); (case c5 => decide); (case kB => exact locs rfl); (case c2 => exact rfl); (case c3 => exact rfl); (case c4 => exact rfl); k_whole; intro g L' h₁ hL hg F' N' B' X' T'; (try dsimp only); (try k_fold); (try (refine foldL ?_; intro eV aV)))
  k_steps
  all_goals (try dsimp only)
  all_goals ((with_reducible rename Fr _ _ _ _ => kF); exact hret _ _ _ (kp_of hg kF))
theorem mul16 {a b : Int} (h : -32768 ≤ a ∧ a < 32768) : IntMulOk a b := IntMulOk.of_left (intBits_le_64 (by omega) (by omega))
local macro_rules | `(tactic| mul_fits) => `(tactic| exact mul16 (by assumption))
theorem turned_1 : ∀ (w : World) (p : Program) (loose : List Str) (mean : ExcName → Option Value) (mg mb : Str → Option Value) (H₀ : Heap)
  (dp un : Nat) (gd : Option (List Code)) (l : List Env) (s : Shared) (Q E : Value → Shared → Prop) (c0 ts : Addr) (v0 : Value) (n0 : Nat) (r0 : List Pt) (a b c d : Int) (ta tb tc td : Tok),
  Cx (Mine.hd.heap_1 w.params) p loose mean mg mb H₀ l s.heap → (Own H₀ l s.heap c0 (listOf #[v0] n0)) → (RowAt (fun q o => Own H₀ l s.heap q o) v0 r0) → (Small [r0]) → (Own H₀ l s.heap ts (tup [.int a ta, .int b tb, .int c tc, .int d td])) → (NeA c0 ts) → (-32768 ≤ a ∧ a < 32768) → (-32768 ≤ b ∧ b < 32768) → (-32768 ≤ c ∧ c < 32768) → (-32768 ≤ d ∧ d < 32768) →
  dp + 6 ≤ 400 → un + 40 ≤ 400 →
  (∀ v' h' tk', Kp s.heap h' [] → RowsAt (NM s.heap h') v' ([r0].map (List.map (trPt a b c d))) → Q v' {s with heap := h', toks := tk'}) →
  wpAny (model PySem.Challenge.rw_on0238_01.row.prog w) (AA dp un gd l) (call (.ref 118) [.ref c0, .ref ts]) Q E s := by
  k_fill
  w_top off
  intro w p loose mean mg mb H₀ dp un gd l s Q E c0 ts v0 n0 r0 a b c d ta tb tc td C hm hr0 hsm Ot hne ha hb hc hd hd hu hret
  refine wpAny_call ?_
  let oq1 : Obj := tup [.int a ta, .int b tb, .int c tc, .int d td]; k_dflt (refine' enterC C [(c0, listOf #[v0] n0), (ts, oq1)] ?O ?kA ?k6 ?k7 ?k8 ?k9 ?kB ?kD ?_ ?c2 ?c3 ?c4; (case O => exact (acons (hm) (List.forall_mem_singleton.mpr Ot))); (case kA => exact rfl); (case k6 => k_is); (case k7 => k_is); (case k8 => ktr_room); (case k9 => exact BindsTo.of_eq rfl); (case kB => exact rfl); (case kD => decide +kernel); (case c2 => exact rfl); (case c3 => exact rfl); (case c4 => exact rfl); k_whole; intro g L' h₁ tk' cells hL hcl hg F' N' Y' B' X' T' l1; (try k_lt l1); obtain ⟨o1, o2, o3, o4, hE, d1, d2, d3, d4⟩ := CellsAre.four Y'; subst hE; clear Y'; replace d1 : o1.data = Data.cell none := d1; replace d2 : o2.data = Data.cell none := d2; replace d3 : o3.data = Data.cell none := d3; replace d4 : o4.data = Data.cell none := d4; replace F' : Fr g L' h₁ (fun y => if y = (Str.ofString "scale") then some (.ref ts) else if y = (Str.ofString "contours") then some (.ref c0) else none) := F'; (dsimp only [List.cons_append, List.nil_append] at N'); (try dsimp only); (try k_fold); (try (refine foldL ?_; intro eV aV)))
  (repeat' (first | (k_unfold; (try dsimp only)) | (k_end; wrow_close) | ((with_reducible show wpAny _ _ (call (Value.ref _) _) _ _ _); first | (with_reducible (k_here; (with_reducible show wpAny _ _ (call (Value.ref 113) _) _ _ _); k_dflt ( refine' sn_ok _ _ _ _ _ _ _ _ _ _ _ _ _ _ _ _ ?C  ?hd ?hu ?_; (case C => exact Cx.next (by assumption) (by assumption) (by assumption) rfl rfl); (case hd => ktr_room); (case hu => ktr_units); k_whole; intro tq h'q tk'q hKq; (with_reducible rename Fr _ _ _ _ => kF); (with_reducible rename News _ _ _ _ => kN); have F'q := fr_kp0 kF hKq; have N'q := news_kp0 kN hKq; clear hKq; (try k_sweep))))) | ((with_reducible show wpAny _ _ (eval (Expr.ListComp _ _ _ _) _) _ _ _); first | (with_reducible (k_here; (with_reducible rename Fr _ _ _ _ => kF); k_dflt (refine' comp_map (Ei := PtAt) (Eo := PtAt) PtAt.mono rule_tuple ?hh ?cl ?cell ?kind ?names (frL kF) ?_; (case hh => exact rfl); (case cl => exact rfl); (case cell => decide); (case kind => exact rfl); (case names => decide); k_whole; (dsimp only [frL]))))) | ((with_reducible show UnrEnd _ _ _ _ _ _ _); first | (with_reducible ((refine unrEnd_hd (by with_reducible assumption) (by with_reducible assumption) ?ka (And.intro (by k_mem) ?_); (case ka => k_all)))) | (((refine unrEnd_hd (by with_reducible assumption) (by with_reducible assumption) ?ka (And.intro (by k_mem) ?_); (case ka => k_all))))) | walk1 | (dsimp only; (with_reducible show wpAny _ _ _ _ _ _)) | (leave1; walk_say "STEP leave1"; try dsimp only) | fail "no step"))
  (with_reducible show MapSrc _ _ _ _ _ _ _ _ _ _ _ _ _ _)
  (with_reducible rename Fr _ _ _ _ => kF)
  (with_reducible rename News _ _ _ _ => kN)
  have kp0 : Kp s.heap _ [] := kp_ofS hg kF ((acons (.inr ⟨hm.1, kN.get (by k_mem)⟩) (List.forall_mem_singleton.mpr (.inr ⟨Ot.1, kN.get (by k_mem)⟩))))
  refine ⟨trPt a b c d, fun q o => s.heap.get? q = some o, r0, _, kF.ns, RowAt.mono (fun q o z => z.1) hr0, fun q o z => ⟨kp0 q o z List.not_mem_nil, fun y => by have z2 := z; rw [y] at z2; exact none_some hL z2⟩, hsm.2 r0 (by simp), ?_, ?_⟩
  · intro C2 v2 x2 s₃ oC m₃ E' hx hP hM3 eC hoC hC hk hkL hs₃
    have hM3' := hM3
    obtain ⟨c2, t1, t2, rfl, hm2⟩ := hP
    obtain ⟨h3, tk3, rfl⟩ := hs₃
    refine assign3 rfl ⟨_, (hM3 _ _ hm2).1, rfl, _, rfl⟩ rfl rfl rfl (by decide) (by decide) (by decide) rfl eC hoC fun h4 tk4 oC4 m4 eC4 hoC4 hx1 hx2 hx3 hk4 => ?_
    obtain ⟨F4, hneC, rest, N4, hr⟩ := turn_in2 kF kN hC hk hkL hk4 eC4
    (try dsimp only [List.cons_append, List.nil_append] at N4)
    have hmm : ∀ m', h3.Ns _ m' → m' = _ := fun m' hm' => ns_unique (fr_kpL kF hk hkL).ns hm'
    clear kN eC hoC eC4 hk hkL
    (repeat' (first | (k_unfold; (try dsimp only)) | (k_end; wrow_close) | ((with_reducible show wpAny _ _ (call (Value.ref _) _) _ _ _); first | (with_reducible (k_here; (with_reducible show wpAny _ _ (call (Value.ref 113) _) _ _ _); k_dflt ( refine' sn_ok _ _ _ _ _ _ _ _ _ _ _ _ _ _ _ _ ?C  ?hd ?hu ?_; (case C => exact Cx.next (by assumption) (by assumption) (by assumption) rfl rfl); (case hd => ktr_room); (case hu => ktr_units); k_whole; intro tq h'q tk'q hKq; (with_reducible rename Fr _ _ _ _ => kF); (with_reducible rename News _ _ _ _ => kN); have F'q := fr_kp0 kF hKq; have N'q := news_kp0 kN hKq; clear hKq; (try k_sweep))))) | ((with_reducible show wpAny _ _ (eval (Expr.ListComp _ _ _ _) _) _ _ _); first | (with_reducible (k_here; (with_reducible rename Fr _ _ _ _ => kF); k_dflt (refine' comp_map (Ei := PtAt) (Eo := PtAt) PtAt.mono rule_tuple ?hh ?cl ?cell ?kind ?names (frL kF) ?_; (case hh => exact rfl); (case cl => exact rfl); (case cell => decide); (case kind => exact rfl); (case names => decide); k_whole; (dsimp only [frL]))))) | ((with_reducible show UnrEnd _ _ _ _ _ _ _); first | (with_reducible ((refine unrEnd_hd (by with_reducible assumption) (by with_reducible assumption) ?ka (And.intro (by k_mem) ?_); (case ka => k_all)))) | (((refine unrEnd_hd (by with_reducible assumption) (by with_reducible assumption) ?ka (And.intro (by k_mem) ?_); (case ka => k_all))))) | walk1 | (dsimp only; (with_reducible show wpAny _ _ _ _ _ _)) | (leave1; walk_say "STEP leave1"; try dsimp only) | fail "no step"))
    (with_reducible rename Fr _ _ _ _ => kF9)
    (with_reducible rename News _ _ _ _ => kN9)
    (with_reducible rename AllLt _ _ => l9)
    exact turn_out2 rfl hr hk4 hoC4 hmm kF9 kN9 (by k_mem) (by intro p hp; repeat (first | exact hp | exact List.mem_append_right _ hp | refine List.Mem.tail _ ?_)) (.head _) (by clear hret; repeat (first | exact l9 | exact allLt_right l9 | replace l9 := l9.2)) (Nat.ne_of_gt l9.1) (fun nm => ⟨_, _, _, rfl, nm⟩)
  · intro D h9 tk9 hD hk hkL hR
    obtain ⟨rest0, N9, off0, hf0, hR0⟩ := news_row kF kN hk hR
    have F9 := fr_kpL kF hk hkL
    replace hf0 : ∀ p ∈ rest0, s.heap.get? p.1 = none := fun p hp => none_kp kp0 (hf0 p hp)
    (try dsimp only [List.cons_append, List.nil_append] at N9)
    clear kF kN hk hkL hR
    (try k_unfold); (try dsimp only)
    (repeat' (first | (k_unfold; (try dsimp only)) | (k_end; wrow_close) | ((with_reducible show wpAny _ _ (call (Value.ref _) _) _ _ _); first | (with_reducible (k_here; (with_reducible show wpAny _ _ (call (Value.ref 113) _) _ _ _); k_dflt ( refine' sn_ok _ _ _ _ _ _ _ _ _ _ _ _ _ _ _ _ ?C  ?hd ?hu ?_; (case C => exact Cx.next (by assumption) (by assumption) (by assumption) rfl rfl); (case hd => ktr_room); (case hu => ktr_units); k_whole; intro tq h'q tk'q hKq; (with_reducible rename Fr _ _ _ _ => kF); (with_reducible rename News _ _ _ _ => kN); have F'q := fr_kp0 kF hKq; have N'q := news_kp0 kN hKq; clear hKq; (try k_sweep))))) | ((with_reducible show wpAny _ _ (eval (Expr.ListComp _ _ _ _) _) _ _ _); first | (with_reducible (k_here; (with_reducible rename Fr _ _ _ _ => kF); k_dflt (refine' comp_map (Ei := PtAt) (Eo := PtAt) PtAt.mono rule_tuple ?hh ?cl ?cell ?kind ?names (frL kF) ?_; (case hh => exact rfl); (case cl => exact rfl); (case cell => decide); (case kind => exact rfl); (case names => decide); k_whole; (dsimp only [frL]))))) | ((with_reducible show UnrEnd _ _ _ _ _ _ _); first | (with_reducible ((refine unrEnd_hd (by with_reducible assumption) (by with_reducible assumption) ?ka (And.intro (by k_mem) ?_); (case ka => k_all)))) | (((refine unrEnd_hd (by with_reducible assumption) (by with_reducible assumption) ?ka (And.intro (by k_mem) ?_); (case ka => k_all))))) | walk1 | (dsimp only; (with_reducible show wpAny _ _ _ _ _ _)) | (leave1; walk_say "STEP leave1"; try dsimp only) | fail "no step"))
    (try dsimp only)
    (with_reducible rename Fr _ _ _ _ => kF)
    (with_reducible rename News _ _ _ _ => kN)
    exact hret _ _ _ (kp_ofS hg kF ((acons (.inr ⟨hm.1, kN.get (by k_mem)⟩) (List.forall_mem_singleton.mpr (.inr ⟨Ot.1, kN.get (by k_mem)⟩))))) ⟨_, _, _, rfl, ⟨kN.get (.head _), fresh_of hg kN (.head _) (notin2 (by k_ne) (by k_ne))⟩, All2.cons_iff.mpr ⟨RowAt.mono (fun q o z => ⟨(kN (q, o) (by repeat (first | exact z | exact List.mem_append_left _ z | exact List.mem_append_right _ z | refine List.Mem.tail _ ?_))).1, hf0 _ z⟩) hR0, .nil⟩⟩

theorem turned_2 : ∀ (w : World) (p : Program) (loose : List Str) (mean : ExcName → Option Value) (mg mb : Str → Option Value) (H₀ : Heap)
  (dp un : Nat) (gd : Option (List Code)) (l : List Env) (s : Shared) (Q E : Value → Shared → Prop) (c0 ts : Addr) (v0 v1 : Value) (n0 : Nat) (r0 r1 : List Pt) (a b c d : Int) (ta tb tc td : Tok),
  Cx (Mine.hd.heap_1 w.params) p loose mean mg mb H₀ l s.heap → (Own H₀ l s.heap c0 (listOf #[v0, v1] n0)) → (RowAt (fun q o => Own H₀ l s.heap q o) v0 r0) → (RowAt (fun q o => Own H₀ l s.heap q o) v1 r1) → (Small [r0, r1]) → (Own H₀ l s.heap ts (tup [.int a ta, .int b tb, .int c tc, .int d td])) → (NeA c0 ts) → (-32768 ≤ a ∧ a < 32768) → (-32768 ≤ b ∧ b < 32768) → (-32768 ≤ c ∧ c < 32768) → (-32768 ≤ d ∧ d < 32768) →
  dp + 6 ≤ 400 → un + 40 ≤ 400 →
  (∀ v' h' tk', Kp s.heap h' [] → RowsAt (NM s.heap h') v' ([r0, r1].map (List.map (trPt a b c d))) → Q v' {s with heap := h', toks := tk'}) →
  wpAny (model PySem.Challenge.rw_on0238_01.row.prog w) (AA dp un gd l) (call (.ref 118) [.ref c0, .ref ts]) Q E s := by
  k_fill
  w_top off
  intro w p loose mean mg mb H₀ dp un gd l s Q E c0 ts v0 v1 n0 r0 r1 a b c d ta tb tc td C hm hr0 hr1 hsm Ot hne ha hb hc hd hd hu hret
  refine wpAny_call ?_
  let oq1 : Obj := tup [.int a ta, .int b tb, .int c tc, .int d td]; k_dflt (refine' enterC C [(c0, listOf #[v0, v1] n0), (ts, oq1)] ?O ?kA ?k6 ?k7 ?k8 ?k9 ?kB ?kD ?_ ?c2 ?c3 ?c4; (case O => exact (acons (hm) (List.forall_mem_singleton.mpr Ot))); (case kA => exact rfl); (case k6 => k_is); (case k7 => k_is); (case k8 => ktr_room); (case k9 => exact BindsTo.of_eq rfl); (case kB => exact rfl); (case kD => decide +kernel); (case c2 => exact rfl); (case c3 => exact rfl); (case c4 => exact rfl); k_whole; intro g L' h₁ tk' cells hL hcl hg F' N' Y' B' X' T' l1; (try k_lt l1); obtain ⟨o1, o2, o3, o4, hE, d1, d2, d3, d4⟩ := CellsAre.four Y'; subst hE; clear Y'; replace d1 : o1.data = Data.cell none := d1; replace d2 : o2.data = Data.cell none := d2; replace d3 : o3.data = Data.cell none := d3; replace d4 : o4.data = Data.cell none := d4; replace F' : Fr g L' h₁ (fun y => if y = (Str.ofString "scale") then some (.ref ts) else if y = (Str.ofString "contours") then some (.ref c0) else none) := F'; (dsimp only [List.cons_append, List.nil_append] at N'); (try dsimp only); (try k_fold); (try (refine foldL ?_; intro eV aV)))
  (repeat' (first | (k_unfold; (try dsimp only)) | (k_end; wrow_close) | ((with_reducible show wpAny _ _ (call (Value.ref _) _) _ _ _); first | (with_reducible (k_here; (with_reducible show wpAny _ _ (call (Value.ref 113) _) _ _ _); k_dflt ( refine' sn_ok _ _ _ _ _ _ _ _ _ _ _ _ _ _ _ _ ?C  ?hd ?hu ?_; (case C => exact Cx.next (by assumption) (by assumption) (by assumption) rfl rfl); (case hd => ktr_room); (case hu => ktr_units); k_whole; intro tq h'q tk'q hKq; (with_reducible rename Fr _ _ _ _ => kF); (with_reducible rename News _ _ _ _ => kN); have F'q := fr_kp0 kF hKq; have N'q := news_kp0 kN hKq; clear hKq; (try k_sweep))))) | ((with_reducible show wpAny _ _ (eval (Expr.ListComp _ _ _ _) _) _ _ _); first | (with_reducible (k_here; (with_reducible rename Fr _ _ _ _ => kF); k_dflt (refine' comp_map (Ei := PtAt) (Eo := PtAt) PtAt.mono rule_tuple ?hh ?cl ?cell ?kind ?names (frL kF) ?_; (case hh => exact rfl); (case cl => exact rfl); (case cell => decide); (case kind => exact rfl); (case names => decide); k_whole; (dsimp only [frL]))))) | ((with_reducible show UnrEnd _ _ _ _ _ _ _); first | (with_reducible ((refine unrEnd_hd (by with_reducible assumption) (by with_reducible assumption) ?ka (And.intro (by k_mem) ?_); (case ka => k_all)))) | (((refine unrEnd_hd (by with_reducible assumption) (by with_reducible assumption) ?ka (And.intro (by k_mem) ?_); (case ka => k_all))))) | walk1 | (dsimp only; (with_reducible show wpAny _ _ _ _ _ _)) | (leave1; walk_say "STEP leave1"; try dsimp only) | fail "no step"))
  (with_reducible show MapSrc _ _ _ _ _ _ _ _ _ _ _ _ _ _)
  (with_reducible rename Fr _ _ _ _ => kF)
  (with_reducible rename News _ _ _ _ => kN)
  have kp0 : Kp s.heap _ [] := kp_ofS hg kF ((acons (.inr ⟨hm.1, kN.get (by k_mem)⟩) (List.forall_mem_singleton.mpr (.inr ⟨Ot.1, kN.get (by k_mem)⟩))))
  refine ⟨trPt a b c d, fun q o => s.heap.get? q = some o, r0, _, kF.ns, RowAt.mono (fun q o z => z.1) hr0, fun q o z => ⟨kp0 q o z List.not_mem_nil, fun y => by have z2 := z; rw [y] at z2; exact none_some hL z2⟩, hsm.2 r0 (by simp), ?_, ?_⟩
  · intro C2 v2 x2 s₃ oC m₃ E' hx hP hM3 eC hoC hC hk hkL hs₃
    have hM3' := hM3
    obtain ⟨c2, t1, t2, rfl, hm2⟩ := hP
    obtain ⟨h3, tk3, rfl⟩ := hs₃
    refine assign3 rfl ⟨_, (hM3 _ _ hm2).1, rfl, _, rfl⟩ rfl rfl rfl (by decide) (by decide) (by decide) rfl eC hoC fun h4 tk4 oC4 m4 eC4 hoC4 hx1 hx2 hx3 hk4 => ?_
    obtain ⟨F4, hneC, rest, N4, hr⟩ := turn_in2 kF kN hC hk hkL hk4 eC4
    (try dsimp only [List.cons_append, List.nil_append] at N4)
    have hmm : ∀ m', h3.Ns _ m' → m' = _ := fun m' hm' => ns_unique (fr_kpL kF hk hkL).ns hm'
    clear kN eC hoC eC4 hk hkL
    (repeat' (first | (k_unfold; (try dsimp only)) | (k_end; wrow_close) | ((with_reducible show wpAny _ _ (call (Value.ref _) _) _ _ _); first | (with_reducible (k_here; (with_reducible show wpAny _ _ (call (Value.ref 113) _) _ _ _); k_dflt ( refine' sn_ok _ _ _ _ _ _ _ _ _ _ _ _ _ _ _ _ ?C  ?hd ?hu ?_; (case C => exact Cx.next (by assumption) (by assumption) (by assumption) rfl rfl); (case hd => ktr_room); (case hu => ktr_units); k_whole; intro tq h'q tk'q hKq; (with_reducible rename Fr _ _ _ _ => kF); (with_reducible rename News _ _ _ _ => kN); have F'q := fr_kp0 kF hKq; have N'q := news_kp0 kN hKq; clear hKq; (try k_sweep))))) | ((with_reducible show wpAny _ _ (eval (Expr.ListComp _ _ _ _) _) _ _ _); first | (with_reducible (k_here; (with_reducible rename Fr _ _ _ _ => kF); k_dflt (refine' comp_map (Ei := PtAt) (Eo := PtAt) PtAt.mono rule_tuple ?hh ?cl ?cell ?kind ?names (frL kF) ?_; (case hh => exact rfl); (case cl => exact rfl); (case cell => decide); (case kind => exact rfl); (case names => decide); k_whole; (dsimp only [frL]))))) | ((with_reducible show UnrEnd _ _ _ _ _ _ _); first | (with_reducible ((refine unrEnd_hd (by with_reducible assumption) (by with_reducible assumption) ?ka (And.intro (by k_mem) ?_); (case ka => k_all)))) | (((refine unrEnd_hd (by with_reducible assumption) (by with_reducible assumption) ?ka (And.intro (by k_mem) ?_); (case ka => k_all))))) | walk1 | (dsimp only; (with_reducible show wpAny _ _ _ _ _ _)) | (leave1; walk_say "STEP leave1"; try dsimp only) | fail "no step"))
    (with_reducible rename Fr _ _ _ _ => kF9)
    (with_reducible rename News _ _ _ _ => kN9)
    (with_reducible rename AllLt _ _ => l9)
    exact turn_out2 rfl hr hk4 hoC4 hmm kF9 kN9 (by k_mem) (by intro p hp; repeat (first | exact hp | exact List.mem_append_right _ hp | refine List.Mem.tail _ ?_)) (.head _) (by clear hret; repeat (first | exact l9 | exact allLt_right l9 | replace l9 := l9.2)) (Nat.ne_of_gt l9.1) (fun nm => ⟨_, _, _, rfl, nm⟩)
  · intro D h9 tk9 hD hk hkL hR
    obtain ⟨rest0, N9, off0, hf0, hR0⟩ := news_row kF kN hk hR
    have F9 := fr_kpL kF hk hkL
    replace hf0 : ∀ p ∈ rest0, s.heap.get? p.1 = none := fun p hp => none_kp kp0 (hf0 p hp)
    (try dsimp only [List.cons_append, List.nil_append] at N9)
    clear kF kN hk hkL hR
    (try k_unfold); (try dsimp only)
    (repeat' (first | (k_unfold; (try dsimp only)) | (k_end; wrow_close) | ((with_reducible show wpAny _ _ (call (Value.ref _) _) _ _ _); first | (with_reducible (k_here; (with_reducible show wpAny _ _ (call (Value.ref 113) _) _ _ _); k_dflt ( refine' sn_ok _ _ _ _ _ _ _ _ _ _ _ _ _ _ _ _ ?C  ?hd ?hu ?_; (case C => exact Cx.next (by assumption) (by assumption) (by assumption) rfl rfl); (case hd => ktr_room); (case hu => ktr_units); k_whole; intro tq h'q tk'q hKq; (with_reducible rename Fr _ _ _ _ => kF); (with_reducible rename News _ _ _ _ => kN); have F'q := fr_kp0 kF hKq; have N'q := news_kp0 kN hKq; clear hKq; (try k_sweep))))) | ((with_reducible show wpAny _ _ (eval (Expr.ListComp _ _ _ _) _) _ _ _); first | (with_reducible (k_here; (with_reducible rename Fr _ _ _ _ => kF); k_dflt (refine' comp_map (Ei := PtAt) (Eo := PtAt) PtAt.mono rule_tuple ?hh ?cl ?cell ?kind ?names (frL kF) ?_; (case hh => exact rfl); (case cl => exact rfl); (case cell => decide); (case kind => exact rfl); (case names => decide); k_whole; (dsimp only [frL]))))) | ((with_reducible show UnrEnd _ _ _ _ _ _ _); first | (with_reducible ((refine unrEnd_hd (by with_reducible assumption) (by with_reducible assumption) ?ka (And.intro (by k_mem) ?_); (case ka => k_all)))) | (((refine unrEnd_hd (by with_reducible assumption) (by with_reducible assumption) ?ka (And.intro (by k_mem) ?_); (case ka => k_all))))) | walk1 | (dsimp only; (with_reducible show wpAny _ _ _ _ _ _)) | (leave1; walk_say "STEP leave1"; try dsimp only) | fail "no step"))
    (with_reducible show MapSrc _ _ _ _ _ _ _ _ _ _ _ _ _ _)
    (with_reducible rename Fr _ _ _ _ => kF)
    (with_reducible rename News _ _ _ _ => kN)
    have kp1 : Kp s.heap _ [] := kp_ofS hg kF ((acons (.inr ⟨hm.1, kN.get (by k_mem)⟩) (List.forall_mem_singleton.mpr (.inr ⟨Ot.1, kN.get (by k_mem)⟩))))
    refine ⟨trPt a b c d, fun q o => s.heap.get? q = some o, r1, _, kF.ns, RowAt.mono (fun q o z => z.1) hr1, fun q o z => ⟨kp1 q o z List.not_mem_nil, fun y => by have z2 := z; rw [y] at z2; exact none_some hL z2⟩, hsm.2 r1 (by simp), ?_, ?_⟩
    · intro C2 v2 x2 s₃ oC m₃ E' hx hP hM3 eC hoC hC hk hkL hs₃
      have hM3' := hM3
      obtain ⟨c2, t1, t2, rfl, hm2⟩ := hP
      obtain ⟨h3, tk3, rfl⟩ := hs₃
      refine assign3 rfl ⟨_, (hM3 _ _ hm2).1, rfl, _, rfl⟩ rfl rfl rfl (by decide) (by decide) (by decide) rfl eC hoC fun h4 tk4 oC4 m4 eC4 hoC4 hx1 hx2 hx3 hk4 => ?_
      obtain ⟨F4, hneC, rest, N4, hr⟩ := turn_in2 kF kN hC hk hkL hk4 eC4
      (try dsimp only [List.cons_append, List.nil_append] at N4)
      have hmm : ∀ m', h3.Ns _ m' → m' = _ := fun m' hm' => ns_unique (fr_kpL kF hk hkL).ns hm'
      clear kN eC hoC eC4 hk hkL
      (repeat' (first | (k_unfold; (try dsimp only)) | (k_end; wrow_close) | ((with_reducible show wpAny _ _ (call (Value.ref _) _) _ _ _); first | (with_reducible (k_here; (with_reducible show wpAny _ _ (call (Value.ref 113) _) _ _ _); k_dflt ( refine' sn_ok _ _ _ _ _ _ _ _ _ _ _ _ _ _ _ _ ?C  ?hd ?hu ?_; (case C => exact Cx.next (by assumption) (by assumption) (by assumption) rfl rfl); (case hd => ktr_room); (case hu => ktr_units); k_whole; intro tq h'q tk'q hKq; (with_reducible rename Fr _ _ _ _ => kF); (with_reducible rename News _ _ _ _ => kN); have F'q := fr_kp0 kF hKq; have N'q := news_kp0 kN hKq; clear hKq; (try k_sweep))))) | ((with_reducible show wpAny _ _ (eval (Expr.ListComp _ _ _ _) _) _ _ _); first | (with_reducible (k_here; (with_reducible rename Fr _ _ _ _ => kF); k_dflt (refine' comp_map (Ei := PtAt) (Eo := PtAt) PtAt.mono rule_tuple ?hh ?cl ?cell ?kind ?names (frL kF) ?_; (case hh => exact rfl); (case cl => exact rfl); (case cell => decide); (case kind => exact rfl); (case names => decide); k_whole; (dsimp only [frL]))))) | ((with_reducible show UnrEnd _ _ _ _ _ _ _); first | (with_reducible ((refine unrEnd_hd (by with_reducible assumption) (by with_reducible assumption) ?ka (And.intro (by k_mem) ?_); (case ka => k_all)))) | (((refine unrEnd_hd (by with_reducible assumption) (by with_reducible assumption) ?ka (And.intro (by k_mem) ?_); (case ka => k_all))))) | walk1 | (dsimp only; (with_reducible show wpAny _ _ _ _ _ _)) | (leave1; walk_say "STEP leave1"; try dsimp only) | fail "no step"))
      (with_reducible rename Fr _ _ _ _ => kF9)
      (with_reducible rename News _ _ _ _ => kN9)
      (with_reducible rename AllLt _ _ => l9)
      exact turn_out2 rfl hr hk4 hoC4 hmm kF9 kN9 (by k_mem) (by intro p hp; repeat (first | exact hp | exact List.mem_append_right _ hp | refine List.Mem.tail _ ?_)) (.head _) (by clear hret; repeat (first | exact l9 | exact allLt_right l9 | replace l9 := l9.2)) (Nat.ne_of_gt l9.1) (fun nm => ⟨_, _, _, rfl, nm⟩)
    · intro D h9 tk9 hD hk hkL hR
      obtain ⟨rest1, N9, off1, hf1, hR1⟩ := news_row kF kN hk hR
      have F9 := fr_kpL kF hk hkL
      replace hf1 : ∀ p ∈ rest1, s.heap.get? p.1 = none := fun p hp => none_kp kp1 (hf1 p hp)
      (try dsimp only [List.cons_append, List.nil_append] at N9)
      clear kF kN hk hkL hR
      (try k_unfold); (try dsimp only)
      (repeat' (first | (k_unfold; (try dsimp only)) | (k_end; wrow_close) | ((with_reducible show wpAny _ _ (call (Value.ref _) _) _ _ _); first | (with_reducible (k_here; (with_reducible show wpAny _ _ (call (Value.ref 113) _) _ _ _); k_dflt ( refine' sn_ok _ _ _ _ _ _ _ _ _ _ _ _ _ _ _ _ ?C  ?hd ?hu ?_; (case C => exact Cx.next (by assumption) (by assumption) (by assumption) rfl rfl); (case hd => ktr_room); (case hu => ktr_units); k_whole; intro tq h'q tk'q hKq; (with_reducible rename Fr _ _ _ _ => kF); (with_reducible rename News _ _ _ _ => kN); have F'q := fr_kp0 kF hKq; have N'q := news_kp0 kN hKq; clear hKq; (try k_sweep))))) | ((with_reducible show wpAny _ _ (eval (Expr.ListComp _ _ _ _) _) _ _ _); first | (with_reducible (k_here; (with_reducible rename Fr _ _ _ _ => kF); k_dflt (refine' comp_map (Ei := PtAt) (Eo := PtAt) PtAt.mono rule_tuple ?hh ?cl ?cell ?kind ?names (frL kF) ?_; (case hh => exact rfl); (case cl => exact rfl); (case cell => decide); (case kind => exact rfl); (case names => decide); k_whole; (dsimp only [frL]))))) | ((with_reducible show UnrEnd _ _ _ _ _ _ _); first | (with_reducible ((refine unrEnd_hd (by with_reducible assumption) (by with_reducible assumption) ?ka (And.intro (by k_mem) ?_); (case ka => k_all)))) | (((refine unrEnd_hd (by with_reducible assumption) (by with_reducible assumption) ?ka (And.intro (by k_mem) ?_); (case ka => k_all))))) | walk1 | (dsimp only; (with_reducible show wpAny _ _ _ _ _ _)) | (leave1; walk_say "STEP leave1"; try dsimp only) | fail "no step"))
      (try dsimp only)
      (with_reducible rename Fr _ _ _ _ => kF)
      (with_reducible rename News _ _ _ _ => kN)
      exact hret _ _ _ (kp_ofS hg kF ((acons (.inr ⟨hm.1, kN.get (by k_mem)⟩) (List.forall_mem_singleton.mpr (.inr ⟨Ot.1, kN.get (by k_mem)⟩))))) ⟨_, _, _, rfl, ⟨kN.get (.head _), fresh_of hg kN (.head _) (notin2 (by k_ne) (by k_ne))⟩, All2.cons_iff.mpr ⟨RowAt.mono (fun q o z => ⟨(kN (q, o) (by repeat (first | exact z | exact List.mem_append_left _ z | exact List.mem_append_right _ z | refine List.Mem.tail _ ?_))).1, hf0 _ z⟩) hR0, All2.cons_iff.mpr ⟨RowAt.mono (fun q o z => ⟨(kN (q, o) (by repeat (first | exact z | exact List.mem_append_left _ z | exact List.mem_append_right _ z | refine List.Mem.tail _ ?_))).1, hf1 _ z⟩) hR1, .nil⟩⟩⟩
end
section
open PySem PySem.Spec PySem.Calls PySem.W PyProof.Rows
theorem points_1 : ∀ (w : World) (p : Program) (loose : List Str) (mean : ExcName → Option Value) (mg mb : Str → Option Value) (H₀ : Heap)
  (dp un : Nat) (gd : Option (List Code)) (l : List Env) (s : Shared) (Q E : Value → Shared → Prop) (x dx c0 c1 : Addr) (e1 e2 : Int) (k1 k2 tb : Tok) (n0 n1 : Nat) (w1 : List Value),
  Cx (Mine.hd.heap_1 w.params) p loose mean mg mb H₀ l s.heap → (Own H₀ l s.heap x (instObj 97 dx)) → (Own H₀ l s.heap dx (dictOf [⟨e1, .str (Str.ofString "contours") k1, .ref c0⟩, ⟨e2, .str (Str.ofString "instructions") k2, .bytes #[] tb⟩] 2)) → (Own H₀ l s.heap c0 (listOf #[.ref c1] n0)) → (Own H₀ l s.heap c1 (listOf w1.toArray n1)) → (w1.length ≤ 100) →
  dp + 4 ≤ 400 → un + 30 ≤ 400 →
  (∀ r n' h' tk', s.heap.get? r = none → Kp s.heap h' [] → h'.get? r = some (listOf (w1).toArray n') → Q (.ref r) {s with heap := h', toks := tk'}) →
  wpAny (model PySem.Challenge.rw_on0238_01.row.prog w) (AA dp un gd l) (call (.ref 75) [.ref x]) Q E s := by
  k_fill
  w_top off
  intro w p loose mean mg mb H₀ dp un gd l s Q E x dx c0 c1 e1 e2 k1 k2 tb n0 n1 w1 C Ox Od Oc O1 hl1 hd hu hret
  refine wpAny_call ?_
  let oq1 : Obj := dictOf [⟨e1, .str (Str.ofString "contours") k1, .ref c0⟩, ⟨e2, .str (Str.ofString "instructions") k2, .bytes #[] tb⟩] 2; k_dflt (refine' enterK C [(x, instObj 97 dx), (dx, oq1), (c0, listOf #[.ref c1] n0), (c1, listOf w1.toArray n1)] ?O ?kA ?k6 ?k7 ?k8 ?k9 ?kB ?_ ?c2 ?c3 ?c4 ?c5; (case O => exact (acons (Ox) ((acons (Od) ((acons (Oc) (List.forall_mem_singleton.mpr O1))))))); (case kA => exact rfl); (case k6 => k_is); (case k7 => k_is); (case k8 => ktr_room); (case k9 => exact BindsTo.of_eq rfl); (case c5 => decide); (case kB => exact locs rfl); (case c2 => exact rfl); (case c3 => exact rfl); (case c4 => exact rfl); k_whole; intro g L' h₁ hL hg F' N' B' X' T'; (try dsimp only); (try k_fold); (try (refine foldL ?_; intro eV aV)))
  (repeat' (first | (k_unfold; (try dsimp only)) | (k_end; wrow_close) | ((with_reducible show wpAny _ _ (binaryOp Operator.Add (Value.ref _) (Value.ref _)) _ _ _); first | (with_reducible (k_here; (with_reducible show wpAny _ _ (binaryOp Operator.Add (Value.ref _) (Value.ref _)) _ _ _); k_dflt (refine' kmk_add_lit ?F ?N ?a ?b rfl ?_ ?z; (case F => k_asm); (case N => k_asm); (case a => kmk_list); (case b => kmk_list); (case z => (refine Nat.le_trans ?_ (show 300 ≤ sizeLine from by rw [sizeLine_eq]; decide); simp; omega)); k_whole); intro D'q h'q F'q N'q l1q; (try k_lt l1q); (try k_sweep)))) | walk1 | (dsimp only; (with_reducible show wpAny _ _ _ _ _ _)) | (leave1; walk_say "STEP leave1"; try dsimp only) | fail "no step"))
  (try dsimp only)
  (try k_unfold); (try dsimp only)
  (with_reducible rename Fr _ _ _ _ => kF)
  (with_reducible rename News _ _ _ _ => kN)
  exact hret _ _ _ _ (fresh_of hg kN (.head _) (neAll_notin (by repeat (first | exact trivial | refine And.intro (by k_ne) ?_)))) (kp_ofS hg kF ((acons (.inr ⟨Ox.1, kN.get (by k_mem)⟩) ((acons (.inr ⟨Od.1, kN.get (by k_mem)⟩) ((acons (.inr ⟨Oc.1, kN.get (by k_mem)⟩) (List.forall_mem_singleton.mpr (.inr ⟨O1.1, kN.get (by k_mem)⟩))))))))) (kN.get (.head _))
theorem points_2 : ∀ (w : World) (p : Program) (loose : List Str) (mean : ExcName → Option Value) (mg mb : Str → Option Value) (H₀ : Heap)
  (dp un : Nat) (gd : Option (List Code)) (l : List Env) (s : Shared) (Q E : Value → Shared → Prop) (x dx c0 c1 c2 : Addr) (e1 e2 : Int) (k1 k2 tb : Tok) (n0 n1 n2 : Nat) (w1 w2 : List Value),
  Cx (Mine.hd.heap_1 w.params) p loose mean mg mb H₀ l s.heap → (Own H₀ l s.heap x (instObj 97 dx)) → (Own H₀ l s.heap dx (dictOf [⟨e1, .str (Str.ofString "contours") k1, .ref c0⟩, ⟨e2, .str (Str.ofString "instructions") k2, .bytes #[] tb⟩] 2)) → (Own H₀ l s.heap c0 (listOf #[.ref c1, .ref c2] n0)) → (Own H₀ l s.heap c1 (listOf w1.toArray n1)) → (Own H₀ l s.heap c2 (listOf w2.toArray n2)) → (w1.length ≤ 100) → (w2.length ≤ 100) →
  dp + 4 ≤ 400 → un + 30 ≤ 400 →
  (∀ r n' h' tk', s.heap.get? r = none → Kp s.heap h' [] → h'.get? r = some (listOf (w1 ++ w2).toArray n') → Q (.ref r) {s with heap := h', toks := tk'}) →
  wpAny (model PySem.Challenge.rw_on0238_01.row.prog w) (AA dp un gd l) (call (.ref 75) [.ref x]) Q E s := by
  k_fill
  w_top off
  intro w p loose mean mg mb H₀ dp un gd l s Q E x dx c0 c1 c2 e1 e2 k1 k2 tb n0 n1 n2 w1 w2 C Ox Od Oc O1 O2 hl1 hl2 hd hu hret
  refine wpAny_call ?_
  let oq1 : Obj := dictOf [⟨e1, .str (Str.ofString "contours") k1, .ref c0⟩, ⟨e2, .str (Str.ofString "instructions") k2, .bytes #[] tb⟩] 2; let oq2 : Obj := listOf #[.ref c1, .ref c2] n0; k_dflt (refine' enterK C [(x, instObj 97 dx), (dx, oq1), (c0, oq2), (c1, listOf w1.toArray n1), (c2, listOf w2.toArray n2)] ?O ?kA ?k6 ?k7 ?k8 ?k9 ?kB ?_ ?c2 ?c3 ?c4 ?c5; (case O => exact (acons (Ox) ((acons (Od) ((acons (Oc) ((acons (O1) (List.forall_mem_singleton.mpr O2))))))))); (case kA => exact rfl); (case k6 => k_is); (case k7 => k_is); (case k8 => ktr_room); (case k9 => exact BindsTo.of_eq rfl); (case c5 => decide); (case kB => exact locs rfl); (case c2 => exact rfl); (case c3 => exact rfl); (case c4 => exact rfl); k_whole; intro g L' h₁ hL hg F' N' B' X' T'; (try dsimp only); (try k_fold); (try (refine foldL ?_; intro eV aV)))
  (repeat' (first | (k_unfold; (try dsimp only)) | (k_end; wrow_close) | ((with_reducible show wpAny _ _ (binaryOp Operator.Add (Value.ref _) (Value.ref _)) _ _ _); first | (with_reducible (k_here; (with_reducible show wpAny _ _ (binaryOp Operator.Add (Value.ref _) (Value.ref _)) _ _ _); k_dflt (refine' kmk_add_lit ?F ?N ?a ?b rfl ?_ ?z; (case F => k_asm); (case N => k_asm); (case a => kmk_list); (case b => kmk_list); (case z => (refine Nat.le_trans ?_ (show 300 ≤ sizeLine from by rw [sizeLine_eq]; decide); simp; omega)); k_whole); intro D'q h'q F'q N'q l1q; (try k_lt l1q); (try k_sweep)))) | walk1 | (dsimp only; (with_reducible show wpAny _ _ _ _ _ _)) | (leave1; walk_say "STEP leave1"; try dsimp only) | fail "no step"))
  (try dsimp only)
  (try k_unfold); (try dsimp only)
  (with_reducible rename Fr _ _ _ _ => kF)
  (with_reducible rename News _ _ _ _ => kN)
  exact hret _ _ _ _ (fresh_of hg kN (.head _) (neAll_notin (by repeat (first | exact trivial | refine And.intro (by k_ne) ?_)))) (kp_ofS hg kF ((acons (.inr ⟨Ox.1, kN.get (by k_mem)⟩) ((acons (.inr ⟨Od.1, kN.get (by k_mem)⟩) ((acons (.inr ⟨Oc.1, kN.get (by k_mem)⟩) ((acons (.inr ⟨O1.1, kN.get (by k_mem)⟩) (List.forall_mem_singleton.mpr (.inr ⟨O2.1, kN.get (by k_mem)⟩))))))))))) (kN.get (.head _))
end
section
open PySem PySem.Spec PySem.Calls PySem.W PyProof.Rows
theorem two_len12 {α : Type} {xs : List α} (h : xs.length = 1 ∨ xs.length = 2) : (∃ a, xs = [a]) ∨ ∃ a b, xs = [a, b] := by
  match xs, h with
  | [a], _ => exact .inl ⟨a, rfl⟩
  | [a, b], _ => exact .inr ⟨a, b, rfl⟩
theorem All2.one {α : Type} {E : Value → α → Prop} {vs : List Value} {x : α} (a : All2 E vs [x]) : ∃ v, vs = [v] ∧ E v x := by
  match vs, a.1 with
  | [v], _ => exact ⟨v, rfl, (All2.cons_iff.mp a).1⟩
theorem All2.two {α : Type} {E : Value → α → Prop} {vs : List Value} {x y : α} (a : All2 E vs [x, y]) : ∃ v u, vs = [v, u] ∧ E v x ∧ E u y := by
  match vs, a.1 with
  | [v, u], _ => exact ⟨v, u, rfl, (All2.cons_iff.mp a).1, (All2.cons_iff.mp (All2.cons_iff.mp a).2).1⟩
theorem All2.append {α : Type} {E : Value → α → Prop} : ∀ {vs us : List Value} {xs ys : List α}, All2 E vs xs → All2 E us ys → All2 E (vs ++ us) (xs ++ ys)
  | [], _, [], _, _, b => b
  | [], _, _ :: _, _, a, _ => nomatch a.1
  | _ :: _, _, [], _, a, _ => nomatch a.1
  | _ :: _, _, _ :: _, _, a, b => All2.cons_iff.mpr ⟨(All2.cons_iff.mp a).1, All2.append (All2.cons_iff.mp a).2 b⟩
theorem own_ne {H₀ h : Heap} {l : List Env} {a b : Addr} {o o' : Obj} (x : Own H₀ l h a o) (y : Own H₀ l h b o') (n : o.cls ≠ o'.cls) : a ≠ b := fun z => by
  have e := x.1; rw [z, y.1] at e; exact n (by rw [Option.some.inj e])
def Sm (rows : List (List Pt)) : Prop := (rows.length = 1 ∨ rows.length = 2) ∧ ∀ r ∈ rows, 1 ≤ r.length ∧ r.length ≤ 3
theorem Sm.small {rows : List (List Pt)} (h : Sm rows) : Small rows := ⟨by rcases h.1 with q | q <;> omega, fun r hr => by have := (h.2 r hr).2; omega⟩
theorem Sm.map {rows : List (List Pt)} {f : Pt → Pt} (h : Sm rows) : Sm (rows.map (List.map f)) := ⟨by rw [List.length_map]; exact h.1, fun r hr => by
  obtain ⟨r', hr', rfl⟩ := List.mem_map.mp hr
  rw [List.length_map]
  exact h.2 r' hr'⟩
theorem turned_ok : ∀ (w : World) (p : Program) (loose : List Str) (mean : ExcName → Option Value) (mg mb : Str → Option Value) (H₀ : Heap)
  (dp un : Nat) (gd : Option (List Code)) (l : List Env) (s : Shared) (Q E : Value → Shared → Prop) (v : Value) (ts : Addr) (rows : List (List Pt)) (a b c d : Int) (ta tb tc td : Tok),
  Cx (Mine.hd.heap_1 w.params) p loose mean mg mb H₀ l s.heap → (RowsAt (fun q o => Own H₀ l s.heap q o) v rows) → (Sm rows) → (Own H₀ l s.heap ts (tup [.int a ta, .int b tb, .int c tc, .int d td])) → (-32768 ≤ a ∧ a < 32768) → (-32768 ≤ b ∧ b < 32768) → (-32768 ≤ c ∧ c < 32768) → (-32768 ≤ d ∧ d < 32768) →
  dp + 6 ≤ 400 → un + 40 ≤ 400 →
  (∀ v' h' tk', Kp s.heap h' [] → RowsAt (NM s.heap h') v' (rows.map (List.map (trPt a b c d))) → Q v' {s with heap := h', toks := tk'}) →
  wpAny (model PySem.Challenge.rw_on0238_01.row.prog w) (AA dp un gd l) (call (.ref 118) [v, .ref ts]) Q E s := by
  intro w p loose mean mg mb H₀ dp un gd l s Q E v ts rows a b c d ta tb tc td C hv hsm Ot haa hbb hcc hdd hd hu hret
  obtain ⟨c0, vs, n0, rfl, hm, a2⟩ := hv
  have hne : NeA c0 ts := own_ne hm Ot (by intro z; exact absurd (Value.type.inj z) (by decide))
  rcases two_len12 hsm.1 with ⟨r0, rfl⟩ | ⟨r0, r1, rfl⟩
  · obtain ⟨v0, rfl, h0⟩ := a2.one
    exact turned_1 w p loose mean mg mb H₀ dp un gd l s Q E c0 ts v0 n0 r0 a b c d ta tb tc td C hm h0 hsm.small Ot hne haa hbb hcc hdd hd hu hret
  · obtain ⟨v0, v1, rfl, h0, h1⟩ := a2.two
    exact turned_2 w p loose mean mg mb H₀ dp un gd l s Q E c0 ts v0 v1 n0 r0 r1 a b c d ta tb tc td C hm h0 h1 hsm.small Ot hne haa hbb hcc hdd hd hu hret
theorem points_ok : ∀ (w : World) (p : Program) (loose : List Str) (mean : ExcName → Option Value) (mg mb : Str → Option Value) (H₀ : Heap)
  (dp un : Nat) (gd : Option (List Code)) (l : List Env) (s : Shared) (Q E : Value → Shared → Prop) (M : Addr → Obj → Prop) (x dx : Addr) (v : Value) (e1 e2 : Int) (k1 k2 tb : Tok) (rows : List (List Pt)),
  Cx (Mine.hd.heap_1 w.params) p loose mean mg mb H₀ l s.heap → (Own H₀ l s.heap x (instObj 97 dx)) → (Own H₀ l s.heap dx (dictOf [⟨e1, .str (Str.ofString "contours") k1, v⟩, ⟨e2, .str (Str.ofString "instructions") k2, .bytes #[] tb⟩] 2)) → (∀ c o, M c o → Own H₀ l s.heap c o) → (RowsAt M v rows) → (Sm rows) →
  dp + 4 ≤ 400 → un + 30 ≤ 400 →
  (∀ r ws n' h' tk', s.heap.get? r = none → Kp s.heap h' [] → h'.get? r = some (listOf (List.toArray ws) n') → All2 (PtAt M) ws rows.flatten → Q (.ref r) {s with heap := h', toks := tk'}) →
  wpAny (model PySem.Challenge.rw_on0238_01.row.prog w) (AA dp un gd l) (call (.ref 75) [.ref x]) Q E s := by
  intro w p loose mean mg mb H₀ dp un gd l s Q E M x dx v e1 e2 k1 k2 tb rows C Ox Od hM hv hsm hd hu hret
  obtain ⟨c0, vs, n0, rfl, hm, a2⟩ := hv
  rcases two_len12 hsm.1 with ⟨r0, rfl⟩ | ⟨r0, r1, rfl⟩
  · obtain ⟨v0, rfl, c1, w1, n1, rfl, m1, b1⟩ := a2.one
    refine points_1 w p loose mean mg mb H₀ dp un gd l s Q E x dx c0 c1 e1 e2 k1 k2 tb n0 n1 w1 C Ox Od (hM _ _ hm) (hM _ _ m1) (by rw [b1.1]; have := hsm.2 r0 (by simp); omega) hd hu fun r n' h' tk' q1 q2 q3 => hret r _ n' h' tk' q1 q2 q3 ?_
    simpa using b1
  · obtain ⟨v0, v1, rfl, ⟨c1, w1, n1, rfl, m1, b1⟩, ⟨c2, w2, n2, rfl, m2, b2⟩⟩ := a2.two
    refine points_2 w p loose mean mg mb H₀ dp un gd l s Q E x dx c0 c1 c2 e1 e2 k1 k2 tb n0 n1 n2 w1 w2 C Ox Od (hM _ _ hm) (hM _ _ m1) (hM _ _ m2) (by rw [b1.1]; have := hsm.2 r0 (by simp); omega) (by rw [b2.1]; have := hsm.2 r1 (by simp); omega) hd hu fun r n' h' tk' q1 q2 q3 => hret r _ n' h' tk' q1 q2 q3 ?_
    simpa using All2.append b1 b2
end
section
open PySem PySem.Spec PySem.Calls PySem.W PyProof.Rows
theorem rows_off {M : Addr → Obj → Prop} {v : Value} {rows : List (List Pt)} {a : Addr} {oa : Obj} (hM : ∀ o, M a o → o = oa) (hl : ∀ vs n, oa ≠ listOf vs n) (hp : ∀ p t1 t2, oa ≠ ptObj p t1 t2) (h : RowsAt M v rows) : RowsAt (fun c o => M c o ∧ c ≠ a) v rows := by
  obtain ⟨c0, vs, n, e, m, b⟩ := h
  refine ⟨c0, vs, n, e, ⟨m, fun z => hl _ _ (hM _ (z ▸ m)).symm⟩, b.mono fun u r hr => ?_⟩
  obtain ⟨c1, us, n1, e1, m1, b1⟩ := hr
  refine ⟨c1, us, n1, e1, ⟨m1, fun z => hl _ _ (hM _ (z ▸ m1)).symm⟩, b1.mono fun y p hy => ?_⟩
  obtain ⟨c2, t1, t2, e2, m2⟩ := hy
  exact ⟨c2, t1, t2, e2, m2, fun z => hp _ _ _ (hM _ (z ▸ m2)).symm⟩
theorem own_obj {H₀ h : Heap} {l : List Env} {a : Addr} {oa : Obj} (x : Own H₀ l h a oa) : ∀ o, Own H₀ l h a o → o = oa := fun o y => by
  have := y.1; rw [x.1] at this; exact (Option.some.inj this).symm
/-- rows of the caller's, as the frame at hand sees them -/
def Up (g : Heap) (L : Addr) (H₀ : Heap) (l : List Env) (v : Value) (rows : List (List Pt)) : Prop := ∀ h m, Fr g L h m → RowsAt (fun c o => Own H₀ l h c o) v rows
theorem Up.at {g : Heap} {L : Addr} {H₀ : Heap} {l : List Env} {v : Value} {rows : List (List Pt)} {h : Heap} {m : Str → Option Value} (u : Up g L H₀ l v rows) (F : Fr g L h m) : RowsAt (fun c o => Own H₀ l h c o) v rows := u h m F
theorem up_of {g h : Heap} {L : Addr} {H₀ : Heap} {l : List Env} {env : Env} {v : Value} {rows : List (List Pt)} {S : List (Addr × Obj)} (hf : env.frame = some L) (hL : h.get? L = none) (hg : ∀ b o, h.get? b = some o → b ∉ List.map (fun q : Addr × Obj => q.1) S → g.get? b = some o)
    (hv : RowsAt (fun c o => Own H₀ l h c o ∧ c ∉ List.map (fun q : Addr × Obj => q.1) S) v rows) : Up g L H₀ (env :: l) v rows := fun h' m F => RowsAt.mono (fun c o ⟨z, n⟩ => ⟨F.keep c o (hg c o z.1 n), z.2.1, fun e he => by
      rcases List.mem_cons.mp he with rfl | he
      · rw [hf]; intro q; cases q; have := z.1; rw [hL] at this; cases this
      · exact z.2.2 e he⟩) hv
theorem rows_off3 {H₀ h : Heap} {l : List Env} {v : Value} {rows : List (List Pt)} {x dx sc : Addr} {X DX SC : Obj} (hx : Own H₀ l h x X) (hd : Own H₀ l h dx DX) (hs : Own H₀ l h sc SC)
    (x1 : ∀ vs n, X ≠ listOf vs n) (x2 : ∀ p t1 t2, X ≠ ptObj p t1 t2) (d1 : ∀ vs n, DX ≠ listOf vs n) (d2 : ∀ p t1 t2, DX ≠ ptObj p t1 t2) (s1 : ∀ vs n, SC ≠ listOf vs n) (s2 : ∀ p t1 t2, SC ≠ ptObj p t1 t2)
    (hv : RowsAt (fun c o => Own H₀ l h c o) v rows) : RowsAt (fun c o => Own H₀ l h c o ∧ c ∉ List.map (fun q : Addr × Obj => q.1) [(x, X), (dx, DX), (sc, SC)]) v rows := by
  have h1 := rows_off (a := x) (own_obj hx) x1 x2 hv
  have h2 := rows_off (a := dx) (oa := DX) (fun o z => own_obj hd o z.1) d1 d2 h1
  have h3 := rows_off (a := sc) (oa := SC) (fun o z => own_obj hs o z.1.1) s1 s2 h2
  refine RowsAt.mono (fun c o z => ⟨z.1.1.1, fun hm => ?_⟩) h3
  rcases List.mem_cons.mp hm with q | hm
  · exact z.1.1.2 q
  rcases List.mem_cons.mp hm with q | hm
  · exact z.1.2 q
  · exact z.2 (List.mem_singleton.mp hm)
theorem list_ne_inst {a b : Addr} (vs : Array Value) (n : Nat) : instObj a b ≠ listOf vs n := fun z => by
  have := congrArg Obj.cls z
  cases this
theorem pt_ne_inst {a b : Addr} (p : Pt) (t1 t2 : Tok) : instObj a b ≠ ptObj p t1 t2 := fun z => by
  have := congrArg Obj.cls z
  cases this
theorem list_ne_dict {es : List DictEntry} {k : Nat} (vs : Array Value) (n : Nat) : dictOf es k ≠ listOf vs n := fun z => absurd (Value.type.inj (congrArg Obj.cls z)) (by decide)
theorem pt_ne_dict {es : List DictEntry} {k : Nat} (p : Pt) (t1 t2 : Tok) : dictOf es k ≠ ptObj p t1 t2 := fun z => absurd (Value.type.inj (congrArg Obj.cls z)) (by decide)
theorem list_ne_tup {ys : List Value} (vs : Array Value) (n : Nat) : tup ys ≠ listOf vs n := fun z => absurd (Value.type.inj (congrArg Obj.cls z)) (by decide)
theorem pt_ne_tup4 {a b c d : Value} (p : Pt) (t1 t2 : Tok) : tup [a, b, c, d] ≠ ptObj p t1 t2 := fun z => by
  have := congrArg Obj.data z
  cases this
theorem trPt_unit (p : Pt) : trPt 16384 0 0 16384 p = p := by
  obtain ⟨x, y, on⟩ := p
  have e : ∀ z : Int, (16384 * z + 8192).fdiv 16384 = z := fun z => by
    rw [Int.fdiv_eq_ediv_of_nonneg _ (by decide)]; omega
  show (((16384 * x + 0 * y + 8192).fdiv 16384, (0 * x + 16384 * y + 8192).fdiv 16384, on) : Pt) = _
  rw [Int.zero_mul, Int.zero_mul, Int.add_zero, Int.zero_add, e, e]
theorem rows_eq {M : Addr → Obj → Prop} {v : Value} {a b : List (List Pt)} (e : a = b) (h : RowsAt M v a) : RowsAt M v b := e ▸ h
theorem news_rows0 {g h h9 : Heap} {L : Addr} {m : Str → Option Value} {news : List (Addr × Obj)} {v : Value} {rows : List (List Pt)} (F : Fr g L h m) (N : News g L h news) (k : Kp h h9 []) (hR : RowsAt (NM h h9) v rows) :
    ∃ rest, News g L h9 (news ++ rest) ∧ Off rest news ∧ RowsAt (fun c o => (c, o) ∈ rest) v rows := by
  obtain ⟨rest, a, b, _, c⟩ := news_rows F N (k.weak fun _ z => nomatch z) hR
  exact ⟨rest, a, b, c⟩
theorem placed_m : ∀ (w : World) (p : Program) (loose : List Str) (mean : ExcName → Option Value) (mg mb : Str → Option Value) (H₀ : Heap)
  (dp un : Nat) (gd : Option (List Code)) (l : List Env) (s : Shared) (Q E : Value → Shared → Prop) (x dx sc : Addr) (vi vo : Value) (ri ro : List (List Pt)) (e1 e2 e3 e4 e5 : Int) (k1 k2 k3 k4 k5 tg tf ts ta tb tc td : Tok) (gl f n : Int) (a b c d : Int),
  Cx (Mine.hd.heap_1 w.params) p loose mean mg mb H₀ l s.heap → (Own H₀ l s.heap x (instObj 221 dx)) → (Own H₀ l s.heap dx (partDict e1 e2 e3 e4 e5 k1 k2 k3 k4 k5 tg tf ts gl f n true sc)) → (Own H₀ l s.heap sc (tup [.int a ta, .int b tb, .int c tc, .int d td])) → (RowsAt (fun q o => Own H₀ l s.heap q o) vi ri) → (RowsAt (fun q o => Own H₀ l s.heap q o) vo ro) → (Sm ri) → (Sm ro) → (-32768 ≤ a ∧ a < 32768) → (-32768 ≤ b ∧ b < 32768) → (-32768 ≤ c ∧ c < 32768) → (-32768 ≤ d ∧ d < 32768) →
  dp + 12 ≤ 400 → un + 80 ≤ 400 →
  (∀ v' h' tk', Kp s.heap h' [] → RowsAt (NM s.heap h') v' (ri.map (List.map fun q => mvPt f n (trPt a b c d q))) → Q v' {s with heap := h', toks := tk'}) →
  wpAny (model PySem.Challenge.rw_on0238_01.row.prog w) (AA dp un gd l) (call (.ref 253) [.ref x, vi, vo]) Q E s := by
  k_fill
  w_top off
  intro w p loose mean mg mb H₀ dp un gd l s Q E x dx sc vi vo ri ro e1 e2 e3 e4 e5 k1 k2 k3 k4 k5 tg tf ts ta tb tc td gl f n a b c d C Ox Od Os hvi hvo hsi hso haa hbb hcc hdd hd hu hret
  refine wpAny_call ?_
  let oq1 : Obj := partDict e1 e2 e3 e4 e5 k1 k2 k3 k4 k5 tg tf ts gl f n true sc; let oq2 : Obj := tup [.int a ta, .int b tb, .int c tc, .int d td]; k_dflt (refine' enterK C [(x, instObj 221 dx), (dx, oq1), (sc, oq2)] ?O ?kA ?k6 ?k7 ?k8 ?k9 ?kB ?_ ?c2 ?c3 ?c4 ?c5; (case O => exact (acons (Ox) ((acons (Od) (List.forall_mem_singleton.mpr Os))))); (case kA => exact rfl); (case k6 => k_is); (case k7 => k_is); (case k8 => ktr_room); (case k9 => exact BindsTo.of_eq rfl); (case c5 => decide); (case kB => exact locs rfl); (case c2 => exact rfl); (case c3 => exact rfl); (case c4 => exact rfl); k_whole; intro g L' h₁ hL hg F' N' B' X' T'; (try dsimp only); (try k_fold))
  have ui := up_of (env := envOf (Str.ofString "placed") (scopeOf w 253) L' 253 (.ref 252)) rfl hL hg (rows_off3 Ox Od Os list_ne_inst pt_ne_inst list_ne_dict pt_ne_dict list_ne_tup pt_ne_tup4 hvi)
  have uo := up_of (env := envOf (Str.ofString "placed") (scopeOf w 253) L' 253 (.ref 252)) rfl hL hg (rows_off3 Ox Od Os list_ne_inst pt_ne_inst list_ne_dict pt_ne_dict list_ne_tup pt_ne_tup4 hvo)
  have es : scopeOf w 253 = { kind := _, names := _, isGenerator := _, isCoroutine := _, more := _ } := rfl
  rw [es] at ui uo
  clear es
  (repeat' (first | (k_unfold; (try dsimp only)) | (k_end; wrow_close) | ((with_reducible show wpAny _ _ (call (Value.ref _) _) _ _ _); first | (with_reducible (k_here; (with_reducible show wpAny _ _ (call (Value.ref 106) _) _ _ _); k_dflt ( refine' moved_ok _ _ _ _ _ _ _ _ _ _ _ _ _ _ _ _ _ _ _ _ ?C ?hv ?hsm ?hd ?hu ?_; (case C => exact Cx.next (by assumption) (by assumption) (by assumption) rfl rfl); (case hv => first | exact RowsAt.mono (fun c9q o9q z9 => z9.1) (Up.at (by with_reducible assumption) (by with_reducible assumption)) | ((with_reducible rename News _ _ _ _ => kN); refine' RowsAt.mono ?zz (by with_reducible assumption); intro c9q o9q hm9q; exact (kN (c9q, o9q) (by repeat (first | exact hm9q | exact List.mem_append_left _ hm9q | exact List.mem_append_right _ hm9q | refine List.Mem.tail _ ?_))).1)); (case hsm => first | assumption | exact Sm.small (by assumption) | exact Sm.small (Sm.map (by assumption))); (case hd => ktr_room); (case hu => ktr_units); k_whole; intro v'q h'q tk'q hKq hRq; (with_reducible rename Fr _ _ _ _ => kF); (with_reducible rename News _ _ _ _ => kN); have F'q := fr_kp0 kF hKq; obtain ⟨rest9, N', hoff9, hR9⟩ := news_rows0 kF kN hKq hRq; ((try dsimp only [List.cons_append, List.nil_append] at N'); (try simp only [List.append_assoc, List.cons_append] at N')); clear hKq hRq; (try k_sweep)))) | (with_reducible (k_here; (with_reducible show wpAny _ _ (call (Value.ref 118) _) _ _ _); k_dflt ( refine' turned_ok _ _ _ _ _ _ _ _ _ _ _ _ _ _ _ _ _ _ _ _ _ _ _ _ _ ?C ?hv ?hsm ?Ot ?ha ?hb ?hc ?hdd ?hd ?hu ?_; (case C => exact Cx.next (by assumption) (by assumption) (by assumption) rfl rfl); (case hv => first | exact Up.at (by with_reducible assumption) (by with_reducible assumption) | ((with_reducible rename News _ _ _ _ => kN); refine' RowsAt.mono ?zz (by with_reducible assumption); intro c9q o9q hm9q; exact own_of (o := o9q) (by assumption) kN (by repeat (first | exact hm9q | exact List.mem_append_left _ hm9q | exact List.mem_append_right _ hm9q | refine List.Mem.tail _ ?_)) rfl)); (case hsm => assumption); (case Ot => exact own_of (by assumption) (by assumption) (by k_mem) rfl); (case ha => assumption); (case hb => assumption); (case hc => assumption); (case hdd => assumption); (case hd => ktr_room); (case hu => ktr_units); k_whole; intro v'q h'q tk'q hKq hRq; (with_reducible rename Fr _ _ _ _ => kF); (with_reducible rename News _ _ _ _ => kN); have F'q := fr_kp0 kF hKq; obtain ⟨rest9, N', hoff9, hR9⟩ := news_rows0 kF kN hKq hRq; ((try dsimp only [List.cons_append, List.nil_append] at N'); (try simp only [List.append_assoc, List.cons_append] at N')); clear hKq hRq; (try k_sweep))))) | walk1 | (dsimp only; (with_reducible show wpAny _ _ _ _ _ _)) | (leave1; walk_say "STEP leave1"; try dsimp only) | fail "no step"))
  all_goals (try k_unfold)
  all_goals (try dsimp only)
  all_goals ((with_reducible rename Fr _ _ _ _ => kF); (with_reducible rename News _ _ _ _ => kN); (with_reducible rename RowsAt _ _ _ => kR); (with_reducible rename Off _ _ => kO))
  all_goals refine hret _ _ _ (kp_ofS hg kF ((acons (.inr ⟨Ox.1, kN.get (by k_mem)⟩) ((acons (.inr ⟨Od.1, kN.get (by k_mem)⟩) (List.forall_mem_singleton.mpr (.inr ⟨Os.1, kN.get (by k_mem)⟩))))))) (rows_eq ?_ (RowsAt.mono (fun c9 o9 hm9 => ⟨(kN (c9, o9) (by repeat (first | exact hm9 | exact List.mem_append_left _ hm9 | exact List.mem_append_right _ hm9 | refine List.Mem.tail _ ?_))).1, fresh_of hg kN (o := o9) (by repeat (first | exact hm9 | exact List.mem_append_left _ hm9 | exact List.mem_append_right _ hm9 | refine List.Mem.tail _ ?_)) (neAll_notin ⟨Ne.symm (off_get kO (o := instObj 221 dx) (by k_mem) _ hm9), Ne.symm (off_get kO (o := partDict e1 e2 e3 e4 e5 k1 k2 k3 k4 k5 tg tf ts gl f n true sc) (by k_mem) _ hm9), Ne.symm (off_get kO (o := tup [.int a ta, .int b tb, .int c tc, .int d td]) (by k_mem) _ hm9), trivial⟩)⟩) kR))
  · (with_reducible rename _ = true => hu1)
    obtain ⟨rfl, rfl, rfl, rfl⟩ : a = 16384 ∧ b = 0 ∧ c = 0 ∧ d = 16384 := by simpa using hu1
    simp only [trPt_unit]
  · simp only [List.map_map, Function.comp_def]
end
section
open PySem PySem.Spec PySem.Calls PySem.W PyProof.Rows
theorem rows_ref {M : Addr → Obj → Prop} {v : Value} {rows : List (List Pt)} (h : RowsAt M v rows) : ∃ c, v = .ref c := let ⟨c, _, _, e, _⟩ := h; ⟨c, e⟩
theorem Sm.flat {rows : List (List Pt)} (h : Sm rows) : rows.flatten.length ≤ 6 := by
  rcases two_len12 h.1 with ⟨a, rfl⟩ | ⟨a, b, rfl⟩
  · have := h.2 a (by simp); simp; omega
  · have := h.2 a (by simp); have := h.2 b (by simp); simp; omega
theorem All2.get {α : Type} {E : Value → α → Prop} {vs : List Value} {xs : List α} {k : Nat} {v : Value} {x : α} (a : All2 E vs xs) (hv : vs[k]? = some v) (hx : xs[k]? = some x) : E v x := by
  obtain ⟨x', e, h⟩ := a.2 k v hv
  rw [hx] at e; cases e; exact h
def Imp (P Q : Prop) : Prop := P → Q
theorem Imp.go {P Q : Prop} (h : Imp P Q) (p : P) : Q := h p
theorem my_item2 {prog : Program} {w : World} {A : Around} {E : Value → Shared → Prop} {s : Shared} {value slice : PySem.Expr} {l : Addr} {vs : List Value} {k : Int} {u : Tok} {Q : Value → Shared → Prop} (hl : s.heap.IsList l vs.toArray) (h0 : 0 ≤ k) (h1 : k < (vs.length : Nat)) (hf : vs.length ≤ 400) (h : ∀ v, vs[k.toNat]? = some v → Q v s)
    (hs : subscripted slice false (.ref l) (.int k u) = operate [.ref l, .int k u] (getItem (.ref l) (.int k u)) := by with_unfolding_all rfl) (hg : ∀ r, letTemporaryGo value (.ref l) r = pure () := by intro _; with_unfolding_all rfl) :
    wpAny (model prog w) A (subscriptTail value slice (.ref l) (.int k u)) Q E s := by
  have hk : k.toNat < vs.length := by omega
  exact item_list hl h0 (by omega) (x := vs[k.toNat]) (by simp [hk]) (h _ (List.getElem?_eq_getElem hk)) hs hg
theorem off_notin {rest news S : List (Addr × Obj)} (h : Off rest news) (sub : ∀ q ∈ S, q ∈ news) : ∀ p ∈ rest, p.1 ∉ List.map (fun q : Addr × Obj => q.1) S := fun p hp hm => by
  obtain ⟨q, hq, e⟩ := List.mem_map.mp hm
  exact h q (sub q hq) p hp e.symm
theorem flat_len {rows : List (List Pt)} {f : Pt → Pt} : (rows.map (List.map f)).flatten.length = rows.flatten.length := by
  rw [← List.map_flatten, List.length_map]
theorem look3 {a b c : Str} {x y z : Value} : (fun k => List.lookup k [(a, x), (b, y), (c, z)]) = fun k => if k = a then some x else if k = b then some y else if k = c then some z else none := by
  funext k
  by_cases h1 : k = a
  · rw [if_pos h1, List.lookup_cons, h1, beq_self_eq_true]
  · rw [if_neg h1, List.lookup_cons, beq_eq_false_iff_ne.mpr h1]
    by_cases h2 : k = b
    · rw [if_pos h2, List.lookup_cons, h2, beq_self_eq_true]
    · rw [if_neg h2, List.lookup_cons, beq_eq_false_iff_ne.mpr h2]
      by_cases h3 : k = c
      · rw [if_pos h3, List.lookup_cons, h3, beq_self_eq_true]
      · rw [if_neg h3, List.lookup_cons, beq_eq_false_iff_ne.mpr h3]
        rfl
theorem len_of_get {α : Type} {xs : List α} {k : Nat} {x : α} (h : xs[k]? = some x) : k < xs.length := (List.getElem?_eq_some_iff.mp h).1
noncomputable def ifFound (w : World) : Expr := match bodyOf w 253 with
  | .Assign _ e _ :: _ => e
  | _ => .Name (Str.ofString "found") ⟨0, 0, 0, 0⟩
section
theorem found_seg : ∀ (w : World) (p : Program) (loose : List Str) (mean : ExcName → Option Value) (mg mb : Str → Option Value) (H₀ Hc : Heap) (dp un : Nat) (gd : Option (List Code)) (l : List Env) (s : Shared) (Q E : Value → Shared → Prop) (g : Heap) (L' x dx sc ci : Addr) (vo : Value) (mv : Bool) (ri : List (List Pt)) (cods : List (Addr × Obj)) (e1 e2 e3 e4 e5 : Int) (k1 k2 k3 k4 k5 tg tf ts ta tb tc td : Tok) (gl f n : Int) (a b c d : Int),
  (Cx (Mine.hd.heap_1 w.params) p loose mean mg mb H₀ l Hc) →
  (Fr g L' s.heap (fun y => if y = Str.ofString "outer" then some vo else if y = Str.ofString "inner" then some (.ref ci) else if y = Str.ofString "part" then some (.ref x) else none)) →
  (News g L' s.heap ((x, instObj 221 dx) :: (dx, partDict e1 e2 e3 e4 e5 k1 k2 k3 k4 k5 tg tf ts gl f n mv sc) :: (sc, tup [.int a ta, .int b tb, .int c tc, .int d td]) :: cods)) →
  (Below (AA dp un gd l) H₀ l g) →
  ((Mine.hd.heap_1 w.params).In g) →
  (Top p loose mean mg mb g) →
  (RowsAt (fun c o => (c, o) ∈ cods) (.ref ci) ri) →
  (Sm ri) →
  (-32768 ≤ a ∧ a < 32768) →
  (-32768 ≤ b ∧ b < 32768) →
  (-32768 ≤ c ∧ c < 32768) →
  (-32768 ≤ d ∧ d < 32768) →
  (dp + 14 ≤ 400) →
  (un + 100 ≤ 400) →
  (∀ cf rest h' tk', Fr g L' h' (fun y => if y = Str.ofString "outer" then some vo else if y = Str.ofString "inner" then some (.ref ci) else if y = Str.ofString "part" then some (.ref x) else none) → News g L' h' ((x, instObj 221 dx) :: (dx, partDict e1 e2 e3 e4 e5 k1 k2 k3 k4 k5 tg tf ts gl f n mv sc) :: (sc, tup [.int a ta, .int b tb, .int c tc, .int d td]) :: (cods ++ rest)) → RowsAt (fun c o => (c, o) ∈ cods ++ rest) (.ref cf) (ri.map (List.map (trPt a b c d))) → Q (.ref cf) {s with heap := h', toks := tk'}) →
  wpAny (model PySem.Challenge.rw_on0238_01.row.prog w) ((AA dp un gd l).deeper (envOf (Str.ofString "placed") (scopeOf w 253) L' 253 (.ref 252))) (eval (ifFound w) (envOf (Str.ofString "placed") (scopeOf w 253) L' 253 (.ref 252))) Q E s := by
  k_fill
  w_top off
  intro w p loose mean mg mb H₀ Hc dp un gd l s Q E g L' x dx sc ci vo mv ri cods e1 e2 e3 e4 e5 k1 k2 k3 k4 k5 tg tf ts ta tb tc td gl f n a b c d C F' N' B' X' T' hvi hsi haa hbb hcc hdd hd hu hret
  have eb : ifFound w = .IfExp _ _ _ _ := rfl
  have es : scopeOf w 253 = { kind := _, names := _, isGenerator := _, isCoroutine := _, more := _ } := rfl
  rw [eb, es]
  clear eb es
  (try k_fold)
  (repeat' (first | (k_unfold; (try dsimp only)) | (k_end; wrow_close) | ((with_reducible show wpAny _ _ (call (Value.ref _) _) _ _ _); first | (with_reducible (k_here; (with_reducible show wpAny _ _ (call (Value.ref 118) _) _ _ _); k_dflt ( refine' turned_ok _ _ _ _ _ _ _ _ _ _ _ _ _ _ _ _ _ _ _ _ _ _ _ _ _ ?C ?hv ?hsm ?Ot ?ha ?hb ?hc ?hdd ?hd ?hu ?_; (case C => exact Cx.next (by assumption) (by assumption) (by assumption) rfl rfl); (case hv => ((with_reducible rename News _ _ _ _ => kN); refine' RowsAt.mono ?_ (by with_reducible assumption); intro c9q o9q hm9q; exact own_of (o := o9q) (by assumption) kN (by repeat (first | exact hm9q | exact List.mem_append_left _ hm9q | exact List.mem_append_right _ hm9q | refine List.Mem.tail _ ?_ | refine List.mem_append_right _ ?_)) rfl)); (case hsm => assumption); (case Ot => exact own_of (by assumption) (by assumption) (by k_mem) rfl); (case ha => assumption); (case hb => assumption); (case hc => assumption); (case hdd => assumption); (case hd => ktr_room); (case hu => ktr_units); k_whole; intro v'q h'q tk'q hKq hRq; (obtain ⟨cv9, hcv9⟩ := rows_ref hRq); subst hcv9; (with_reducible rename Fr _ _ _ _ => kF); (with_reducible rename News _ _ _ _ => kN); have F'q := fr_kp0 kF hKq; obtain ⟨rest9, N', hoff9, hR9⟩ := news_rows0 kF kN hKq hRq; ((try dsimp only [List.cons_append, List.nil_append] at N'); (try simp only [List.append_assoc, List.cons_append] at N')); clear hKq hRq; (try k_sweep))))) | walk1 | (dsimp only; (with_reducible show wpAny _ _ _ _ _ _)) | (leave1; walk_say "STEP leave1"; try dsimp only) | fail "no step"))
  all_goals (try k_unfold)
  all_goals (try dsimp only)
  all_goals ((with_reducible rename Fr _ _ _ _ => kF); (with_reducible rename News _ _ _ _ => kN))
  · (with_reducible rename _ = true => hu1)
    obtain ⟨rfl, rfl, rfl, rfl⟩ : a = 16384 ∧ b = 0 ∧ c = 0 ∧ d = 16384 := by simpa using hu1
    refine hret _ [] _ _ kF (fun q9 hq9 => kN q9 ?_) ?_
    · rw [List.append_nil] at hq9; exact .tail _ hq9
    · rw [List.append_nil, show List.map (List.map (trPt 16384 0 0 16384)) ri = ri from by simp [funext trPt_unit]]; exact hvi
  · (with_reducible rename RowsAt _ _ _ => kR)
    exact hret _ _ _ _ kF (fun q9 hq9 => kN q9 (.tail _ hq9)) (RowsAt.mono (fun c9 o9 hm9 => List.mem_append_right _ hm9) kR)
end
theorem placed_p : ∀ (w : World) (p : Program) (loose : List Str) (mean : ExcName → Option Value) (mg mb : Str → Option Value) (H₀ : Heap)
  (dp un : Nat) (gd : Option (List Code)) (l : List Env) (s : Shared) (Q E : Value → Shared → Prop) (x dx sc ci co : Addr) (ri ro : List (List Pt)) (cods : List (Addr × Obj)) (e1 e2 e3 e4 e5 : Int) (k1 k2 k3 k4 k5 tg tf ts ta tb tc td : Tok) (gl f n : Int) (a b c d : Int) (pa po : Pt),
  Cx (Mine.hd.heap_1 w.params) p loose mean mg mb H₀ l s.heap → (Own H₀ l s.heap x (instObj 221 dx)) → (Own H₀ l s.heap dx (partDict e1 e2 e3 e4 e5 k1 k2 k3 k4 k5 tg tf ts gl f n false sc)) → (Own H₀ l s.heap sc (tup [.int a ta, .int b tb, .int c tc, .int d td])) → (∀ q ∈ cods, Own H₀ l s.heap q.1 q.2) → (RowsAt (fun c o => (c, o) ∈ cods) (.ref ci) ri) → (RowsAt (fun c o => (c, o) ∈ cods) (.ref co) ro) → (Sm ri) → (Sm ro) → (-32768 ≤ a ∧ a < 32768) → (-32768 ≤ b ∧ b < 32768) → (-32768 ≤ c ∧ c < 32768) → (-32768 ≤ d ∧ d < 32768) → (0 ≤ f) → (0 ≤ n) → (ro.flatten[f.toNat]? = some pa) → ((ri.map (List.map (trPt a b c d))).flatten[n.toNat]? = some po) →
  dp + 14 ≤ 400 → un + 100 ≤ 400 →
  (∀ v' h' tk', Kp s.heap h' [] → RowsAt (NM s.heap h') v' (ri.map (List.map fun q => mvPt (pa.1 - po.1) (pa.2.1 - po.2.1) (trPt a b c d q))) → Q v' {s with heap := h', toks := tk'}) →
  wpAny (model PySem.Challenge.rw_on0238_01.row.prog w) (AA dp un gd l) (call (.ref 253) [.ref x, .ref ci, .ref co]) Q E s := by
  k_fill
  w_top off
  intro w p loose mean mg mb H₀ dp un gd l s Q E x dx sc ci co ri ro cods e1 e2 e3 e4 e5 k1 k2 k3 k4 k5 tg tf ts ta tb tc td gl f n a b c d pa po C Ox Od Os Oc hvi hvo hsi hso haa hbb hcc hdd hf hn hpa hpb hd hu hret
  refine wpAny_call ?_
  k_dflt (refine' enterK C ((x, instObj 221 dx) :: (dx, partDict e1 e2 e3 e4 e5 k1 k2 k3 k4 k5 tg tf ts gl f n false sc) :: (sc, tup [.int a ta, .int b tb, .int c tc, .int d td]) :: cods) ?O ?kA ?k6 ?k7 ?k8 ?k9 ?kB ?_ ?c2 ?c3 ?c4 ?c5; (case O => exact (acons (Ox) ((acons (Od) ((acons (Os) (Oc))))))); (case kA => exact rfl); (case k6 => k_is); (case k7 => k_is); (case k8 => ktr_room); (case k9 => exact BindsTo.of_eq rfl); (case c5 => decide); (case kB => exact locs rfl); (case c2 => exact rfl); (case c3 => exact rfl); (case c4 => exact rfl); k_whole; intro g L' h₁ hL hg F' N' B' X' T'; (try dsimp only); (try k_fold); (try (refine foldL ?_; intro eV aV)))
  replace F' : Fr g L' h₁ (fun k => List.lookup k [(Str.ofString "outer", .ref co), (Str.ofString "inner", .ref ci), (Str.ofString "part", .ref x)]) := F'
  rw [look3] at F'
  have hla := len_of_get hpa
  have hlb := len_of_get hpb
  (repeat' (first | (k_unfold; (try dsimp only)) | (k_end; wrow_close) | ((with_reducible show wpAny _ _ (call (Value.ref _) _) _ _ _); first | (with_reducible (k_here; (with_reducible show wpAny _ _ (call (Value.ref 106) _) _ _ _); k_dflt ( refine' moved_ok _ _ _ _ _ _ _ _ _ _ _ _ _ _ _ _ _ _ _ _ ?C ?hv ?hsm ?hd ?hu ?_; (case C => exact Cx.next (by assumption) (by assumption) (by assumption) rfl rfl); (case hv => ((with_reducible rename News _ _ _ _ => kN); refine' RowsAt.mono ?_ (by with_reducible assumption); intro c9q o9q hm9q; exact (kN (c9q, o9q) (by repeat (first | exact hm9q | exact List.mem_append_left _ hm9q | exact List.mem_append_right _ hm9q | refine List.Mem.tail _ ?_ | refine List.mem_append_right _ ?_))).1)); (case hsm => first | assumption | exact Sm.small (by assumption) | exact Sm.small (Sm.map (by assumption))); (case hd => ktr_room); (case hu => ktr_units); k_whole; intro v'q h'q tk'q hKq hRq; (with_reducible rename Fr _ _ _ _ => kF); (with_reducible rename News _ _ _ _ => kN); have F'q := fr_kp0 kF hKq; obtain ⟨rest9, N', hoff9, hR9⟩ := news_rows0 kF kN hKq hRq; ((try dsimp only [List.cons_append, List.nil_append] at N'); (try simp only [List.append_assoc, List.cons_append] at N')); clear hKq hRq; (try k_sweep)))) | (with_reducible (k_here; (with_reducible show wpAny _ _ (call (Value.ref 75) _) _ _ _); k_dflt ( refine' points_ok _ _ _ _ _ _ _ _ _ _ _ _ _ _ _ _ _ _ _ _ _ _ _ _ ?C ?Ox ?Od ?hM ?hv ?hsm ?hd ?hu ?_; (case C => exact Cx.next (by assumption) (by assumption) (by assumption) rfl rfl); (case Ox => exact own_of (by assumption) (by assumption) (by k_mem) rfl); (case Od => exact own_of (by assumption) (by assumption) (by k_mem) rfl); (case hv => with_reducible assumption); (case hM => ((with_reducible rename News _ _ _ _ => kN); intro c9q o9q hm9q; exact own_of (o := o9q) (by assumption) kN (by repeat (first | exact hm9q | exact List.mem_append_left _ hm9q | exact List.mem_append_right _ hm9q | refine List.Mem.tail _ ?_ | refine List.mem_append_right _ ?_)) rfl)); (case hsm => first | assumption | exact Sm.map (by assumption)); (case hd => ktr_room); (case hu => ktr_units); k_whole; intro rq wsq n'q h'q tk'q hrnq hKq hrq hAq; (with_reducible rename Fr _ _ _ _ => kF); (with_reducible rename News _ _ _ _ => kN); have F'q := fr_kp0 kF hKq; have N'q := news_kp0 kN hKq; have N''q := news_new kF N'q hrnq hrq; have hneq := neAll rq kN hrnq; have hwlq := hAq.1; have hw4q := Nat.le_trans (Nat.le_of_eq hwlq) (Nat.le_trans (Sm.flat (by first | assumption | exact Sm.map (by assumption))) (show 6 ≤ 400 by decide)); clear N'q hrnq hrq hKq; (try k_sweep)))) | (with_reducible (k_here; (with_reducible show wpAny _ _ (call (Value.ref 97) [Value.ref _]) _ _ _); k_dflt (refine' mkOut _ _ _ _ _ _ _ _ _ _ _ _ _ _ _ ?C ?a ?b ?_; (case C => exact Cx.next (by assumption) (by assumption) (by assumption) rfl rfl); (case a => ktr_room); (case b => ktr_units); k_whole; unfold RetOut; intro xq dxq e1q e2q k1q k2q tbq h'q tk'q hKq hxq hdxq hxdq h1q h2q; (with_reducible rename Fr _ _ _ _ => kF); (with_reducible rename News _ _ _ _ => kN); have F'q := fr_kp0 kF hKq; have N'q := news_kp0 kN hKq; have N2q := news_new kF N'q hdxq h2q; have N3q := news_new kF N2q hxq h1q; have hne1q := neAll xq kN hxq; have hne2q := neAll dxq kN hdxq; replace hxdq : NeA _ _ := hxdq; clear N'q N2q hKq hxq hdxq h1q h2q; (try k_sweep))))) | ((with_reducible show wpAny _ _ (subscriptTail _ _ _ _) _ _ _); first | (with_reducible (k_here; (with_reducible show wpAny _ _ (subscriptTail _ _ (Value.ref _) (Value.int _ _)) _ _ _); k_dflt ((with_unfolding_all refine' my_item2 ?k1 ?k2 ?k3 ?k4 ?_; (case k1 => is_list); (case k2 => assumption); (case k3 => first | exact lt_toN (by assumption) (by assumption) (by assumption) | omega); (case k4 => assumption); k_whole); intro vq hvq; (have hp9q := All2.get (by assumption) hvq (by first | with_reducible assumption | exact Imp.go (by with_reducible assumption) (by with_reducible assumption))); (obtain ⟨c9, t9, u9, he9, hm9⟩ := hp9q); subst he9; (with_reducible rename News _ _ _ _ => kN); (have N'q := news_more (q := (c9, ptObj _ t9 u9)) kN (by repeat (first | exact hm9 | exact List.mem_append_left _ hm9 | exact List.mem_append_right _ hm9 | refine List.Mem.tail _ ?_ | refine List.mem_append_right _ ?_))); clear kN hvq hm9))) | (with_reducible (k_here; (with_reducible show wpAny _ _ (subscriptTail _ _ (Value.ref _) (Value.int _ _)) _ _ _); k_dflt (refine' item_tupleT ?t ?a ?b ?c ?d ?_; (case t => exact News.isTup (by k_asm) (by k_mem)); (case a => decide); (case b => decide); (case c => rfl); (case d => rfl); k_whole)))) | ((with_reducible show wpAny _ _ (call (Value.builtin _) _) _ _ _); first | (with_reducible (k_here; (with_reducible show wpAny _ _ (call (Value.builtin _) [Value.ref _]) _ _ _); (with_unfolding_all refine' my_len ?k1 ?k2 ?_; (case k1 => is_list); (case k2 => assumption); k_whole)))) | ((with_reducible show wpAny _ _ (eval (Expr.IfExp _ _ _ _) _) _ _ _); first | (with_reducible (k_here; k_dflt ((with_reducible rename Fr _ _ _ _ => kF); (with_reducible rename News _ _ _ _ => kN); refine' found_seg _ _ _ _ _ _ _ _ _ _ _ _ _ _ _ _ _ _ _ _ _ _ _ _ _ _ _ _ _ _ _ _ _ _ _ _ _ _ _ _ _ _ _ _ _ _ _ _ _ ?C kF kN ?B ?X ?T ?hv ?hs ?ha ?hb ?hc ?hdd ?hd ?hu ?_; (case C => assumption); (case B => assumption); (case X => assumption); (case T => assumption); (case hv => with_reducible assumption); (case hs => assumption); (case ha => assumption); (case hb => assumption); (case hc => assumption); (case hdd => assumption); (case hd => omega); (case hu => omega); intro cf9q rest9q h'q tk'q F'q N'q hR9q; (try dsimp only at F'q); clear kF kN)))) | (with_reducible (k_here; first | ((with_reducible refine ite_pos ?h ?_); (case h => first | exact nle_toD (by assumption) (by assumption) (by assumption) | omega)) | ((with_reducible refine ite_neg ?h ?_); (case h => first | exact nle_toD (by assumption) (by assumption) (by assumption) | omega)))) | ((k_here; first | ((with_reducible refine ite_pos ?h ?_); (case h => first | exact nle_toD (by assumption) (by assumption) (by assumption) | omega)) | ((with_reducible refine ite_neg ?h ?_); (case h => first | exact nle_toD (by assumption) (by assumption) (by assumption) | omega)))) | walk1 | (dsimp only; (with_reducible show wpAny _ _ _ _ _ _)) | (leave1; walk_say "STEP leave1"; try dsimp only) | fail "no step"))
  (try k_unfold)
  (try dsimp only)
  (with_reducible rename Fr _ _ _ _ => kF); (with_reducible rename News _ _ _ _ => kN); (with_reducible rename RowsAt _ _ _ => kR); (with_reducible rename Off _ _ => kO)
  refine hret _ _ _ (kp_ofS hg kF ((acons (.inr ⟨Ox.1, kN.get (by k_mem)⟩) ((acons (.inr ⟨Od.1, kN.get (by k_mem)⟩) ((acons (.inr ⟨Os.1, kN.get (by k_mem)⟩) (fun q9 hm9 => .inr ⟨(Oc q9 hm9).1, (kN q9 (by repeat (first | exact hm9 | exact List.mem_append_left _ hm9 | exact List.mem_append_right _ hm9 | refine List.Mem.tail _ ?_ | refine List.mem_append_right _ ?_))).1⟩)))))))) (rows_eq ?_ (RowsAt.mono (fun c9 o9 hm9 => ⟨(kN (c9, o9) (by repeat (first | exact hm9 | exact List.mem_append_left _ hm9 | exact List.mem_append_right _ hm9 | refine List.Mem.tail _ ?_ | refine List.mem_append_right _ ?_))).1, fresh_of hg kN (o := o9) (by repeat (first | exact hm9 | exact List.mem_append_left _ hm9 | exact List.mem_append_right _ hm9 | refine List.Mem.tail _ ?_ | refine List.mem_append_right _ ?_)) (off_notin kO ((acons (by k_mem) ((acons (by k_mem) ((acons (by k_mem) (fun q9 hm9 => (by repeat (first | exact hm9 | exact List.mem_append_left _ hm9 | exact List.mem_append_right _ hm9 | refine List.Mem.tail _ ?_ | refine List.mem_append_right _ ?_))))))))) _ hm9)⟩) kR))
  simp only [List.map_map, Function.comp_def]
end
section
open PySem PySem.Spec PySem.Calls PySem.W PyProof.Rows
noncomputable def forNr (w : World) : Stmt := match bodyOf w 340 with
  | [_, .For _ _ body _ _, _] => (match body with | [_, f, _] => f | _ => .Pass ⟨0, 0, 0, 0⟩)
  | _ => .Pass ⟨0, 0, 0, 0⟩
theorem unrEnd_h1 {h₀ : Heap} {L I : Addr} {it : Obj} {q : Addr × Obj} {rest : (Str → Option Value) → List (Addr × Obj) → Prop} {s₁ : Shared} {h' : Heap} {tk : Nat} {m' : Str → Option Value} {news' : List (Addr × Obj)} (F : Fr h₀ L h' m') (N : News h₀ L h' (q :: (I, it) :: news')) (off : ∀ p ∈ q :: news', p.1 ≠ I) (r : rest m' (q :: news')) : UnrEnd h₀ L s₁ I it rest { s₁ with heap := h', toks := tk } :=
  UnrEnd.intro F N (q :: news') (fun p hp => by
    rcases List.mem_cons.mp hp with rfl | hp
    · exact .tail _ (.head _)
    · rcases List.mem_cons.mp hp with rfl | hp
      · exact .head _
      · exact .tail _ (.tail _ hp)) off r
theorem pts_seg : ∀ (w : World) (p : Program) (loose : List Str) (mean : ExcName → Option Value) (mg mb : Str → Option Value) (H₀ Hc : Heap) (dp un : Nat) (gd : Option (List Code)) (l : List Env) (s : Shared) (Q : Flow → Shared → Prop) (E0 : Value → Shared → Prop) (g : Heap) (L' pts src : Addr) (m : Str → Option Value) (x y : Int) (t1 t2 : Tok) (n n0 : Nat) (rest : List (Addr × Obj)),
  (Cx (Mine.hd.heap_1 w.params) p loose mean mg mb H₀ l Hc) →
  (Fr g L' s.heap m) →
  (News g L' s.heap ((pts, listOf #[] n0) :: (src, listOf #[.int x t1, .int y t2] n) :: rest)) →
  (Below (AA dp un gd l) H₀ l g) →
  ((Mine.hd.heap_1 w.params).In g) →
  (Top p loose mean mg mb g) →
  (m (Str.ofString "source") = some (.ref src)) →
  (m (Str.ofString "points") = some (.ref pts)) →
  (NeA pts src) →
  (∀ p ∈ rest, p.1 ≠ pts) →
  (∀ p ∈ rest, p.1 ≠ src) →
  (0 ≤ x) →
  (0 ≤ y) →
  (y < 2147483647) →
  (dp + 10 ≤ 400) →
  (un + 80 ≤ 400) →
  (∀ m' ws row x' y' t1' t2' n' h' tk', Fr g L' h' m' → (∀ z, z ≠ Str.ofString "nr" → m' z = m z) → (∀ q ∈ rest, h'.get? q.1 = some q.2) → h'.get? pts = some (listOf (List.toArray ws) n') → h'.get? src = some (listOf #[.int x' t1', .int y' t2'] n) → All2 (PtAt (fun c o => h'.get? c = some o ∧ c ≠ L' ∧ g.get? c = none)) ws row → 1 ≤ row.length → row.length ≤ 3 → 0 ≤ x' → 0 ≤ y' → y' < 2147483647 → Q .next {s with heap := h', toks := tk'}) →
  wpAny (model PySem.Challenge.rw_on0238_01.row.prog w) ((AA dp un gd l).deeper (envOf (Str.ofString "_law_contours") (scopeOf w 340) L' 340 (.ref 339))) (exec (forNr w) (envOf (Str.ofString "_law_contours") (scopeOf w 340) L' 340 (.ref 339))) Q (fun e s' => wpAny (model PySem.Challenge.rw_on0238_01.row.prog w) ((AA dp un gd l).deeper (envOf (Str.ofString "_law_contours") (scopeOf w 340) L' 340 (.ref 339))) (leaving (envOf (Str.ofString "_law_contours") (scopeOf w 340) L' 340 (.ref 339)) e) (fun _ s'' => E0 e s'') (fun e' s'' => E0 e' s'') s') s := by
  k_fill
  w_top off
  intro w p loose mean mg mb H₀ Hc dp un gd l s Q E0 g L' pts src m x y t1 t2 n n0 rest C F' N' B' X' T' hms hmp hne o1 o2 hx hy hy2 hd hu hret
  have eb : forNr w = .For _ _ _ _ _ := rfl
  have es : scopeOf w 340 = { kind := _, names := _, isGenerator := _, isCoroutine := _, more := _ } := rfl
  rw [eb, es]
  clear eb es
  (try k_fold)
  (try (refine foldL ?_; intro eV aV))
  (repeat' (first | (k_unfold; (try dsimp only)) | (k_end; wrow_close) | ((with_reducible show wpAny _ _ (call (Value.ref _) _) _ _ _); first | (with_reducible (k_here; k_dflt ( (with_reducible show wpAny _ _ (call (Value.ref 281) _) _ _ _); refine' take_ok _ _ _ _ _ _ _ _ _ _ _ _ _ _ _ _ _ _ _ _ _ _ ?C ?O ?hx ?hy ?hy2 ?ht ?ht2 ?hd ?hu ?_; (case C => exact Cx.next (by assumption) (by assumption) (by assumption) rfl rfl); (case O => exact own_of (by assumption) (by assumption) (by k_mem) rfl); (case hx => assumption); (case hy => assumption); (case hy2 => assumption); (case ht => first | decide | omega | (push_cast; omega)); (case ht2 => first | decide | omega); (case hd => ktr_room); (case hu => ktr_units); k_whole; intro rq x'q y'q tq t1q t2q h'q tk'q hr0q hr1q hx'q hy'q hy2'q hKq hsq; (with_reducible rename Fr _ _ _ _ => kF); (with_reducible rename News _ _ _ _ => kN); have F'q := fr_kp1 kF kN (by k_mem) hKq; have N'q := news_upd kN hKq (by k_upd) hsq; clear hKq hsq; (try k_sweep))))) | ((with_reducible show wpAny _ _ (eval (Expr.Name _ _) _) _ _ _); first | (with_reducible (k_here; k_dflt (refine' nameX_L ?F ?v ?_ ?a ?b; (case F => k_asm); (case a => rfl); (case b => rfl); (case v => first | assumption | exact (if_neg (by decide)).trans (by assumption)); k_whole)))) | ((with_reducible show UnrEnd _ _ _ _ _ _ _); first | (with_reducible (first | (refine unrEnd_hd (by with_reducible assumption) (by with_reducible assumption) ?ka ?_; (case ka => k_all)) | (refine unrEnd_h1 (by with_reducible assumption) (by with_reducible assumption) ?ka ?_; (case ka => k_all)))) | ((first | (refine unrEnd_hd (by with_reducible assumption) (by with_reducible assumption) ?ka ?_; (case ka => k_all)) | (refine unrEnd_h1 (by with_reducible assumption) (by with_reducible assumption) ?ka ?_; (case ka => k_all))))) | walk1 | (dsimp only; (with_reducible show wpAny _ _ _ _ _ _)) | (leave1; walk_say "STEP leave1"; try dsimp only) | fail "no step"))
  all_goals (try dsimp only)
  all_goals (first | (exfalso; omega) | ((with_reducible rename Fr _ _ _ _ => kF); (with_reducible rename News _ _ _ _ => kN); first
    | (refine' hret _ _ [(_, _, _)] _ _ _ _ _ _ _ kF (fun z hz => by simp [hz]) (fun q hq => (kN q (by repeat (first | exact hq | refine List.Mem.tail _ ?_))).1) (kN.get (by k_mem)) (kN.get (by k_mem)) ?a2 ?l1 ?l2 (by assumption) (by assumption) (by assumption); (case a2 => ((show All2 _ [_] _); exact All2.cons_iff.mpr ⟨⟨_, _, _, rfl, kN (_, _) (by k_mem)⟩, .nil⟩)); (case l1 => exact Nat.le_of_ble_eq_true rfl); (case l2 => exact Nat.le_of_ble_eq_true rfl))
    | (refine' hret _ _ [(_, _, _), (_, _, _)] _ _ _ _ _ _ _ kF (fun z hz => by simp [hz]) (fun q hq => (kN q (by repeat (first | exact hq | refine List.Mem.tail _ ?_))).1) (kN.get (by k_mem)) (kN.get (by k_mem)) ?a2 ?l1 ?l2 (by assumption) (by assumption) (by assumption); (case a2 => ((show All2 _ [_, _] _); exact All2.cons_iff.mpr ⟨⟨_, _, _, rfl, kN (_, _) (by k_mem)⟩, All2.cons_iff.mpr ⟨⟨_, _, _, rfl, kN (_, _) (by k_mem)⟩, .nil⟩⟩)); (case l1 => exact Nat.le_of_ble_eq_true rfl); (case l2 => exact Nat.le_of_ble_eq_true rfl))
    | (refine' hret _ _ [(_, _, _), (_, _, _), (_, _, _)] _ _ _ _ _ _ _ kF (fun z hz => by simp [hz]) (fun q hq => (kN q (by repeat (first | exact hq | refine List.Mem.tail _ ?_))).1) (kN.get (by k_mem)) (kN.get (by k_mem)) ?a2 ?l1 ?l2 (by assumption) (by assumption) (by assumption); (case a2 => ((show All2 _ [_, _, _] _); exact All2.cons_iff.mpr ⟨⟨_, _, _, rfl, kN (_, _) (by k_mem)⟩, All2.cons_iff.mpr ⟨⟨_, _, _, rfl, kN (_, _) (by k_mem)⟩, All2.cons_iff.mpr ⟨⟨_, _, _, rfl, kN (_, _) (by k_mem)⟩, .nil⟩⟩⟩)); (case l1 => exact Nat.le_of_ble_eq_true rfl); (case l2 => exact Nat.le_of_ble_eq_true rfl))))
end
section
open PySem PySem.Spec PySem.Calls PySem.W PyProof.Rows
def NewsR (g : Heap) (L : Addr) (h : Heap) (rest : List (Addr × Obj)) : Prop := News g L h rest
theorem row_lay {g h : Heap} {L : Addr} {ws : List Value} {row : List Pt} (a : All2 (PtAt (fun c o => h.get? c = some o ∧ c ≠ L ∧ g.get? c = none)) ws row) :
    ∃ rest, NewsR g L h rest ∧ (∀ q ∈ rest, q.2.cls = .type "tuple") ∧ All2 (PtAt (fun c o => (c, o) ∈ rest)) ws row := by
  have a' : All2 (PtAt (fun c o => (fun q : Addr × Obj => (h.get? q.1 = some q.2 ∧ q.1 ≠ L ∧ g.get? q.1 = none) ∧ q.2.cls = .type "tuple") (c, o))) ws row := a.mono fun v x hx => by
    obtain ⟨c, t1, t2, e, m⟩ := hx
    exact ⟨c, t1, t2, e, m, rfl⟩
  obtain ⟨rest, hp, hr⟩ := All2.lay (F := PtAt) (P := fun q : Addr × Obj => (h.get? q.1 = some q.2 ∧ q.1 ≠ L ∧ g.get? q.1 = none) ∧ q.2.cls = .type "tuple") (fun h a => PtAt.mono h a) (fun h => PtAt.lay h) a'
  exact ⟨rest, fun q hq => (hp q hq).1, fun q hq => (hp q hq).2, hr⟩
theorem off_one {g h : Heap} {L a : Addr} {o : Obj} {rest : List (Addr × Obj)} (N : News g L h rest) (hc : ∀ q ∈ rest, q.2.cls = .type "tuple") (e : h.get? a = some o) (ho : o.cls ≠ .type "tuple") : ∀ p ∈ rest, p.1 ≠ a := fun p hp z => by
  have := (N p hp).1
  rw [z, e] at this
  exact ho (by rw [Option.some.inj this]; exact hc p hp)
theorem pts_use {w : World} {p : Program} {loose : List Str} {mean : ExcName → Option Value} {mg mb : Str → Option Value} {H₀ Hc : Heap} {dp un : Nat} {gd : Option (List Code)} {l : List Env} {s : Shared} {Q : Flow → Shared → Prop} {E0 : Value → Shared → Prop} {g : Heap} {L' pts src : Addr} {m : Str → Option Value} {x y : Int} {t1 t2 : Tok} {n n0 : Nat} {news : List (Addr × Obj)}
    (C : Cx (Mine.hd.heap_1 w.params) p loose mean mg mb H₀ l Hc) (F : Fr g L' s.heap m) (N : News g L' s.heap news) (B : Below (AA dp un gd l) H₀ l g) (X : (Mine.hd.heap_1 w.params).In g) (T : Top p loose mean mg mb g)
    (hp : (pts, listOf #[] n0) ∈ news) (hs : (src, listOf #[.int x t1, .int y t2] n) ∈ news) (hne : pts ≠ src) (hms : m (Str.ofString "source") = some (.ref src)) (hmp : m (Str.ofString "points") = some (.ref pts)) (hx : 0 ≤ x) (hy : 0 ≤ y) (hy2 : y < 2147483647) (hd : dp + 10 ≤ 400) (hu : un + 80 ≤ 400)
    (h : ∀ vo ws row x' y' t1' t2' n' h' tk', Fr g L' h' (fun z => if z = Str.ofString "nr" then vo else m z) → (∀ q ∈ news, q.1 ≠ pts → q.1 ≠ src → h'.get? q.1 = some q.2) → h'.get? pts = some (listOf (List.toArray ws) n') → h'.get? src = some (listOf #[.int x' t1', .int y' t2'] n) → All2 (PtAt (fun c o => h'.get? c = some o ∧ c ≠ L' ∧ g.get? c = none)) ws row → 1 ≤ row.length → row.length ≤ 3 → 0 ≤ x' → 0 ≤ y' → y' < 2147483647 → Q .next {s with heap := h', toks := tk'}) :
    wpAny (model PySem.Challenge.rw_on0238_01.row.prog w) ((AA dp un gd l).deeper (envOf (Str.ofString "_law_contours") (scopeOf w 340) L' 340 (.ref 339))) (exec (forNr w) (envOf (Str.ofString "_law_contours") (scopeOf w 340) L' 340 (.ref 339))) Q (fun e s' => wpAny (model PySem.Challenge.rw_on0238_01.row.prog w) ((AA dp un gd l).deeper (envOf (Str.ofString "_law_contours") (scopeOf w 340) L' 340 (.ref 339))) (leaving (envOf (Str.ofString "_law_contours") (scopeOf w 340) L' 340 (.ref 339)) e) (fun _ s'' => E0 e s'') (fun e' s'' => E0 e' s'') s') s := by
  obtain ⟨rest, Nr, hr⟩ := rest_ex F
  refine pts_seg w p loose mean mg mb H₀ Hc dp un gd l s Q E0 g L' pts src m x y t1 t2 n n0 (rest.filter fun q => decide (q.1 ≠ pts ∧ q.1 ≠ src)) C F (fun q hq => ?_) B X T hms hmp hne (fun q hq => ?_) (fun q hq => ?_) hx hy hy2 hd hu fun m' ws row x' y' t1' t2' n' h' tk' F' hm' hk => h (m' (Str.ofString "nr")) ws row x' y' t1' t2' n' h' tk' (by
    have em : m' = fun z => if z = Str.ofString "nr" then m' (Str.ofString "nr") else m z := funext fun z => by
      by_cases q : z = Str.ofString "nr"
      · rw [q, if_pos rfl]
      · rw [if_neg q]; exact hm' z q
    rw [← em]; exact F') fun q hq q1 q2 => ?_
  · rcases List.mem_cons.mp hq with rfl | hq
    · exact N _ hp
    · rcases List.mem_cons.mp hq with rfl | hq
      · exact N _ hs
      · exact Nr q (List.mem_filter.mp hq).1
  · exact (of_decide_eq_true (List.mem_filter.mp hq).2).1
  · exact (of_decide_eq_true (List.mem_filter.mp hq).2).2
  · have := N q hq
    rcases hr q.1 q.2 this.1 this.2.1 with z | z
    · rw [this.2.2] at z; cases z
    · exact hk q (List.mem_filter.mpr ⟨z, decide_eq_true ⟨q1, q2⟩⟩)
theorem off_n {g h : Heap} {L a : Addr} {o : Obj} {rest big : List (Addr × Obj)} (N : News g L h big) (hc : ∀ q ∈ rest, q.2.cls = .type "tuple") (hr : ∀ q ∈ rest, q ∈ big) (ha : (a, o) ∈ big) (ho : o.cls ≠ .type "tuple") : ∀ p ∈ rest, p.1 ≠ a :=
  off_one (fun q hq => N q (hr q hq)) hc (N _ ha).1 ho
theorem pts_news {g h h9 : Heap} {L pts src : Addr} {P0 P S0 S : Obj} {news news' rest : List (Addr × Obj)} (N : News g L h ((pts, P0) :: news)) (hk : ∀ q ∈ (pts, P0) :: news, q.1 ≠ pts → q.1 ≠ src → h9.get? q.1 = some q.2) (hp : h9.get? pts = some P) (hs : h9.get? src = some S) (Nr : NewsR g L h9 rest)
    (U : Upd src S0 S news news') (hpn : ∀ q ∈ news, q.1 ≠ pts) : News g L h9 ((pts, P) :: (news' ++ rest)) := by
  obtain ⟨pre, post, rfl, rfl, h1, h2⟩ := U.split
  intro q hq
  rcases List.mem_cons.mp hq with rfl | hq
  · exact ⟨hp, (N _ (.head _)).2⟩
  · rcases List.mem_append.mp hq with hq | hq
    · rcases List.mem_append.mp hq with hq | hq
      · exact ⟨hk q (.tail _ (List.mem_append_left _ hq)) (hpn q (List.mem_append_left _ hq)) (h1 q hq), (N q (.tail _ (List.mem_append_left _ hq))).2⟩
      · rcases List.mem_cons.mp hq with rfl | hq
        · exact ⟨hs, (N _ (.tail _ (List.mem_append_right _ (.head _)))).2⟩
        · have hm : q ∈ pre ++ (src, S0) :: post := List.mem_append_right _ (.tail _ hq)
          exact ⟨hk q (.tail _ hm) (hpn q hm) (h2 q hq), (N q (.tail _ hm)).2⟩
    · exact Nr q hq
local macro_rules | `(tactic| k_all) => `(tactic| first | (refine' off_n ?zN ?zc ?zr ?za ?zo; (case zN => with_reducible assumption); (case zc => with_reducible assumption); (case zr => (intro q hq; repeat (first | exact hq | exact List.mem_append_left _ hq | exact List.mem_append_right _ hq | refine List.Mem.tail _ ?_))); (case za => k_mem); (case zo => (intro z; exact absurd (Value.type.inj z) (by decide)))) | fail)
theorem contours_1 : ∀ (w : World) (p : Program) (loose : List Str) (mean : ExcName → Option Value) (mg mb : Str → Option Value) (H₀ : Heap)
  (dp un : Nat) (gd : Option (List Code)) (l : List Env) (s : Shared) (Q E : Value → Shared → Prop) (src : Addr) (x y : Int) (t1 t2 tm : Tok) (n : Nat),
  Cx (Mine.hd.heap_1 w.params) p loose mean mg mb H₀ l s.heap → (Own H₀ l s.heap src (listOf #[.int x t1, .int y t2] n)) → (0 ≤ x) → (0 ≤ y) → (y < 2147483647) →
  dp + 12 ≤ 400 → un + 100 ≤ 400 →
  (∀ c rows x' y' t1' t2' h' tk', s.heap.get? c = none → Kp s.heap h' [src] → h'.get? src = some (listOf #[.int x' t1', .int y' t2'] n) → RowsAt (NM s.heap h') (.ref c) rows → rows.length = 1 → (∀ r ∈ rows, 1 ≤ r.length ∧ r.length ≤ 3) → 0 ≤ x' → 0 ≤ y' → y' < 2147483647 → Q (.ref c) {s with heap := h', toks := tk'}) →
  wpAny (model PySem.Challenge.rw_on0238_01.row.prog w) (AA dp un gd l) (call (.ref 340) [.ref src, .int 1 tm]) Q E s := by
  k_fill
  w_top off
  intro w p loose mean mg mb H₀ dp un gd l s Q E src x y t1 t2 tm n C O hx hy hy2 hd hu hret
  refine wpAny_call ?_
  let oq0 : Obj := listOf #[.int x t1, .int y t2] n; k_dflt (refine' enterK C [(src, oq0)] ?O ?kA ?k6 ?k7 ?k8 ?k9 ?kB ?_ ?c2 ?c3 ?c4 ?c5; (case O => exact List.forall_mem_singleton.mpr O); (case kA => exact rfl); (case k6 => k_is); (case k7 => k_is); (case k8 => ktr_room); (case k9 => exact BindsTo.of_eq rfl); (case c5 => decide); (case kB => exact locs rfl); (case c2 => exact rfl); (case c3 => exact rfl); (case c4 => exact rfl); k_whole; intro g L' h₁ hL hg F' N' B' X' T'; (try dsimp only); (try k_fold); (try (refine foldL ?_; intro eV aV)))
  (repeat' (first | (k_unfold; (try dsimp only)) | (k_end; wrow_close) | ((with_reducible show wpAny _ _ (exec (Stmt.For _ _ _ _ _) _) _ _ _); first | (with_reducible ((with_reducible show wpAny _ _ (exec (Stmt.For (Expr.Name (Str.ofString "nr") _) _ _ _ _) _) _ _ _); refine CutR.out ?_)) | (((with_reducible show wpAny _ _ (exec (Stmt.For (Expr.Name (Str.ofString "nr") _) _ _ _ _) _) _ _ _); refine CutR.out ?_))) | ((with_reducible show UnrEnd _ _ _ _ _ _ _); first | (with_reducible (first | (refine unrEnd_hd (by k_asm) (by k_asm) ?ka ?_; (case ka => k_all)) | (refine unrEnd_h1 (by k_asm) (by k_asm) ?ka ?_; (case ka => k_all)))) | ((first | (refine unrEnd_hd (by k_asm) (by k_asm) ?ka ?_; (case ka => k_all)) | (refine unrEnd_h1 (by k_asm) (by k_asm) ?ka ?_; (case ka => k_all))))) | walk1 | (dsimp only; (with_reducible show wpAny _ _ _ _ _ _)) | (leave1; walk_say "STEP leave1"; try dsimp only) | fail "no step"))
  refine ⟨?_⟩
  (with_reducible rename Fr _ _ _ _ => kF); (with_reducible rename News _ _ _ _ => kN); (with_reducible rename Below _ _ _ _ => kB); (with_reducible rename Frag.In _ _ => kX); (with_reducible rename Top _ _ _ _ _ _ => kT)
  refine' pts_use C kF kN kB kX kT ?hp ?hs ?hne ?hms ?hmp ?hx ?hy ?hy2 ?hd ?hu ?mn
  case hp => k_mem
  case hs => k_mem
  case hne => k_ne
  case hms => rfl
  case hmp => rfl
  case hx => assumption
  case hy => assumption
  case hy2 => assumption
  case hd => omega
  case hu => omega
  case mn =>
    intro m0 ws0 row0 x0' y0' u0 u0' n0' h0' tk0' F0' hk0 hp0 hs0 ha0 hl0 hL0 hx0 hy0 hz0
    obtain ⟨rest0, Nr0, hc0, hA0⟩ := row_lay ha0
    have N0' := pts_news kN hk0 hp0 hs0 Nr0 (by k_upd) (by k_all)
    (try dsimp only [List.cons_append, List.nil_append] at N0')
    (try dsimp only at F0')
    clear kN kF Nr0 hk0 ha0 hp0 hs0
    (try k_unfold); (try dsimp only)
    (repeat' (first | (k_unfold; (try dsimp only)) | (k_end; wrow_close) | ((with_reducible show wpAny _ _ (exec (Stmt.For _ _ _ _ _) _) _ _ _); first | (with_reducible ((with_reducible show wpAny _ _ (exec (Stmt.For (Expr.Name (Str.ofString "nr") _) _ _ _ _) _) _ _ _); refine CutR.out ?_)) | (((with_reducible show wpAny _ _ (exec (Stmt.For (Expr.Name (Str.ofString "nr") _) _ _ _ _) _) _ _ _); refine CutR.out ?_))) | ((with_reducible show UnrEnd _ _ _ _ _ _ _); first | (with_reducible (first | (refine unrEnd_hd (by k_asm) (by k_asm) ?ka ?_; (case ka => k_all)) | (refine unrEnd_h1 (by k_asm) (by k_asm) ?ka ?_; (case ka => k_all)))) | ((first | (refine unrEnd_hd (by k_asm) (by k_asm) ?ka ?_; (case ka => k_all)) | (refine unrEnd_h1 (by k_asm) (by k_asm) ?ka ?_; (case ka => k_all))))) | walk1 | (dsimp only; (with_reducible show wpAny _ _ _ _ _ _)) | (leave1; walk_say "STEP leave1"; try dsimp only) | fail "no step"))
    (try dsimp only)
    (with_reducible rename Fr _ _ _ _ => kF); (with_reducible rename News _ _ _ _ => kN)
    refine' hret _ [row0] _ _ _ _ _ _ ?e1 ?e2 ?e3 ?e4 rfl ?e5 ?f1 ?f2 ?f3
    case e3 => exact kN.get (by k_mem)
    case f1 => assumption
    case f2 => assumption
    case f3 => assumption
    case e2 => exact kp_ofS hg kF (List.forall_mem_singleton.mpr (.inl (.head _)))
    case e5 => exact (acons (⟨hl0, hL0⟩) (List.forall_mem_nil _))
    case e1 => exact fresh_of hg kN (by k_mem) (neAll_notin ⟨by k_ne, trivial⟩)
    case e4 =>
      refine' ⟨_, [_], _, rfl, ⟨kN.get (by k_mem), fresh_of hg kN (by k_mem) (neAll_notin ⟨by k_ne, trivial⟩)⟩, ?_⟩
      exact All2.cons_iff.mpr ⟨⟨_, ws0, _, rfl, ⟨kN.get (by k_mem), fresh_of hg kN (by k_mem) (neAll_notin ⟨by k_ne, trivial⟩)⟩, hA0.mono fun _ _ => PtAt.mono fun b o hq => ⟨(kN (b, o) (by repeat (first | exact hq | exact List.mem_append_left _ hq | exact List.mem_append_right _ hq | refine List.Mem.tail _ ?_))).1, fresh_of hg kN (o := o) (by repeat (first | exact hq | exact List.mem_append_left _ hq | exact List.mem_append_right _ hq | refine List.Mem.tail _ ?_)) (neAll_notin ⟨fun z => (show ∀ p ∈ rest0, p.1 ≠ src from by k_all) _ hq z.symm, trivial⟩)⟩⟩, .nil⟩

theorem contours_2 : ∀ (w : World) (p : Program) (loose : List Str) (mean : ExcName → Option Value) (mg mb : Str → Option Value) (H₀ : Heap)
  (dp un : Nat) (gd : Option (List Code)) (l : List Env) (s : Shared) (Q E : Value → Shared → Prop) (src : Addr) (x y : Int) (t1 t2 tm : Tok) (n : Nat),
  Cx (Mine.hd.heap_1 w.params) p loose mean mg mb H₀ l s.heap → (Own H₀ l s.heap src (listOf #[.int x t1, .int y t2] n)) → (0 ≤ x) → (0 ≤ y) → (y < 2147483647) →
  dp + 12 ≤ 400 → un + 100 ≤ 400 →
  (∀ c rows x' y' t1' t2' h' tk', s.heap.get? c = none → Kp s.heap h' [src] → h'.get? src = some (listOf #[.int x' t1', .int y' t2'] n) → RowsAt (NM s.heap h') (.ref c) rows → rows.length = 2 → (∀ r ∈ rows, 1 ≤ r.length ∧ r.length ≤ 3) → 0 ≤ x' → 0 ≤ y' → y' < 2147483647 → Q (.ref c) {s with heap := h', toks := tk'}) →
  wpAny (model PySem.Challenge.rw_on0238_01.row.prog w) (AA dp un gd l) (call (.ref 340) [.ref src, .int 2 tm]) Q E s := by
  k_fill
  w_top off
  intro w p loose mean mg mb H₀ dp un gd l s Q E src x y t1 t2 tm n C O hx hy hy2 hd hu hret
  refine wpAny_call ?_
  let oq0 : Obj := listOf #[.int x t1, .int y t2] n; k_dflt (refine' enterK C [(src, oq0)] ?O ?kA ?k6 ?k7 ?k8 ?k9 ?kB ?_ ?c2 ?c3 ?c4 ?c5; (case O => exact List.forall_mem_singleton.mpr O); (case kA => exact rfl); (case k6 => k_is); (case k7 => k_is); (case k8 => ktr_room); (case k9 => exact BindsTo.of_eq rfl); (case c5 => decide); (case kB => exact locs rfl); (case c2 => exact rfl); (case c3 => exact rfl); (case c4 => exact rfl); k_whole; intro g L' h₁ hL hg F' N' B' X' T'; (try dsimp only); (try k_fold); (try (refine foldL ?_; intro eV aV)))
  (repeat' (first | (k_unfold; (try dsimp only)) | (k_end; wrow_close) | ((with_reducible show wpAny _ _ (exec (Stmt.For _ _ _ _ _) _) _ _ _); first | (with_reducible ((with_reducible show wpAny _ _ (exec (Stmt.For (Expr.Name (Str.ofString "nr") _) _ _ _ _) _) _ _ _); refine CutR.out ?_)) | (((with_reducible show wpAny _ _ (exec (Stmt.For (Expr.Name (Str.ofString "nr") _) _ _ _ _) _) _ _ _); refine CutR.out ?_))) | ((with_reducible show UnrEnd _ _ _ _ _ _ _); first | (with_reducible (first | (refine unrEnd_hd (by k_asm) (by k_asm) ?ka ?_; (case ka => k_all)) | (refine unrEnd_h1 (by k_asm) (by k_asm) ?ka ?_; (case ka => k_all)))) | ((first | (refine unrEnd_hd (by k_asm) (by k_asm) ?ka ?_; (case ka => k_all)) | (refine unrEnd_h1 (by k_asm) (by k_asm) ?ka ?_; (case ka => k_all))))) | walk1 | (dsimp only; (with_reducible show wpAny _ _ _ _ _ _)) | (leave1; walk_say "STEP leave1"; try dsimp only) | fail "no step"))
  refine ⟨?_⟩
  (with_reducible rename Fr _ _ _ _ => kF); (with_reducible rename News _ _ _ _ => kN); (with_reducible rename Below _ _ _ _ => kB); (with_reducible rename Frag.In _ _ => kX); (with_reducible rename Top _ _ _ _ _ _ => kT)
  refine' pts_use C kF kN kB kX kT ?hp ?hs ?hne ?hms ?hmp ?hx ?hy ?hy2 ?hd ?hu ?mn
  case hp => k_mem
  case hs => k_mem
  case hne => k_ne
  case hms => rfl
  case hmp => rfl
  case hx => assumption
  case hy => assumption
  case hy2 => assumption
  case hd => omega
  case hu => omega
  case mn =>
    intro m0 ws0 row0 x0' y0' u0 u0' n0' h0' tk0' F0' hk0 hp0 hs0 ha0 hl0 hL0 hx0 hy0 hz0
    obtain ⟨rest0, Nr0, hc0, hA0⟩ := row_lay ha0
    have N0' := pts_news kN hk0 hp0 hs0 Nr0 (by k_upd) (by k_all)
    (try dsimp only [List.cons_append, List.nil_append] at N0')
    (try dsimp only at F0')
    clear kN kF Nr0 hk0 ha0 hp0 hs0
    (try k_unfold); (try dsimp only)
    (repeat' (first | (k_unfold; (try dsimp only)) | (k_end; wrow_close) | ((with_reducible show wpAny _ _ (exec (Stmt.For _ _ _ _ _) _) _ _ _); first | (with_reducible ((with_reducible show wpAny _ _ (exec (Stmt.For (Expr.Name (Str.ofString "nr") _) _ _ _ _) _) _ _ _); refine CutR.out ?_)) | (((with_reducible show wpAny _ _ (exec (Stmt.For (Expr.Name (Str.ofString "nr") _) _ _ _ _) _) _ _ _); refine CutR.out ?_))) | ((with_reducible show UnrEnd _ _ _ _ _ _ _); first | (with_reducible (first | (refine unrEnd_hd (by k_asm) (by k_asm) ?ka ?_; (case ka => k_all)) | (refine unrEnd_h1 (by k_asm) (by k_asm) ?ka ?_; (case ka => k_all)))) | ((first | (refine unrEnd_hd (by k_asm) (by k_asm) ?ka ?_; (case ka => k_all)) | (refine unrEnd_h1 (by k_asm) (by k_asm) ?ka ?_; (case ka => k_all))))) | walk1 | (dsimp only; (with_reducible show wpAny _ _ _ _ _ _)) | (leave1; walk_say "STEP leave1"; try dsimp only) | fail "no step"))
    refine ⟨?_⟩
    (with_reducible rename Fr _ _ _ _ => kF); (with_reducible rename News _ _ _ _ => kN); (with_reducible rename Below _ _ _ _ => kB); (with_reducible rename Frag.In _ _ => kX); (with_reducible rename Top _ _ _ _ _ _ => kT)
    refine' pts_use C kF kN kB kX kT ?hp ?hs ?hne ?hms ?hmp ?hx ?hy ?hy2 ?hd ?hu ?mn
    case hp => k_mem
    case hs => k_mem
    case hne => k_ne
    case hms => rfl
    case hmp => rfl
    case hx => assumption
    case hy => assumption
    case hy2 => assumption
    case hd => omega
    case hu => omega
    case mn =>
      intro m1 ws1 row1 x1' y1' u1 u1' n1' h1' tk1' F1' hk1 hp1 hs1 ha1 hl1 hL1 hx1 hy1 hz1
      obtain ⟨rest1, Nr1, hc1, hA1⟩ := row_lay ha1
      have N1' := pts_news kN hk1 hp1 hs1 Nr1 (by k_upd) (by k_all)
      (try dsimp only [List.cons_append, List.nil_append] at N1')
      (try dsimp only at F1')
      clear kN kF Nr1 hk1 ha1 hp1 hs1
      (try k_unfold); (try dsimp only)
      (repeat' (first | (k_unfold; (try dsimp only)) | (k_end; wrow_close) | ((with_reducible show wpAny _ _ (exec (Stmt.For _ _ _ _ _) _) _ _ _); first | (with_reducible ((with_reducible show wpAny _ _ (exec (Stmt.For (Expr.Name (Str.ofString "nr") _) _ _ _ _) _) _ _ _); refine CutR.out ?_)) | (((with_reducible show wpAny _ _ (exec (Stmt.For (Expr.Name (Str.ofString "nr") _) _ _ _ _) _) _ _ _); refine CutR.out ?_))) | ((with_reducible show UnrEnd _ _ _ _ _ _ _); first | (with_reducible (first | (refine unrEnd_hd (by k_asm) (by k_asm) ?ka ?_; (case ka => k_all)) | (refine unrEnd_h1 (by k_asm) (by k_asm) ?ka ?_; (case ka => k_all)))) | ((first | (refine unrEnd_hd (by k_asm) (by k_asm) ?ka ?_; (case ka => k_all)) | (refine unrEnd_h1 (by k_asm) (by k_asm) ?ka ?_; (case ka => k_all))))) | walk1 | (dsimp only; (with_reducible show wpAny _ _ _ _ _ _)) | (leave1; walk_say "STEP leave1"; try dsimp only) | fail "no step"))
      (try dsimp only)
      (with_reducible rename Fr _ _ _ _ => kF); (with_reducible rename News _ _ _ _ => kN)
      refine' hret _ [row0, row1] _ _ _ _ _ _ ?e1 ?e2 ?e3 ?e4 rfl ?e5 ?f1 ?f2 ?f3
      case e3 => exact kN.get (by k_mem)
      case f1 => assumption
      case f2 => assumption
      case f3 => assumption
      case e2 => exact kp_ofS hg kF (List.forall_mem_singleton.mpr (.inl (.head _)))
      case e5 => exact (acons (⟨hl0, hL0⟩) ((acons (⟨hl1, hL1⟩) (List.forall_mem_nil _))))
      case e1 => exact fresh_of hg kN (by k_mem) (neAll_notin ⟨by k_ne, trivial⟩)
      case e4 =>
        refine' ⟨_, [_, _], _, rfl, ⟨kN.get (by k_mem), fresh_of hg kN (by k_mem) (neAll_notin ⟨by k_ne, trivial⟩)⟩, ?_⟩
        exact All2.cons_iff.mpr ⟨⟨_, ws0, _, rfl, ⟨kN.get (by k_mem), fresh_of hg kN (by k_mem) (neAll_notin ⟨by k_ne, trivial⟩)⟩, hA0.mono fun _ _ => PtAt.mono fun b o hq => ⟨(kN (b, o) (by repeat (first | exact hq | exact List.mem_append_left _ hq | exact List.mem_append_right _ hq | refine List.Mem.tail _ ?_))).1, fresh_of hg kN (o := o) (by repeat (first | exact hq | exact List.mem_append_left _ hq | exact List.mem_append_right _ hq | refine List.Mem.tail _ ?_)) (neAll_notin ⟨fun z => (show ∀ p ∈ rest0, p.1 ≠ src from by k_all) _ hq z.symm, trivial⟩)⟩⟩, All2.cons_iff.mpr ⟨⟨_, ws1, _, rfl, ⟨kN.get (by k_mem), fresh_of hg kN (by k_mem) (neAll_notin ⟨by k_ne, trivial⟩)⟩, hA1.mono fun _ _ => PtAt.mono fun b o hq => ⟨(kN (b, o) (by repeat (first | exact hq | exact List.mem_append_left _ hq | exact List.mem_append_right _ hq | refine List.Mem.tail _ ?_))).1, fresh_of hg kN (o := o) (by repeat (first | exact hq | exact List.mem_append_left _ hq | exact List.mem_append_right _ hq | refine List.Mem.tail _ ?_)) (neAll_notin ⟨fun z => (show ∀ p ∈ rest1, p.1 ≠ src from by k_all) _ hq z.symm, trivial⟩)⟩⟩, .nil⟩⟩
end
section
open PySem PySem.Spec PySem.Calls PySem.W PyProof.Rows PyProof.Rows.LCg PySem.SeqAt
theorem rows_shaped (rows : List (List Pt)) : shaped (rowsD rows) = true := by
  have h1 : ∀ r : List Pt, (rowD r).canLay0 = true ∧ (rowD r).depth ≤ 2 := fun r => by
    have := shape_list (D := ptD) (n := 1) shape_pt r
    refine ⟨?_, ?_⟩
    · show PyData.canLay0 (.list (r.map ptD)) = true
      simpa [PyData.canLay0] using this.1
    · show PyData.depth (.list (r.map ptD)) ≤ 2
      simp only [PyData.depth]
      omega
  have := shape_list (D := rowD) (n := 2) h1 rows
  unfold shaped
  rw [Bool.and_eq_true]
  refine ⟨?_, decide_eq_true ?_⟩
  · show PyData.canLay0 (.list (rows.map rowD)) = true
    simpa [PyData.canLay0] using this.1
  · show PyData.depth (.list (rows.map rowD)) ≤ 64
    simp only [PyData.depth]
    omega
theorem ne_rows {prog : Program} {w : World} {A : Around} {E : Value → Shared → Prop} {s : Shared} {v u : Value} {a b : List (List Pt)} {Q : Value → Shared → Prop} (h1 : RowsAt (fun c o => s.heap.get? c = some o) v a) (h2 : RowsAt (fun c o => s.heap.get? c = some o) u b) (e : a = b) (hu : A.units ≤ 400) (h : Q (.bool false) s) : wpAny (model prog w) A (compareOp .NotEq v u) Q E s := by
  subst e
  obtain ⟨as, ra⟩ := h1.reads
  obtain ⟨bs, rb⟩ := h2.reads
  refine ne_dataH ra rb (rows_shaped a) (rows_shaped a) (Nat.lt_of_le_of_lt (Nat.add_le_add_right hu 64) (by decide)) ?_
  rw [eqv_refl _ (canLay_of_shaped (rows_shaped a))]
  exact h
theorem eq_rows {prog : Program} {w : World} {A : Around} {E : Value → Shared → Prop} {s : Shared} {v u : Value} {a b : List (List Pt)} {Q : Value → Shared → Prop} (h1 : RowsAt (fun c o => s.heap.get? c = some o) v a) (h2 : RowsAt (fun c o => s.heap.get? c = some o) u b) (e : a = b) (hu : A.units ≤ 400) (h : Q (.bool true) s) : wpAny (model prog w) A (compareOp .Eq v u) Q E s := by
  subst e
  obtain ⟨as, ra⟩ := h1.reads
  obtain ⟨bs, rb⟩ := h2.reads
  refine eq_dataH ra rb (rows_shaped a) (rows_shaped a) (Nat.lt_of_le_of_lt (Nat.add_le_add_right hu 64) (by decide)) ?_
  rw [eqv_refl _ (canLay_of_shaped (rows_shaped a))]
  exact h
theorem contours_ok : ∀ (w : World) (p : Program) (loose : List Str) (mean : ExcName → Option Value) (mg mb : Str → Option Value) (H₀ : Heap)
  (dp un : Nat) (gd : Option (List Code)) (l : List Env) (s : Shared) (Q E : Value → Shared → Prop) (src : Addr) (x y many : Int) (t1 t2 tm : Tok) (n : Nat),
  Cx (Mine.hd.heap_1 w.params) p loose mean mg mb H₀ l s.heap → Own H₀ l s.heap src (listOf #[.int x t1, .int y t2] n) → 0 ≤ x → 0 ≤ y → y < 2147483647 → many = 1 ∨ many = 2 → dp + 12 ≤ 400 → un + 100 ≤ 400 →
  (∀ c rows x' y' t1' t2' h' tk', s.heap.get? c = none → Kp s.heap h' [src] → h'.get? src = some (listOf #[.int x' t1', .int y' t2'] n) → RowsAt (NM s.heap h') (.ref c) rows → Sm rows → 0 ≤ x' → 0 ≤ y' → y' < 2147483647 → Q (.ref c) {s with heap := h', toks := tk'}) →
  wpAny (model PySem.Challenge.rw_on0238_01.row.prog w) (AA dp un gd l) (call (.ref 340) [.ref src, .int many tm]) Q E s := by
  intro w p loose mean mg mb H₀ dp un gd l s Q E src x y many t1 t2 tm n C O hx hy hy2 hm hd hu hret
  rcases hm with rfl | rfl
  · exact contours_1 w p loose mean mg mb H₀ dp un gd l s Q E src x y t1 t2 tm n C O hx hy hy2 hd hu fun c rows x' y' t1' t2' h' tk' a1 a2 a3 a4 a5 a6 a7 a8 a9 => hret c rows x' y' t1' t2' h' tk' a1 a2 a3 a4 ⟨.inl a5, a6⟩ a7 a8 a9
  · exact contours_2 w p loose mean mg mb H₀ dp un gd l s Q E src x y t1 t2 tm n C O hx hy hy2 hd hu fun c rows x' y' t1' t2' h' tk' a1 a2 a3 a4 a5 a6 a7 a8 a9 => hret c rows x' y' t1' t2' h' tk' a1 a2 a3 a4 ⟨.inr a5, a6⟩ a7 a8 a9
theorem turn_out3 {g h₃ h₄ h' : Heap} {s₁ s₃ : Shared} {L C t : Addr} {m m₀ : Str → Option Value} {oC ot : Obj} {rest news' : List (Addr × Obj)} {tk : Nat} {β : Type} {Eo : (Addr → Obj → Prop) → Value → β → Prop} {b : β} {y : Value} (e3 : s₃.heap = h₃)
    (hr : ∀ b o, h₄.get? b = some o → b ≠ L → g.get? b = some o ∨ (b, o) ∈ rest) (k4 : ∀ b o, b ≠ C → h₃.get? b = some o → h₄.get? b = some o)
    (n : NsObj oC m₀) (hL : ∀ m', h₃.Ns L m' → m' = m) (F' : Fr g L h' m) (N' : News g L h' news') (hm : (C, oC) ∈ news') (sub : ∀ p ∈ rest, p ∈ news')
    (ht : (t, ot) ∈ news') (hlt : ∀ p ∈ rest, p.1 ≠ t) (htC : t ≠ C) (hE : (NM h₃ h') t ot → Eo (NM h₃ h') y b) :
    MapEnd s₁ s₃ C L Eo b y { s₁ with heap := h', toks := tk } := by
  subst e3
  refine ⟨h', tk, rfl, ⟨m₀, n.ns (N' _ hm).1⟩, fun b o hb hbL e => kept_rest hr F' N' sub b o hbL (k4 b o hb e), fun m' hm' => by rw [hL m' hm']; exact F'.ns, hE ⟨(N' _ ht).1, ?_⟩⟩
  cases q : s₃.heap.get? t with
  | none => rfl
  | some o =>
    rcases hr t o (k4 t o htC q) (N' _ ht).2.1 with z | z
    · rw [(N' _ ht).2.2] at z; cases z
    · exact absurd rfl (hlt _ z)
end
section
open PySem PySem.Spec PySem.Calls PySem.W PyProof.Rows PyProof.Rows.LCg
section
variable {prog : Program} {w : World} {A : Around} {E : Value → Shared → Prop} {env : Env}

theorem turn20 (elt : Expr) (x1 x2 : Str) (p1 p2 : Pos) (it1 it2 : Expr) (scope : Scope) (pos : Pos) (it acc : Value) (env : Env) :
    compTurn (.ListComp elt [⟨.Name x1 p1, it1, [], 0⟩, ⟨.Name x2 p2, it2, [], 0⟩] scope pos) 0 it acc env = (standAt it1.pos >>= fun _ => pyNext it >>= fun r => match r with
      | none => pure (.done .next)
      | some v => letOwnedTupleGo (.Name x1 p1) it v >>= fun _ => assign (.Name x1 p1) env v >>= fun _ =>
        eval it2 env >>= fun x => standAt it2.pos >>= fun _ => foldedSetIterable it2 env x >>= fun x => holding [x] (pyIter x) >>= fun it' =>
          runOwn (.compStart (.ListComp elt [⟨.Name x1 p1, it1, [], 0⟩, ⟨.Name x2 p2, it2, [], 0⟩] scope pos) 1 it' acc env) env >>= fun _ =>
          again (.compLoop (.ListComp elt [⟨.Name x1 p1, it1, [], 0⟩, ⟨.Name x2 p2, it2, [], 0⟩] scope pos) 0 it acc env)) := by rfl
theorem turn21 (elt : Expr) (x1 x2 : Str) (p1 p2 : Pos) (it1 it2 : Expr) (scope : Scope) (pos : Pos) (it acc : Value) (env : Env) :
    compTurn (.ListComp elt [⟨.Name x1 p1, it1, [], 0⟩, ⟨.Name x2 p2, it2, [], 0⟩] scope pos) 1 it acc env = (standAt it2.pos >>= fun _ => pyNext it >>= fun r => match r with
      | none => pure (.done .next)
      | some v => letOwnedTupleGo (.Name x2 p2) it v >>= fun _ => assign (.Name x2 p2) env v >>= fun _ =>
        (eval elt env >>= fun x => call (.builtin "list.append") [acc, x] >>= fun _ => pure ()) >>= fun _ =>
          again (.compLoop (.ListComp elt [⟨.Name x1 p1, it1, [], 0⟩, ⟨.Name x2 p2, it2, [], 0⟩] scope pos) 1 it acc env)) := by rfl
theorem start21 {R : Result → Shared → Prop} {s : Shared} {elt : Expr} {x1 x2 : Str} {p1 p2 : Pos} {it1 it2 : Expr} {scope : Scope} {pos : Pos} {it acc : Value} {env : Env}
    (h0 : codeAny (model prog w) A (.compLoop (.ListComp elt [⟨.Name x1 p1, it1, [], 0⟩, ⟨.Name x2 p2, it2, [], 0⟩] scope pos) 1 it acc env) R s)
    (h : wpAny (model prog w) A (pyIter it) (fun it' s' => codeAny (model prog w) A (.compLoop (.ListComp elt [⟨.Name x1 p1, it1, [], 0⟩, ⟨.Name x2 p2, it2, [], 0⟩] scope pos) 1 it' acc env) R s')
      (notedBy (model prog w) A env fun x s' => R (.error x) s') s) :
    codeAny (model prog w) A (.compStart (.ListComp elt [⟨.Name x1 p1, it1, [], 0⟩, ⟨.Name x2 p2, it2, [], 0⟩] scope pos) 1 it acc env) R s := by
  refine codeAny_of_tree ?_
  show wpAny _ _ ((compStart (.ListComp elt [⟨.Name x1 p1, it1, [], 0⟩, ⟨.Name x2 p2, it2, [], 0⟩] scope pos) 1 it acc env).onRaise (fun x => do noteFrame x env; standAt theWindowsPlace)) _ _ s
  refine wpAny_notedAt ?_
  unfold compStart
  show wpAny _ _ (ask >>= _) _ _ s
  refine wpAny_bind (wpAny_askSetting (wpAny_ite ?_))
  split
  · first
      | exact wpAny_bind (wpAny_pure (wpAny_pure (And.intro rfl h0)))
      | exact wpAny_pure (And.intro rfl h0)
  · first
      | exact wpAny_bind (wpAny_rule (wpAny_bind (wpAny_standAt (wpAny_bind (wpAny_mono h (fun it' s' h' => wpAny_pure (And.intro rfl h')) fun _ _ x => x)))))
      | (refine wpAny_bind (wpAny_rule ?_); show wpAny _ _ (standAt it2.pos >>= _) _ _ s; exact wpAny_bind (wpAny_standAt (wpAny_bind (wpAny_mono h (fun it' s' h' => wpAny_pure (And.intro rfl h')) fun _ _ x => x))))

/-- the inner loop: the row's items go behind what is there -/
theorem loop21 {R : Result → Shared → Prop} {s₁ : Shared} {x1 x2 : Str} {p1 p2 p3 : Pos} {it1 it2 : Expr} {scope : Scope} {cl : List (Str × Addr)} {pos : Pos} {I2 D C c : Addr} {ws base : List Value} (hh : A.handled = none)
    (hx2 : scope.names.lookup x2 = some .local) (hkind : scope.kind = .function) (hd2 : (x2 == ("__debug__" : Str)) = false) (hcI : c ≠ I2) (hCI : C ≠ I2) (hDI : D ≠ I2) (hDC : D ≠ C) (hcC : c ≠ C) (hcD : c ≠ D) (hIC : I2 ≠ C) (hID : I2 ≠ D) (hsz : (base ++ ws).length ≤ sizeLine)
    (K : Heap → Prop) (hK : ∀ h h', K h → (∀ b o, b ≠ I2 → b ≠ D → b ≠ C → h.get? b = some o → h'.get? b = some o) → K h')
    (fin : ∀ h' tk m', K h' → h'.Ns C m' → h'.get? D = some (lst (base ++ ws)) → R (.ok .next) { s₁ with heap := h', toks := tk }) :
    ∀ h' tk m', K h' → h'.IsListIter I2 c 0 → h'.IsList c ws.toArray → h'.Ns C m' → h'.get? D = some (lst base) →
    codeAny (model prog w) A (.compLoop (.ListComp (.Name x2 p3) [⟨.Name x1 p1, it1, [], 0⟩, ⟨.Name x2 p2, it2, [], 0⟩] scope pos) 1 (.ref I2) (.ref D) (compEnvC scope cl C env)) R { s₁ with heap := h', toks := tk } := by
  intro h0 tk0 m0 k0 i0 l0 n0 d0
  have W := Walks.list (prog := prog) (w := w) hh I2 c hcI ws.toArray
  refine codeAny_loop rfl (fun k s' => ∃ h' tk j m', s' = { s₁ with heap := h', toks := tk } ∧ j ≤ ws.length ∧ k = ws.length + 1 - j ∧ K h' ∧ h'.IsListIter I2 c j ∧ h'.IsList c ws.toArray ∧ h'.Ns C m' ∧ h'.get? D = some (lst (base ++ ws.take j))) (fun k s' hI => ?_) (ws.length + 1)
    ⟨h0, tk0, 0, m0, rfl, Nat.zero_le _, rfl, k0, i0, l0, n0, by simpa using d0⟩
  obtain ⟨h', tk, j, m', rfl, hj, rfl, kk, hi, hl, hn, hD⟩ := hI
  show wpAny _ A ((compTurn (.ListComp (.Name x2 p3) [⟨.Name x1 p1, it1, [], 0⟩, ⟨.Name x2 p2, it2, [], 0⟩] scope pos) 1 (.ref I2) (.ref D) (compEnvC scope cl C env)).onRaise (fun x => do noteFrame x (compEnvC scope cl C env); theTreesLotGoes x)) _ _ _
  refine wpAny_noted ?_
  rw [turn21]
  refine wpAny_bind (wpAny_standAt (wpAny_bind ?_))
  have hsw : ws.toArray.size = ws.length := by simp
  by_cases hlt : j < ws.length
  · refine W.item j _ _ _ (by rw [hsw]; exact hlt) ⟨hi, hl⟩ fun v h₂ tk₂ hPv hst₂ hk₂ => ?_
    have hk₂' : ∀ b o, b ≠ I2 → h'.get? b = some o → h₂.get? b = some o := fun b o hb e => hk₂ b o (by simpa using hb) e
    refine wpAny_bind (wpAny_of_eq rfl ?_)
    have hp : ((compEnvC scope cl C env).scope.kind == .class || ((compEnvC scope cl C env).scope.kind == .module && (compEnvC scope cl C env).locals != (compEnvC scope cl C env).globals)) = false := by simp [compEnvC, relabel, hkind]
    refine wpAny_bind (wpAny_assign_Name (wpAny_storeName_local (lookup_relabel_local hx2) (hn.at' fun o e => hk₂' _ o hCI e) (fun h₃ hn₃ hs₃ => ?_) hp))
    refine wpAny_bind (wpAny_bind (wpAny_Name (wpAny_loadName_local (m := fun x => if x = x2 then some v else m' x) hkind (lookup_relabel_local hx2) hn₃ (if_pos rfl) ?_) hd2))
    have hD₃ : h₃.get? D = some (lst (base ++ ws.take j)) := hs₃.extBut _ _ hDC (hk₂' _ _ hDI hD)
    have hsz' : (base ++ ws.take j).toArray.size ≤ sizeLine := by
      refine Nat.le_trans ?_ hsz
      simp only [List.size_toArray, List.length_append, List.length_take]
      omega
    refine wpAny_bind (append_at (hsz := hsz') hD₃ fun h₅ hs₅ hD₅ => ?_)
    refine wpAny_pure (wpAny_pure ⟨rfl, ws.length + 1 - (j + 1), by omega, h₅, _, j + 1, _, rfl, hlt, rfl, ?_, ?_, ?_, hn₃.sameBut hs₅ (Ne.symm hDC), ?_⟩)
    · exact hK _ _ kk fun b o b1 b2 b3 e => hs₅.extBut b o b2 (hs₃.extBut b o b3 (hk₂' b o b1 e))
    · exact hst₂.1.at fun o e => hs₅.extBut _ o hID (hs₃.extBut _ o hIC e)
    · exact hst₂.2.at fun o e => hs₅.extBut _ o hcD (hs₃.extBut _ o hcC e)
    · have hv : ws[j]? = some v := by simpa using hPv
      rw [hD₅, show ({ cls := .type "list", data := .seq ((base ++ ws.take j).toArray.push v) ((base ++ ws.take j).length + 1) } : Obj) = lst ((base ++ ws.take j) ++ [v]) from lst_snoc _ _, List.append_assoc, List.take_add_one, hv]
      rfl
  · obtain rfl : j = ws.length := Nat.le_antisymm hj (Nat.not_lt.mp hlt)
    refine W.done _ _ _ (by rw [hsw]; exact ⟨hi, hl⟩) fun h₂ tk₂ hk₂ => wpAny_pure ?_
    have hk₂' : ∀ b o, b ≠ I2 → h'.get? b = some o → h₂.get? b = some o := fun b o hb e => hk₂ b o (by simpa using hb) e
    refine fin _ _ m' (hK _ _ kk fun b o b1 _ _ e => hk₂' b o b1 e) (hn.at' fun o e => hk₂' _ o hCI e) ?_
    rw [List.take_length] at hD
    exact hk₂' _ _ hDI hD

def FlatSrc (Q : Value → Shared → Prop) (xv : Value) (s₁ : Shared) : Prop :=
  ∃ ax vs, ∃ rows : List (List Value), xv = .ref ax ∧ s₁.heap.IsList ax vs.toArray ∧ All2 (fun v ws => ∃ c, v = .ref c ∧ s₁.heap.IsList c (List.toArray ws)) vs rows ∧ rows.flatten.length ≤ 400 ∧
    ∀ D h' tk, s₁.heap.get? D = none → Kp s₁.heap h' [] → h'.get? D = some (lst rows.flatten) → Q (.ref D) { s₁ with heap := h', toks := tk }
theorem comp_flat {xn on : Str} {px p1 p2 p3 pos : Pos} {iter : Expr} {scope : Scope} {cl : List (Str × Addr)} {s : Shared} {Q : Value → Shared → Prop} (hh : A.handled = none)
    (hclos : closureFor scope env = pure cl) (hcell : ∀ y ∈ scope.names, y.2 ≠ .cell) (hkind : scope.kind = .function) (hnames : ∀ y ∈ scope.names, y.2 = .local → scope.names.lookup y.1 = some .local)
    (hx1 : scope.names.lookup xn = some .local) (hx2 : scope.names.lookup on = some .local) (hd1 : (xn == ("__debug__" : Str)) = false) (hd2 : (on == ("__debug__" : Str)) = false)
    (h : wpAny (model prog w) A (eval iter env) (FlatSrc Q) E s)
    (hs : ∀ x, foldedSetIterable iter env x = pure x := by intro _; rfl) :
    wpAny (model prog w) A (eval (.ListComp (.Name on p3) [⟨.Name xn px, iter, [], 0⟩, ⟨.Name on p1, .Name xn p2, [], 0⟩] scope pos) env) Q E s := by
  rw [eval_ListComp]
  refine wpAny_comprehension_free (use := none) rfl hs hclos hkind hnames (wpAny_mono h (fun xv s₁ h₁ => ?_) fun _ _ e => e)
  obtain ⟨ax, vs, rows, rfl, hl, a2, hlen, fin⟩ := h₁
  have hlt : ax < s₁.heap.objs.size := by obtain ⟨_, e, _⟩ := hl; exact Heap.lt_size e
  have key : ∀ itO : Obj, (s₁.heap.push itO).IsListIter s₁.heap.objs.size ax 0 → wpAny (model prog w) A (newList []) (fun acc s₃ => wpAny (model prog w) A (newFunctionEnv scope env.globals cl [] env.qual none .none (some env)) (fun cenv s₄ =>
      codeAny (model prog w) A (.compStart (.ListComp (.Name on p3) [⟨.Name xn px, iter, [], 0⟩, ⟨.Name on p1, .Name xn p2, [], 0⟩] scope pos) 0 (.ref s₁.heap.objs.size) acc { cenv with scope := relabel scope env }) (compPost (model prog w) A E none Q acc cenv.locals) s₄) E s₃) E { s₁ with heap := s₁.heap.push itO } := by
    intro itO hitO
    refine wpAny_newObj_type (wpAny_newFunctionEnv hcell (by intro y hy; simp at hy) (fun h₁ hns₁ hsb₁ => ?_) hkind)
    dsimp only at hns₁ hsb₁ ⊢
    generalize hH1 : s₁.heap.push itO = H1 at hns₁ hsb₁ hitO ⊢
    have hI1 : H1.objs.size = s₁.heap.objs.size + 1 := by rw [← hH1, Heap.size_push]
    generalize hH2 : H1.push { cls := .type "list", dict := none, data := .seq ([] : List Value).toArray } = H2 at hns₁ hsb₁ ⊢
    have hC : H2.objs.size = s₁.heap.objs.size + 1 + 1 := by rw [← hH2, Heap.size_push, hI1]
    have up2 : ∀ b o, s₁.heap.get? b = some o → H2.get? b = some o := fun b o e => by rw [← hH2]; exact Heap.get?_push_of_some _ (by rw [← hH1]; exact Heap.get?_push_of_some _ e)
    have hIC : (s₁.heap.objs.size : Nat) ≠ H2.objs.size := by rw [hC]; omega
    have hID : (s₁.heap.objs.size : Nat) ≠ H1.objs.size := by rw [hI1]; omega
    have hDC : (H1.objs.size : Nat) ≠ H2.objs.size := by rw [hC, hI1]; omega
    have oldlt : ∀ b o, s₁.heap.get? b = some o → @LT.lt Nat _ b s₁.heap.objs.size := fun b o e => Heap.lt_size e
    have neC : ∀ b o, s₁.heap.get? b = some o → b ≠ H2.objs.size := fun b o e q => by have := oldlt b o e; rw [q, hC] at this; exact absurd this (by omega)
    have neD : ∀ b o, s₁.heap.get? b = some o → b ≠ H1.objs.size := fun b o e q => by have := oldlt b o e; rw [q, hI1] at this; exact absurd this (by omega)
    have old : ∀ b o, s₁.heap.get? b = some o → h₁.get? b = some o := fun b o e => hsb₁.extBut b o (neC b o e) (Heap.get?_push_of_some _ (up2 b o e))
    have hI : h₁.IsListIter s₁.heap.objs.size ax 0 := hitO.at fun o e => hsb₁.extBut _ o hIC (Heap.get?_push_of_some _ (by rw [← hH2]; exact Heap.get?_push_of_some _ e))
    have hD : h₁.get? H1.objs.size = some (lst []) := hsb₁.extBut _ _ hDC (Heap.get?_push_of_some _ (by rw [← hH2]; exact Heap.get?_push_size _ rfl))
    have hnD : s₁.heap.get? H1.objs.size = none := Heap.get?_none_of_le (by rw [hI1]; exact Nat.le_succ _)
    have hvs : vs.toArray.size = vs.length := by simp
    have W := Walks.list (prog := prog) (w := w) hh s₁.heap.objs.size ax (Nat.ne_of_lt hlt) vs.toArray
    have hvr : vs.length = rows.length := a2.1
    have loop : ∀ s₃ : Shared, s₃ = { s₁ with heap := h₁, toks := s₁.toks + ([] : List (Str × Value)).length } →
        codeAny (model prog w) A (.compLoop (.ListComp (.Name on p3) [⟨.Name xn px, iter, [], 0⟩, ⟨.Name on p1, .Name xn p2, [], 0⟩] scope pos) 0 (.ref s₁.heap.objs.size) (.ref H1.objs.size) (compEnvC scope cl H2.objs.size env)) (compPost (model prog w) A E none Q (.ref H1.objs.size) H2.objs.size) s₃ := by
      rintro s₃ rfl
      refine codeAny_loop rfl (fun k s' => ∃ h' tk i m', s' = { s₁ with heap := h', toks := tk } ∧ i ≤ vs.length ∧ k = vs.length + 1 - i ∧ (∀ b o, s₁.heap.get? b = some o → h'.get? b = some o) ∧ h'.IsListIter s₁.heap.objs.size ax i ∧ h'.Ns H2.objs.size m' ∧ h'.get? H1.objs.size = some (lst (rows.take i).flatten)) (fun k s' hI => ?_) (vs.length + 1)
        ⟨h₁, _, 0, _, rfl, Nat.zero_le _, rfl, old, hI, hns₁, by simpa using hD⟩
      obtain ⟨h', tk, i, m', rfl, hi, rfl, ko, hit, hn, hDi⟩ := hI
      show wpAny _ A ((compTurn (.ListComp (.Name on p3) [⟨.Name xn px, iter, [], 0⟩, ⟨.Name on p1, .Name xn p2, [], 0⟩] scope pos) 0 (.ref s₁.heap.objs.size) (.ref H1.objs.size) (compEnvC scope cl H2.objs.size env)).onRaise (fun x => do noteFrame x (compEnvC scope cl H2.objs.size env); theTreesLotGoes x)) _ _ _
      refine wpAny_noted ?_
      rw [turn20]
      refine wpAny_bind (wpAny_standAt (wpAny_bind ?_))
      have hl' : h'.IsList ax vs.toArray := hl.at fun o e => ko _ o e
      by_cases hlt' : i < vs.length
      · refine W.item i _ _ _ (by rw [hvs]; exact hlt') ⟨hit, hl'⟩ fun v h₂ tk₂ hPv hst₂ hk₂ => ?_
        have hk₂' : ∀ b o, b ≠ s₁.heap.objs.size → h'.get? b = some o → h₂.get? b = some o := fun b o hb e => hk₂ b o (by simpa using hb) e
        have hv : vs[i]? = some v := by simpa using hPv
        obtain ⟨ws, hws, c, rfl, hcl⟩ := a2.2 i v hv
        refine wpAny_bind (wpAny_of_eq rfl ?_)
        have hp : ((compEnvC scope cl H2.objs.size env).scope.kind == .class || ((compEnvC scope cl H2.objs.size env).scope.kind == .module && (compEnvC scope cl H2.objs.size env).locals != (compEnvC scope cl H2.objs.size env).globals)) = false := by simp [compEnvC, relabel, hkind]
        refine wpAny_bind (wpAny_assign_Name (wpAny_storeName_local (lookup_relabel_local hx1) (hn.at' fun o e => hk₂' _ o (Ne.symm hIC) e) (fun h₃ hn₃ hs₃ => ?_) hp))
        refine wpAny_bind (wpAny_Name (wpAny_loadName_local (m := fun x => if x = xn then some (.ref c) else m' x) hkind (lookup_relabel_local hx1) hn₃ (if_pos rfl) ?_) hd1)
        refine wpAny_bind (wpAny_standAt (wpAny_bind (wpAny_of_eq rfl (wpAny_bind (wpAny_holding ?_)))))
        have ko₃ : ∀ b o, s₁.heap.get? b = some o → h₃.get? b = some o := fun b o e => hs₃.extBut b o (neC b o e) (hk₂' b o (Nat.ne_of_lt (oldlt b o e)) (ko b o e))
        have hcl₃ : h₃.IsList c ws.toArray := hcl.at fun o e => ko₃ _ o e
        have hit₃ : h₃.IsListIter s₁.heap.objs.size ax (i + 1) := hst₂.1.at fun o e => hs₃.extBut _ o hIC e
        have hD₃ : h₃.get? H1.objs.size = some (lst (rows.take i).flatten) := hs₃.extBut _ _ hDC (hk₂' _ _ (Ne.symm hID) hDi)
        have ltI : @LT.lt Nat _ s₁.heap.objs.size h₃.objs.size := by obtain ⟨o, e, _⟩ := hit₃; exact Heap.lt_size e
        have ltD : @LT.lt Nat _ H1.objs.size h₃.objs.size := Heap.lt_size hD₃
        have ltC : @LT.lt Nat _ H2.objs.size h₃.objs.size := hn₃.lt
        have hco : ∃ o, s₁.heap.get? c = some o := by obtain ⟨o, e, _⟩ := hcl; exact ⟨o, e⟩
        obtain ⟨oc, hco⟩ := hco
        have ltc := oldlt c oc hco
        have fl : (rows.take (i + 1)).flatten = (rows.take i).flatten ++ ws := by rw [List.take_add_one, hws]; simp
        have hfl : ((rows.take i).flatten ++ ws).length ≤ sizeLine := by
          rw [← fl]
          refine Nat.le_trans (Nat.le_trans ?_ hlen) (show 400 ≤ sizeLine from by rw [sizeLine_eq]; decide)
          have e9 : rows.flatten = (rows.take (i + 1)).flatten ++ (rows.drop (i + 1)).flatten := by rw [← List.flatten_append, List.take_append_drop]
          rw [e9, List.length_append]
          exact Nat.le_add_right _ _
        have inner : ∀ (it2 : Obj) (R : Result → Shared → Prop), (h₃.push it2).IsListIter h₃.objs.size c 0 →
            (∀ h9 tk9 m9, ((∀ b o, s₁.heap.get? b = some o → h9.get? b = some o) ∧ h9.IsListIter s₁.heap.objs.size ax (i + 1)) → h9.Ns H2.objs.size m9 → h9.get? H1.objs.size = some (lst ((rows.take i).flatten ++ ws)) → R (.ok .next) { s₁ with heap := h9, toks := tk9 }) →
            ∀ tk8, codeAny (model prog w) (A.mark none) (.compLoop (.ListComp (.Name on p3) [⟨.Name xn px, iter, [], 0⟩, ⟨.Name on p1, .Name xn p2, [], 0⟩] scope pos) 1 (.ref h₃.objs.size) (.ref H1.objs.size) (compEnvC scope cl H2.objs.size env)) R { s₁ with heap := h₃.push it2, toks := tk8 } := by
          intro it2 R hit2 hfin tk8
          refine loop21 (s₁ := s₁) (base := (rows.take i).flatten) (ws := ws) (c := c) hh hx2 hkind hd2 (Nat.ne_of_lt (Nat.lt_trans ltc ltI)) (Nat.ne_of_lt ltC) (Nat.ne_of_lt ltD) hDC (neC c oc hco) (neD c oc hco) (Nat.ne_of_gt ltC) (Nat.ne_of_gt ltD) hfl
            (fun h => (∀ b o, s₁.heap.get? b = some o → h.get? b = some o) ∧ h.IsListIter s₁.heap.objs.size ax (i + 1)) ?_ hfin _ _ _ ⟨fun b o e => Heap.get?_push_of_some _ (ko₃ b o e), hit₃.at fun o e => Heap.get?_push_of_some _ e⟩ hit2 (hcl₃.push _) (hn₃.keeps fun b o e => Heap.get?_push_of_some _ e) (Heap.get?_push_of_some _ hD₃)
          intro ha hb ⟨q1, q2⟩ kp
          exact ⟨fun b o e => kp b o (Nat.ne_of_lt (Nat.lt_trans (oldlt b o e) ltI)) (neD b o e) (neC b o e) (q1 b o e), q2.at fun o e => kp _ o (Nat.ne_of_lt ltI) hID hIC e⟩
        refine wpAny_pyIter_list hcl₃ ?_
        refine wpAny_bind (wpAny_runOwn ?_)
        refine start21 (inner _ _ ⟨_, Heap.get?_push_size _ rfl, rfl, rfl⟩ ?_ _) (wpAny_pyIter_listiter (l := c) (i := 0) ⟨_, Heap.get?_push_size _ rfl, rfl, rfl⟩ (inner _ _ ⟨_, Heap.get?_push_size _ rfl, rfl, rfl⟩ ?_ _))
        all_goals exact fun h9 tk9 m9 ⟨q1, q2⟩ n9 d9 => wpAny_pure ⟨rfl, vs.length + 1 - (i + 1), by omega, h9, tk9, i + 1, m9, rfl, hlt', rfl, q1, q2, n9, by rw [fl]; exact d9⟩
      · obtain rfl : i = vs.length := Nat.le_antisymm hi (Nat.not_lt.mp hlt')
        refine W.done _ _ _ (by rw [hvs]; exact ⟨hit, hl'⟩) fun h₂ tk₂ hk₂ => wpAny_pure ?_
        have hk₂' : ∀ b o, b ≠ s₁.heap.objs.size → h'.get? b = some o → h₂.get? b = some o := fun b o hb e => hk₂ b o (by simpa using hb) e
        refine ⟨m', hn.at' fun o e => hk₂' _ o (Ne.symm hIC) e, fun h'' hs'' => fin _ h'' _ hnD (fun b o e _ => hs''.extBut b o (neC b o e) (hk₂' b o (Nat.ne_of_lt (oldlt b o e)) (ko b o e))) ?_⟩
        rw [hvr, List.take_length] at hDi
        exact hs''.extBut _ _ hDC (hk₂' _ _ (Ne.symm hID) hDi)
    exact codeAny_compStart_list (loop _ rfl) (W.self 0 _ _ _ ⟨hI, hl.at fun o e => old _ o e⟩ (loop _ rfl))
  exact wpAny_pyIter_list hl (key _ ⟨_, Heap.get?_push_size _ rfl, rfl, rfl⟩)
end
end
section
open PySem PySem.Spec PySem.Calls PySem.W PyProof.Rows PyProof.Rows.LCg
theorem rows_flat {M : Addr → Obj → Prop} {h : Heap} (hM : ∀ c o, M c o → h.get? c = some o) : ∀ {vs : List Value} {rows : List (List Pt)}, All2 (RowAt M) vs rows → ∃ wss : List (List Value), All2 (fun v ws => ∃ c, v = .ref c ∧ h.IsList c (List.toArray ws)) vs wss ∧ All2 (PtAt M) wss.flatten rows.flatten
  | [], [], _ => ⟨[], .nil, .nil⟩
  | [], _ :: _, a => nomatch a.1
  | _ :: _, [], a => nomatch a.1
  | v :: vs, r :: rows, a => by
    obtain ⟨⟨c, ws, n, e, m, b⟩, a2⟩ := All2.cons_iff.mp a
    obtain ⟨wss, h1, h2⟩ := rows_flat hM a2
    exact ⟨ws :: wss, All2.cons_iff.mpr ⟨⟨c, e, ⟨_, hM _ _ m, rfl, _, rfl⟩⟩, h1⟩, by
      rw [List.flatten_cons, List.flatten_cons]; exact All2.append b h2⟩
theorem Sm.pos {rows : List (List Pt)} (h : Sm rows) : 0 < rows.flatten.length := by
  rcases two_len12 h.1 with ⟨a, rfl⟩ | ⟨a, b, rfl⟩
  · have := h.2 a (by simp); simp; omega
  · have := h.2 a (by simp); simp; omega
theorem flat_src {Q : Value → Shared → Prop} {M : Addr → Obj → Prop} {c0 : Addr} {rows : List (List Pt)} {s₁ : Shared} (hR : RowsAt M (.ref c0) rows) (hM : ∀ c o, M c o → s₁.heap.get? c = some o) (hs : Sm rows)
    (fin : ∀ D ws h' tk, s₁.heap.get? D = none → Kp s₁.heap h' [] → h'.get? D = some (listOf (List.toArray ws) ws.length) → All2 (PtAt M) ws rows.flatten → ws.length = rows.flatten.length → ws.length ≤ 400 → 0 < ws.length → Q (.ref D) { s₁ with heap := h', toks := tk }) : FlatSrc Q (.ref c0) s₁ := by
  obtain ⟨c, vs, n, e, m, a⟩ := hR
  cases e
  obtain ⟨wss, h1, h2⟩ := rows_flat hM a
  have hl : wss.flatten.length = rows.flatten.length := h2.1
  have h6 := hs.flat
  have hp := hs.pos
  exact ⟨c0, vs, wss, rfl, ⟨_, hM _ _ m, rfl, _, rfl⟩, h1, by omega, fun D h' tk q1 q2 q3 => fin D wss.flatten h' tk q1 q2 q3 h2 hl (by omega) (by omega)⟩
end
section
open PySem PySem.Spec PySem.Calls PySem.W PyProof.Rows
section
variable {g h h' : Heap} {L : Addr} {m : Str → Option Value} {env : Env} {S : List Addr} {news news' news'' cods cods' : List (Addr × Obj)} {a b : Addr} {o o' o2 o2' : Obj}
theorem fr_law (F : Fr g L h m) (hf : env.frame = some L) (k : KpF [env] h h' S) (hS : ∀ a ∈ S, g.get? a = none ∧ a ≠ L) : Fr g L h' m := by
  refine ⟨?_, fun b o e => ?_, F.above⟩
  · obtain ⟨oL, es, ep, e1, e2, e3⟩ := F.ns
    obtain ⟨sl, e4⟩ := k.2 L oL e1 (fun q => (hS L q).2 rfl) fun vs z => by rw [e2] at z; cases z
    exact ⟨_, es, ep, e4, e2, e3⟩
  · have nL : b ≠ L := fun q => absurd (Nat.lt_of_lt_of_le (Heap.lt_size (q ▸ e)) F.above) (Nat.lt_irrefl _)
    refine k.1 b o (F.keep b o e) (fun q => by rw [(hS b q).1] at e; cases e) fun env' he q => ?_
    rw [List.mem_singleton.mp he, hf] at q
    exact nL (Option.some.inj q).symm
theorem get_law (k : KpF [env] h h' S) (hf : env.frame = some L) (e : h.get? a = some o) (n : a ≠ L) (hS : a ∉ S) : h'.get? a = some o :=
  k.1 a o e hS fun env' he q => by
    rw [List.mem_singleton.mp he, hf] at q
    exact n (Option.some.inj q).symm
theorem upd_mem (U : Upd a o o' news news') : (a, o) ∈ news ∧ ∀ q ∈ news', q = (a, o') ∨ (q ∈ news ∧ q.1 ≠ a) := by
  obtain ⟨pre, post, rfl, rfl, h1, h2⟩ := U.split
  refine ⟨List.mem_append_right _ (.head _), fun q hq => ?_⟩
  rcases List.mem_append.mp hq with hq | hq
  · exact .inr ⟨List.mem_append_left _ hq, h1 q hq⟩
  · rcases List.mem_cons.mp hq with rfl | hq
    · exact .inl rfl
    · exact .inr ⟨List.mem_append_right _ (.tail _ hq), h2 q hq⟩
theorem tabSt_mono {c c' : List (Addr × Obj)} {l1 k1 l2 k2 : Nat} {q1 q2 : Str} {ps : Array Value} (h : ∀ q ∈ c, q ∈ c') (a : TabSt c l1 k1 l2 k2 q1 q2 ps) : TabSt c' l1 k1 l2 k2 q1 q2 ps := by
  rcases a with e | ⟨a1, a2, o1, o2, vs1, vs2, t1, t2, e, m1, m2, r⟩
  · exact .inl e
  · exact .inr ⟨a1, a2, o1, o2, vs1, vs2, t1, t2, e, h _ m1, h _ m2, r⟩
theorem tail_law {l1 c1 l2 c2 : Nat} {q1 q2 : Str} {ps : Array Value} (F : Fr g L h m) (N : News g L h news) (N' : News g L h' news')
    (hc' : ∀ q ∈ cods', h'.get? q.1 = some q.2) (hn : ∀ q ∈ cods', q ∈ cods ∨ h.get? q.1 = none) (T : TabSt cods' l1 c1 l2 c2 q1 q2 ps) :
    ∃ rest, News g L h' (news' ++ rest) ∧ Off rest news ∧ TabSt (cods ++ rest) l1 c1 l2 c2 q1 q2 ps := by
  have hr : ∀ q ∈ cods'.filter (fun q => (h.get? q.1).isNone), q ∈ cods' ∧ h.get? q.1 = none := fun q hq => by
    obtain ⟨x, y⟩ := List.mem_filter.mp hq
    exact ⟨x, Option.isNone_iff_eq_none.mp y⟩
  refine ⟨cods'.filter (fun q => (h.get? q.1).isNone), fun q hq => ?_, off_of (h9 := h) N fun p hp => (hr p hp).2, tabSt_mono (fun q hq => ?_) T⟩
  · rcases List.mem_append.mp hq with hq | hq
    · exact N' q hq
    · refine ⟨hc' q (hr q hq).1, fun z => ?_, ?_⟩
      · obtain ⟨oL, _, _, e, _⟩ := F.ns
        have := (hr q hq).2
        rw [z, e] at this; cases this
      · cases y : g.get? q.1 with
        | none => rfl
        | some o => have := F.keep _ _ y; rw [(hr q hq).2] at this; cases this
  · rcases hn q hq with x | x
    · exact List.mem_append_left _ x
    · exact List.mem_append_right _ (List.mem_filter.mpr ⟨hq, by rw [x]; rfl⟩)
theorem upd_law (N : News g L h news) (hf : env.frame = some L) (k : KpF [env] h h' [a]) (U : Upd a o o' news news') (e : h'.get? a = some o') : News g L h' news' := fun q hq => by
  obtain ⟨hm, hu⟩ := upd_mem U
  rcases hu q hq with rfl | ⟨x, y⟩
  · exact ⟨e, (N _ hm).2⟩
  · exact ⟨get_law k hf (N q x).1 (N q x).2.1 (fun z => y (List.mem_singleton.mp z)), (N q x).2⟩
theorem upd2_law {news1 : List (Addr × Obj)} (N : News g L h news) (hf : env.frame = some L) (k : KpF [env] h h' [a, b]) (U : Upd a o o' news news1) (U2 : Upd b o2 o2' news1 news') (e : h'.get? a = some o') (e2 : h'.get? b = some o2') : News g L h' news' := fun q hq => by
  obtain ⟨hm, hu⟩ := upd_mem U
  obtain ⟨hm2, hu2⟩ := upd_mem U2
  rcases hu2 q hq with rfl | ⟨x, y⟩
  · rcases hu _ hm2 with z | ⟨z, _⟩
    · cases z
      exact ⟨e2, (N _ hm).2⟩
    · exact ⟨e2, (N _ z).2⟩
  · rcases hu q x with rfl | ⟨z, t⟩
    · exact ⟨e, (N _ hm).2⟩
    · exact ⟨get_law k hf (N q z).1 (N q z).2.1 (fun r => by
        rcases List.mem_cons.mp r with r | r
        · exact t r
        · exact y (List.mem_singleton.mp r)), (N q z).2⟩
end
end
section
open PySem PySem.Spec PySem.Calls PySem.W PyProof.Rows
theorem placed_d : ∀ (w : World) (p : Program) (loose : List Str) (mean : ExcName → Option Value) (mg mb : Str → Option Value) (H₀ : Heap)
  (dp un : Nat) (gd : Option (List Code)) (l : List Env) (s : Shared) (Q E : Value → Shared → Prop) (x dx ci co : Addr) (ri ro : List (List Pt)) (cods : List (Addr × Obj)) (e1 e2 e3 e4 e5 : Int) (k1 k2 k3 k4 k5 tg tf ts : Tok) (gl f n : Int) (pa po : Pt),
  Cx (Mine.hd.heap_1 w.params) p loose mean mg mb H₀ l s.heap → (Own H₀ l s.heap x (instObj 221 dx)) → (Own H₀ l s.heap dx (partDict e1 e2 e3 e4 e5 k1 k2 k3 k4 k5 tg tf ts gl f n false 203)) → (∀ q ∈ cods, Own H₀ l s.heap q.1 q.2) → (RowsAt (fun c o => (c, o) ∈ cods) (.ref ci) ri) → (RowsAt (fun c o => (c, o) ∈ cods) (.ref co) ro) → (Sm ri) → (Sm ro) → (0 ≤ f) → (0 ≤ n) → (ro.flatten[f.toNat]? = some pa) → (ri.flatten[n.toNat]? = some po) →
  dp + 14 ≤ 400 → un + 100 ≤ 400 →
  (∀ v' h' tk', Kp s.heap h' [] → RowsAt (NM s.heap h') v' (ri.map (List.map (mvPt (pa.1 - po.1) (pa.2.1 - po.2.1)))) → Q v' {s with heap := h', toks := tk'}) →
  wpAny (model PySem.Challenge.rw_on0238_01.row.prog w) (AA dp un gd l) (call (.ref 253) [.ref x, .ref ci, .ref co]) Q E s := by
  k_fill
  w_top off
  intro w p loose mean mg mb H₀ dp un gd l s Q E x dx ci co ri ro cods e1 e2 e3 e4 e5 k1 k2 k3 k4 k5 tg tf ts gl f n pa po C Ox Od Oc hvi hvo hsi hso hf hn hpa hpb hd hu hret
  refine wpAny_call ?_
  let oq1 : Obj := partDict e1 e2 e3 e4 e5 k1 k2 k3 k4 k5 tg tf ts gl f n false 203; k_dflt (refine' enterK C ((x, instObj 221 dx) :: (dx, oq1) :: cods) ?O ?kA ?k6 ?k7 ?k8 ?k9 ?kB ?_ ?c2 ?c3 ?c4 ?c5; (case O => exact (acons (Ox) ((acons (Od) (Oc))))); (case kA => exact rfl); (case k6 => k_is); (case k7 => k_is); (case k8 => ktr_room); (case k9 => exact BindsTo.of_eq rfl); (case c5 => decide); (case kB => exact locs rfl); (case c2 => exact rfl); (case c3 => exact rfl); (case c4 => exact rfl); k_whole; intro g L' h₁ hL hg F' N' B' X' T'; (try dsimp only); (try k_fold))
  replace F' : Fr g L' h₁ (fun k => List.lookup k [(Str.ofString "outer", .ref co), (Str.ofString "inner", .ref ci), (Str.ofString "part", .ref x)]) := F'
  rw [look3] at F'
  have hla := len_of_get hpa
  have hlb := len_of_get hpb
  (repeat' (first | (k_unfold; (try dsimp only)) | (k_end; wrow_close) | ((with_reducible show wpAny _ _ (compareOp CmpOp.NotEq (Value.ref _) (Value.ref _)) _ _ _); first | (with_reducible (k_here; (with_reducible rename Frag.In _ _ => kX); (with_reducible rename Fr _ _ _ _ => kF); k_dflt (refine' ne_same ?h1 ?h2 ?hl ?hs ?hu ?_; (case h1 => exact ⟨_, kF.keep _ _ (kX 203 _ rfl), rfl, _, rfl⟩); (case h2 => exact ⟨_, News.get (by k_asm) (by k_mem), rfl, _, rfl⟩); (case hl => rfl); (case hs => exact same4 (by with_reducible exact SameV.int _ _ _) (by with_reducible exact SameV.int _ _ _) (by with_reducible exact SameV.int _ _ _) (by with_reducible exact SameV.int _ _ _)); (case hu => ktr_units); k_whole))) | ((k_here; (with_reducible rename Frag.In _ _ => kX); (with_reducible rename Fr _ _ _ _ => kF); k_dflt (refine' ne_same ?h1 ?h2 ?hl ?hs ?hu ?_; (case h1 => exact ⟨_, kF.keep _ _ (kX 203 _ rfl), rfl, _, rfl⟩); (case h2 => exact ⟨_, News.get (by k_asm) (by k_mem), rfl, _, rfl⟩); (case hl => rfl); (case hs => exact same4 (by with_reducible exact SameV.int _ _ _) (by with_reducible exact SameV.int _ _ _) (by with_reducible exact SameV.int _ _ _) (by with_reducible exact SameV.int _ _ _)); (case hu => ktr_units); k_whole)))) | ((with_reducible show wpAny _ _ (call (Value.ref _) _) _ _ _); first | (with_reducible (k_here; (with_reducible show wpAny _ _ (call (Value.ref 106) _) _ _ _); k_dflt ( refine' moved_ok _ _ _ _ _ _ _ _ _ _ _ _ _ _ _ _ _ _ _ _ ?C ?hv ?hsm ?hd ?hu ?_; (case C => exact Cx.next (by assumption) (by assumption) (by assumption) rfl rfl); (case hv => ((with_reducible rename News _ _ _ _ => kN); refine' RowsAt.mono ?_ (by with_reducible assumption); intro c9q o9q hm9q; exact (kN (c9q, o9q) (by repeat (first | exact hm9q | exact List.mem_append_left _ hm9q | exact List.mem_append_right _ hm9q | refine List.Mem.tail _ ?_ | refine List.mem_append_right _ ?_))).1)); (case hsm => first | assumption | exact Sm.small (by assumption) | exact Sm.small (Sm.map (by assumption))); (case hd => ktr_room); (case hu => ktr_units); k_whole; intro v'q h'q tk'q hKq hRq; (with_reducible rename Fr _ _ _ _ => kF); (with_reducible rename News _ _ _ _ => kN); have F'q := fr_kp0 kF hKq; obtain ⟨rest9, N', hoff9, hR9⟩ := news_rows0 kF kN hKq hRq; ((try dsimp only [List.cons_append, List.nil_append] at N'); (try simp only [List.append_assoc, List.cons_append] at N')); clear hKq hRq; (try k_sweep)))) | (with_reducible (k_here; (with_reducible show wpAny _ _ (call (Value.ref 75) _) _ _ _); k_dflt ( refine' points_ok _ _ _ _ _ _ _ _ _ _ _ _ _ _ _ _ _ _ _ _ _ _ _ _ ?C ?Ox ?Od ?hM ?hv ?hsm ?hd ?hu ?_; (case C => exact Cx.next (by assumption) (by assumption) (by assumption) rfl rfl); (case Ox => exact own_of (by assumption) (by assumption) (by k_mem) rfl); (case Od => exact own_of (by assumption) (by assumption) (by k_mem) rfl); (case hv => with_reducible assumption); (case hM => ((with_reducible rename News _ _ _ _ => kN); intro c9q o9q hm9q; exact own_of (o := o9q) (by assumption) kN (by repeat (first | exact hm9q | exact List.mem_append_left _ hm9q | exact List.mem_append_right _ hm9q | refine List.Mem.tail _ ?_ | refine List.mem_append_right _ ?_)) rfl)); (case hsm => first | assumption | exact Sm.map (by assumption)); (case hd => ktr_room); (case hu => ktr_units); k_whole; intro rq wsq n'q h'q tk'q hrnq hKq hrq hAq; (with_reducible rename Fr _ _ _ _ => kF); (with_reducible rename News _ _ _ _ => kN); have F'q := fr_kp0 kF hKq; have N'q := news_kp0 kN hKq; have N''q := news_new kF N'q hrnq hrq; have hneq := neAll rq kN hrnq; have hwlq := hAq.1; have hw4q := Nat.le_trans (Nat.le_of_eq hwlq) (Nat.le_trans (Sm.flat (by first | assumption | exact Sm.map (by assumption))) (show 6 ≤ 400 by decide)); clear N'q hrnq hrq hKq; (try k_sweep)))) | (with_reducible (k_here; (with_reducible show wpAny _ _ (call (Value.ref 97) [Value.ref _]) _ _ _); k_dflt (refine' mkOut _ _ _ _ _ _ _ _ _ _ _ _ _ _ _ ?C ?a ?b ?_; (case C => exact Cx.next (by assumption) (by assumption) (by assumption) rfl rfl); (case a => ktr_room); (case b => ktr_units); k_whole; unfold RetOut; intro xq dxq e1q e2q k1q k2q tbq h'q tk'q hKq hxq hdxq hxdq h1q h2q; (with_reducible rename Fr _ _ _ _ => kF); (with_reducible rename News _ _ _ _ => kN); have F'q := fr_kp0 kF hKq; have N'q := news_kp0 kN hKq; have N2q := news_new kF N'q hdxq h2q; have N3q := news_new kF N2q hxq h1q; have hne1q := neAll xq kN hxq; have hne2q := neAll dxq kN hdxq; replace hxdq : NeA _ _ := hxdq; clear N'q N2q hKq hxq hdxq h1q h2q; (try k_sweep))))) | ((with_reducible show wpAny _ _ (subscriptTail _ _ _ _) _ _ _); first | (with_reducible (k_here; (with_reducible show wpAny _ _ (subscriptTail _ _ (Value.ref _) (Value.int _ _)) _ _ _); (with_unfolding_all refine' my_item2 ?k1 ?k2 ?k3 ?k4 ?_; (case k1 => is_list); (case k2 => assumption); (case k3 => first | exact lt_toN (by assumption) (by assumption) (by assumption) | omega); (case k4 => assumption); k_whole); intro vq hvq; (have hp9q := All2.get (by assumption) hvq (by first | with_reducible assumption | exact Imp.go (by with_reducible assumption) (by with_reducible assumption))); (obtain ⟨c9, t9, u9, he9, hm9⟩ := hp9q); subst he9; (with_reducible rename News _ _ _ _ => kN); (have N'q := news_more (q := (c9, ptObj _ t9 u9)) kN (by repeat (first | exact hm9 | exact List.mem_append_left _ hm9 | exact List.mem_append_right _ hm9 | refine List.Mem.tail _ ?_ | refine List.mem_append_right _ ?_))); clear kN hvq hm9)) | ((k_here; (with_reducible show wpAny _ _ (subscriptTail _ _ (Value.ref _) (Value.int _ _)) _ _ _); (with_unfolding_all refine' my_item2 ?k1 ?k2 ?k3 ?k4 ?_; (case k1 => is_list); (case k2 => assumption); (case k3 => first | exact lt_toN (by assumption) (by assumption) (by assumption) | omega); (case k4 => assumption); k_whole); intro vq hvq; (have hp9q := All2.get (by assumption) hvq (by first | with_reducible assumption | exact Imp.go (by with_reducible assumption) (by with_reducible assumption))); (obtain ⟨c9, t9, u9, he9, hm9⟩ := hp9q); subst he9; (with_reducible rename News _ _ _ _ => kN); (have N'q := news_more (q := (c9, ptObj _ t9 u9)) kN (by repeat (first | exact hm9 | exact List.mem_append_left _ hm9 | exact List.mem_append_right _ hm9 | refine List.Mem.tail _ ?_ | refine List.mem_append_right _ ?_))); clear kN hvq hm9))) | ((with_reducible show wpAny _ _ (call (Value.builtin _) _) _ _ _); first | (with_reducible (k_here; (with_reducible show wpAny _ _ (call (Value.builtin _) [Value.ref _]) _ _ _); (with_unfolding_all refine' my_len ?k1 ?k2 ?_; (case k1 => is_list); (case k2 => assumption); k_whole)))) | (with_reducible (k_here; first | ((with_reducible refine ite_pos ?h ?_); (case h => first | exact nle_toD (by assumption) (by assumption) (by assumption) | omega)) | ((with_reducible refine ite_neg ?h ?_); (case h => first | exact nle_toD (by assumption) (by assumption) (by assumption) | omega)))) | ((k_here; first | ((with_reducible refine ite_pos ?h ?_); (case h => first | exact nle_toD (by assumption) (by assumption) (by assumption) | omega)) | ((with_reducible refine ite_neg ?h ?_); (case h => first | exact nle_toD (by assumption) (by assumption) (by assumption) | omega)))) | walk1 | (dsimp only; (with_reducible show wpAny _ _ _ _ _ _)) | (leave1; walk_say "STEP leave1"; try dsimp only) | fail "no step"))
  (try k_unfold)
  (try dsimp only)
  (with_reducible rename Fr _ _ _ _ => kF); (with_reducible rename News _ _ _ _ => kN); (with_reducible rename RowsAt _ _ _ => kR); (with_reducible rename Off _ _ => kO)
  refine hret _ _ _ (kp_ofS hg kF ((acons (.inr ⟨Ox.1, kN.get (by k_mem)⟩) ((acons (.inr ⟨Od.1, kN.get (by k_mem)⟩) (fun q9 hm9 => .inr ⟨(Oc q9 hm9).1, (kN q9 (by repeat (first | exact hm9 | exact List.mem_append_left _ hm9 | exact List.mem_append_right _ hm9 | refine List.Mem.tail _ ?_ | refine List.mem_append_right _ ?_))).1⟩)))))) (rows_eq ?_ (RowsAt.mono (fun c9 o9 hm9 => ⟨(kN (c9, o9) (by repeat (first | exact hm9 | exact List.mem_append_left _ hm9 | exact List.mem_append_right _ hm9 | refine List.Mem.tail _ ?_ | refine List.mem_append_right _ ?_))).1, fresh_of hg kN (o := o9) (by repeat (first | exact hm9 | exact List.mem_append_left _ hm9 | exact List.mem_append_right _ hm9 | refine List.Mem.tail _ ?_ | refine List.mem_append_right _ ?_)) (off_notin kO ((acons (by k_mem) ((acons (by k_mem) (fun q9 hm9 => (by repeat (first | exact hm9 | exact List.mem_append_left _ hm9 | exact List.mem_append_right _ hm9 | refine List.Mem.tail _ ?_ | refine List.mem_append_right _ ?_))))))) _ hm9)⟩) kR))
  rfl
end
section
open PySem PySem.Spec PySem.Calls PySem.W PyProof.Rows
theorem words_b : ∀ (w : World) (p : Program) (loose : List Str) (mean : ExcName → Option Value) (mg mb : Str → Option Value) (H₀ Hc : Heap) (dp un : Nat) (gd : Option (List Code)) (l : List Env) (s : Shared) (Q : Flow → Shared → Prop) (E : Value → Shared → Prop) (g : Heap) (L' x dx sc : Addr) (o1 o2 o3 : Obj) (vc vw vm vl vc2 : Value) (ps : Array Value) (cods : List (Addr × Obj)) (e1 e2 e3 e4 e5 : Int) (k1 k2 k3 k4 k5 tg tf ts ta tb tc td u2 u3 : Tok) (gl f n : Int) (mv : Bool) (a b c d : Int),
  (Cx (Mine.hd.heap_1 w.params) p loose mean mg mb H₀ l Hc) →
  (Fr g L' s.heap (fun y => if y = Str.ofString "cursor" then some vc else if y = Str.ofString "words" then some vw else if y = Str.ofString "more" then some vm else if y = Str.ofString "long" then some vl else if y = Str.ofString "cursor" then some vc2 else if y = Str.ofString "piece" then some (.ref x) else none)) →
  (News g L' s.heap ((L' + 1 + 1 + 1, o1) :: (L' + 1 + 1, o2) :: (L' + 1, o3) :: (x, instObj 221 dx) :: (dx, partDict e1 e2 e3 e4 e5 k1 k2 k3 k4 k5 tg tf ts gl f n mv sc) :: (sc, tup [.int a ta, .int b tb, .int c tc, .int d td]) :: (330, tabObj ps) :: cods)) →
  (Below (AA dp un gd l) H₀ l g) →
  ((Mine.hd.heap_1 w.params).In g) →
  (Top p loose mean mg mb g) →
  (CodeHd H₀ 332 330) →
  (o1.data = Data.cell none) →
  (o2.data = Data.cell (some (.bytes (arB mv f n).toArray u2))) →
  (o3.data = Data.cell (some (.int (arF mv f n) u3))) →
  (TabSt cods 218 73 220 24 (Str.ofString "_law_words_right" ++ ".<locals>." ++ "<lambda>") (Str.ofString "_law_words_right" ++ ".<locals>." ++ "<lambda>") ps) →
  (@LT.lt Nat _ x L' ∧ @LT.lt Nat _ dx L' ∧ @LT.lt Nat _ sc L' ∧ @LT.lt Nat _ 330 L') →
  (AllLt L' cods) →
  (NeA x 330) →
  (NeA dx 330) →
  (NeA sc 330) →
  (∀ p ∈ cods, p.1 ≠ 330) →
  (Rg mv f n) →
  (∀ q ∈ [a, b, c, d], -32768 ≤ q ∧ q < 32768) →
  (dp + 20 ≤ 400) →
  (un + 120 ≤ 400) →
  (∀ g₂ m' ps' cods' h' tk', Fr g₂ L' h' m' → KpF l g g₂ [] → News g₂ L' h' ((x, instObj 221 dx) :: (dx, partDict e1 e2 e3 e4 e5 k1 k2 k3 k4 k5 tg tf ts gl f n mv sc) :: (sc, tup [.int a ta, .int b tb, .int c tc, .int d td]) :: (330, tabObj ps') :: cods') → TabSt cods' 218 73 220 24 (Str.ofString "_law_words_right" ++ ".<locals>." ++ "<lambda>") (Str.ofString "_law_words_right" ++ ".<locals>." ++ "<lambda>") ps' → (∀ q ∈ cods, q ∈ cods') → (∀ q ∈ cods', q ∈ cods ∨ (g.get? q.1 = none ∧ @LT.lt Nat _ L' q.1)) → Q (.ret (.bool true)) {s with heap := h', toks := tk'}) →
  CutR (wpAny (model PySem.Challenge.rw_on0238_01.row.prog w) ((AA dp un gd l).deeper (envOfC (Str.ofString "_law_words_right") (scopeOf w 333) L' 333 (.ref 332))) (execs ((bodyOf w 333).drop 9) (envOfC (Str.ofString "_law_words_right") (scopeOf w 333) L' 333 (.ref 332))) Q E s) := by
  k_fill
  w_top off
  intro w p loose mean mg mb H₀ Hc dp un gd l s Q E g L' x dx sc o1 o2 o3 vc vw vm vl vc2 ps cods e1 e2 e3 e4 e5 k1 k2 k3 k4 k5 tg tf ts ta tb tc td u2 u3 gl f n mv a b c d C F' N' B' X' T' hcd d1 d2 d3 hT l1 hcod n1 n2 n3 n4 hr hs hd hu hret
  refine ⟨?_⟩
  have eb : (bodyOf w 333).drop 9 = [_, _, _] := rfl
  have es : scopeOf w 333 = { kind := _, names := _, isGenerator := _, isCoroutine := _, more := _ } := rfl
  rw [eb, es]
  clear eb es
  have hl1 := (arB_len mv f n).1
  have hl1b := (arB_len mv f n).2
  have hng0 : ∀ g2 c, KpF l g g2 [] → g2.get? c = none → g.get? c = none := fun g2 c k e => none_kpF B' k e
  have zq1 : NeAll x [(L' + 1 + 1 + 1, o1), (L' + 1 + 1, o2), (L' + 1, o3)] := cells3 l1.1
  have zq2 : NeAll dx [(L' + 1 + 1 + 1, o1), (L' + 1 + 1, o2), (L' + 1, o3)] := cells3 l1.2.1
  have zq3 : NeAll sc [(L' + 1 + 1 + 1, o1), (L' + 1 + 1, o2), (L' + 1, o3)] := cells3 l1.2.2.1
  have zq4 : NeAll 330 [(L' + 1 + 1 + 1, o1), (L' + 1 + 1, o2), (L' + 1, o3)] := cells3 l1.2.2.2
  let aq1 : Addr := L' + 1
  let aq2 : Addr := aq1 + 1
  let aq3 : Addr := aq2 + 1
  let oq4 : Obj := partDict e1 e2 e3 e4 e5 k1 k2 k3 k4 k5 tg tf ts gl f n mv sc
  let oq5 : Obj := tup [.int a ta, .int b tb, .int c tc, .int d td]
  replace N' : News g L' s.heap ((aq3, o1) :: (aq2, o2) :: (aq1, o3) :: (x, instObj 221 dx) :: (dx, oq4) :: (sc, oq5) :: (330, tabObj ps) :: cods) := N'
  (try k_fold)
  (try (refine foldL ?_; intro eV aV))
  (repeat' (first | (k_unfold; (try dsimp only)) | (k_end; wrow_close) | ((with_reducible show wpAny _ _ (call (Value.ref _) _) _ _ _); first | (with_reducible (k_here; (with_reducible show wpAny _ _ (call (Value.ref 328) [Value.ref _]) _ _ _); k_dflt ((with_reducible rename Fr _ _ _ _ => kF); (with_reducible rename News _ _ _ _ => kN); (with_reducible rename Below _ _ _ _ => kB); (with_reducible rename Frag.In _ _ => kX); (with_reducible rename Top _ _ _ _ _ _ => kT); (with_reducible rename Cx _ _ _ _ _ _ _ _ _ => kC); refine' refused_use kC kB kF kN rfl rfl ?fn ?_ ?hd ?hu ?_; (case fn => exact ⟨_, _, _, _, News.get kN (by k_mem)⟩); (case hd => ktr_room); (case hu => ktr_units); (any_goals (intro g2q h2q tk2q F'q N'q B'q X'q T'q hKGq hNGq; clear kF kN kB kX kT))))) | (with_reducible (k_here; (with_reducible show wpAny _ _ (call (Value.ref 232) [Value.ref _, Value.int 128 _]) _ _ _); k_dflt ( refine' rsw_ok _ _ _ _ _ _ _ _ _ _ _ _ _ _ _ _ _ _ _ _ _ _ _ _ _ _ _ _ ?C ?Ox ?Od ?hneq ?hW ?hrq ?hd ?hu ?_; (case C => exact Cx.next (by assumption) (by assumption) (by assumption) rfl rfl); (case Ox => exact own_of (by assumption) (by assumption) (by k_mem) rfl); (case Od => exact own_of (by assumption) (by assumption) (by k_mem) rfl); (case hneq => k_ne); (case hW => rfl); (case hrq => assumption); (case hd => ktr_room); (case hu => ktr_units); k_whole; intro rq t0q t1q t2q t3q tk₂q h'q tk'q hrnq hKq hsq hrq; (with_reducible rename Fr _ _ _ _ => kF); (with_reducible rename News _ _ _ _ => kN); have F'q := fr_kp1 kF kN (by k_mem) hKq; have N'q := news_upd kN hKq (by k_upd) hsq; have N''q := news_new kF N'q hrnq hrq; have hneq := neAll rq kN hrnq; clear N'q hrnq hrq hKq hsq; (try k_sweep)))) | (with_reducible (k_here; (with_reducible show wpAny _ _ (call (Value.ref 246) [Value.ref _, Value.int _ _]) _ _ _); k_dflt ( refine' ra_x _ _ _ _ _ _ _ _ _ _ _ _ _ _ _ _ _ _ _ _ _ _ _ _ _ _ _ _ ?C ?Ox ?Od ?hne ?hW ?hfl ?hd ?hu ?_; (case C => exact Cx.next (by assumption) (by assumption) (by assumption) rfl rfl); (case Ox => exact own_of (by assumption) (by assumption) (by k_mem) rfl); (case Od => exact own_of (by assumption) (by assumption) (by k_mem) rfl); (case hne => k_ne); (case hW => exact cut_last _ (Nat.le_of_succ_le (arB_len _ _ _).2)); (case hfl => rfl); (case hd => ktr_room); (case hu => ktr_units); k_whole; intro eq h'q tk'q hTq))) | (with_reducible (k_here; (with_reducible show wpAny _ _ (call (Value.ref 232) [Value.ref _, Value.int _ _]) _ _ _); k_dflt ( refine' rsw_x _ _ _ _ _ _ _ _ _ _ _ _ _ _ _ _ _ _ _ _ _ _ _ _ _ _ _ _ ?C ?Ox ?Od ?hne ?hW ?hd ?hu ?_; (case C => exact Cx.next (by assumption) (by assumption) (by assumption) rfl rfl); (case Ox => exact own_of (by assumption) (by assumption) (by k_mem) rfl); (case Od => exact own_of (by assumption) (by assumption) (by k_mem) rfl); (case hne => k_ne); (case hW => rfl); (case hd => ktr_room); (case hu => ktr_units); k_whole; intro eq h'q tk'q hTq))) | (with_reducible (k_here; (with_reducible show wpAny _ _ (call (Value.ref 309) _) _ _ _); k_dflt ( refine' two_ok _ _ _ _ _ _ _ _ _ _ _ _ _ _ _ _ ?C  ?hd ?hu ?_; (case C => exact Cx.next (by assumption) (by assumption) (by assumption) rfl rfl); (case hd => ktr_room); (case hu => ktr_units); k_whole; intro tq h'q tk'q hKq; (with_reducible rename Fr _ _ _ _ => kF); (with_reducible rename News _ _ _ _ => kN); have F'q := fr_kp0 kF hKq; have N'q := news_kp0 kN hKq; clear hKq; (try k_sweep)))) | (with_reducible (k_here; (with_reducible show wpAny _ _ (call (Value.ref 191) _) _ _ _); k_dflt (refine' mkOct _ _ _ _ _ _ _ _ _ _ _ _ _ _ _ _ ?C ?a ?b ?_; (case C => exact Cx.next (by assumption) (by assumption) (by assumption) rfl rfl); (case a => ktr_room); (case b => ktr_units); k_whole; unfold RetOct; intro xq dxq e1q e2q k1q k2q tbq tkq h'q tk'q hKq hxq hdxq hxdq h1q h2q; (with_reducible rename Fr _ _ _ _ => kF); (with_reducible rename News _ _ _ _ => kN); have F'q := fr_kp0 kF hKq; have N'q := news_kp0 kN hKq; have N2q := news_new kF N'q hdxq h2q; have N3q := news_new kF N2q hxq h1q; have hne1q := neAll xq kN hxq; have hne2q := neAll dxq kN hdxq; replace hxdq : NeA _ _ := hxdq; clear N'q N2q hKq hxq hdxq h1q h2q; (try k_sweep))))) | ((with_reducible show wpAny _ _ (eval (Expr.ListComp _ _ _ _) _) _ _ _); first | (with_reducible (k_here; (with_reducible rename Fr _ _ _ _ => kF); k_dflt (refine' comp_ok rule_name ?hh ?cl ?cell ?kind ?names (frL kF) ?_; (case hh => exact rfl); (case cl => exact rfl); (case cell => decide); (case kind => exact rfl); (case names => decide); k_whole)))) | ((with_reducible show wpAny _ _ (call (Value.builtin _) _) _ _ _); first | (with_reducible (k_here; k_dflt (refine' join_use ?X ?N ?a ?b ?_; (case X => k_in); (case N => exact News.get (by assumption) (by k_mem)); (case a => ktr_room); (case b => ktr_units); k_whole; intro tq h'q tk'q hKq; (with_reducible rename Fr _ _ _ _ => kF); (with_reducible rename News _ _ _ _ => kN); have F'q := fr_kp0 kF hKq; have N'q := news_kp0 kN hKq; clear hKq; (try k_sweep))))) | ((with_reducible show wpAny _ _ (getMethod (Value.bytes _ _) _ _) _ _ _); first | (with_reducible (k_here; (with_reducible refine getm_join ?_)))) | ((with_reducible show wpAny _ _ (subscriptTail _ _ _ _) _ _ _); first | (with_reducible (k_here; (with_reducible show wpAny _ _ (subscriptTail _ (Expr.Slice _ _ none _) (Value.bytes (List.toArray _) _) (Value.ref _)) _ _ _); (with_reducible rename Fr _ _ _ _ => F'q); (with_reducible rename News _ _ _ _ => N'q); (refine my_cut (s := ⟨_, _, _, _, _⟩) F'q N'q (by constructor) (by constructor) (by first | assumption | omega | exact Nat.le_of_ble_eq_true rfl) ?_); intro h'q t'q k'q F'q N'q; (try k_sweep)))) | ((with_reducible show wpAny _ _ (compareOp CmpOp.NotEq (Value.ref _) (Value.ref _)) _ _ _); first | (with_reducible (k_here; k_dflt (first | (refine' ne_same4 ?h1 ?h2 ?s1 ?s2 ?s3 ?s4 ?hu ?_; (case h1 => exact ⟨_, News.get (by k_asm) (by k_mem), rfl, _, rfl⟩); (case h2 => exact ⟨_, News.get (by k_asm) (by k_mem), rfl, _, rfl⟩); (case s1 => with_reducible exact SameV.int _ _ _); (case s2 => with_reducible exact SameV.int _ _ _); (case s3 => with_reducible exact SameV.int _ _ _); (case s4 => with_reducible exact SameV.int _ _ _); (case hu => ktr_units); k_whole) | (refine' ne_same2 ?h1 ?h2 ?s1 ?s2 ?hu ?_; (case h1 => exact ⟨_, News.get (by k_asm) (by k_mem), rfl, _, rfl⟩); (case h2 => exact ⟨_, News.get (by k_asm) (by k_mem), rfl, _, rfl⟩); (case s1 => first | with_reducible exact SameV.int _ _ _ | with_reducible exact SameV.bytes _ _ _); (case s2 => first | with_reducible exact SameV.int _ _ _ | with_reducible exact SameV.bytes _ _ _); (case hu => ktr_units); k_whole)))) | ((k_here; k_dflt (first | (refine' ne_same4 ?h1 ?h2 ?s1 ?s2 ?s3 ?s4 ?hu ?_; (case h1 => exact ⟨_, News.get (by k_asm) (by k_mem), rfl, _, rfl⟩); (case h2 => exact ⟨_, News.get (by k_asm) (by k_mem), rfl, _, rfl⟩); (case s1 => with_reducible exact SameV.int _ _ _); (case s2 => with_reducible exact SameV.int _ _ _); (case s3 => with_reducible exact SameV.int _ _ _); (case s4 => with_reducible exact SameV.int _ _ _); (case hu => ktr_units); k_whole) | (refine' ne_same2 ?h1 ?h2 ?s1 ?s2 ?hu ?_; (case h1 => exact ⟨_, News.get (by k_asm) (by k_mem), rfl, _, rfl⟩); (case h2 => exact ⟨_, News.get (by k_asm) (by k_mem), rfl, _, rfl⟩); (case s1 => first | with_reducible exact SameV.int _ _ _ | with_reducible exact SameV.bytes _ _ _); (case s2 => first | with_reducible exact SameV.int _ _ _ | with_reducible exact SameV.bytes _ _ _); (case hu => ktr_units); k_whole))))) | walk1 | (dsimp only; (with_reducible show wpAny _ _ _ _ _ _)) | (leave1; walk_say "STEP leave1"; try dsimp only) | fail "no step"))
  · (with_reducible show SrcOk _ _ _ _ _ _ _ _ _ _ _ _)
    (with_reducible rename Fr _ _ _ _ => kF)
    (with_reducible rename News _ _ _ _ => kN)
    refine ⟨sc, [.int a ta, .int b tb, .int c tc, .int d td], _, kF.ns, rfl, .inr ⟨_, kN.get (by k_mem), rfl, _, rfl⟩, Nat.le_of_ble_eq_true rfl, fun j y _ => ∃ x t, ([a, b, c, d] : List Int)[j]? = some x ∧ y = .bytes #[((x.fdiv 256).fmod 256).toNat.toUInt8, (x.fmod 256).toNat.toUInt8] t, ?_, ?_⟩
    · intro C1 D1 I1 j v s₃ oC oI m₃ ys E' hv hI hID hDC eC hoC hD eI hk hkL hs₃
      obtain ⟨x', tx, hx, rfl⟩ := four_at hv
      obtain ⟨h3, tk3, rfl⟩ := hs₃
      refine assign1 rfl rfl eC hoC fun h4 tk4 oC4 m4 eC4 hoC4 hx4 hk4 => ?_
      obtain ⟨F4, rest, N4, hr⟩ := turn_in kF (Nat.le_of_lt (Nat.lt_of_le_of_lt hI (Nat.lt_trans hID hDC))) hk hkL hk4 eC4
      clear kN
      (repeat' (first | (k_unfold; (try dsimp only)) | (k_end; wrow_close) | ((with_reducible show wpAny _ _ (call (Value.ref _) _) _ _ _); first | (with_reducible (k_here; (with_reducible show wpAny _ _ (call (Value.ref 328) [Value.ref _]) _ _ _); k_dflt ((with_reducible rename Fr _ _ _ _ => kF); (with_reducible rename News _ _ _ _ => kN); (with_reducible rename Below _ _ _ _ => kB); (with_reducible rename Frag.In _ _ => kX); (with_reducible rename Top _ _ _ _ _ _ => kT); (with_reducible rename Cx _ _ _ _ _ _ _ _ _ => kC); refine' refused_use kC kB kF kN rfl rfl ?fn ?_ ?hd ?hu ?_; (case fn => exact ⟨_, _, _, _, News.get kN (by k_mem)⟩); (case hd => ktr_room); (case hu => ktr_units); (any_goals (intro g2q h2q tk2q F'q N'q B'q X'q T'q hKGq hNGq; clear kF kN kB kX kT))))) | (with_reducible (k_here; (with_reducible show wpAny _ _ (call (Value.ref 232) [Value.ref _, Value.int 128 _]) _ _ _); k_dflt ( refine' rsw_ok _ _ _ _ _ _ _ _ _ _ _ _ _ _ _ _ _ _ _ _ _ _ _ _ _ _ _ _ ?C ?Ox ?Od ?hneq ?hW ?hrq ?hd ?hu ?_; (case C => exact Cx.next (by assumption) (by assumption) (by assumption) rfl rfl); (case Ox => exact own_of (by assumption) (by assumption) (by k_mem) rfl); (case Od => exact own_of (by assumption) (by assumption) (by k_mem) rfl); (case hneq => k_ne); (case hW => rfl); (case hrq => assumption); (case hd => ktr_room); (case hu => ktr_units); k_whole; intro rq t0q t1q t2q t3q tk₂q h'q tk'q hrnq hKq hsq hrq; (with_reducible rename Fr _ _ _ _ => kF); (with_reducible rename News _ _ _ _ => kN); have F'q := fr_kp1 kF kN (by k_mem) hKq; have N'q := news_upd kN hKq (by k_upd) hsq; have N''q := news_new kF N'q hrnq hrq; have hneq := neAll rq kN hrnq; clear N'q hrnq hrq hKq hsq; (try k_sweep)))) | (with_reducible (k_here; (with_reducible show wpAny _ _ (call (Value.ref 246) [Value.ref _, Value.int _ _]) _ _ _); k_dflt ( refine' ra_x _ _ _ _ _ _ _ _ _ _ _ _ _ _ _ _ _ _ _ _ _ _ _ _ _ _ _ _ ?C ?Ox ?Od ?hne ?hW ?hfl ?hd ?hu ?_; (case C => exact Cx.next (by assumption) (by assumption) (by assumption) rfl rfl); (case Ox => exact own_of (by assumption) (by assumption) (by k_mem) rfl); (case Od => exact own_of (by assumption) (by assumption) (by k_mem) rfl); (case hne => k_ne); (case hW => exact cut_last _ (Nat.le_of_succ_le (arB_len _ _ _).2)); (case hfl => rfl); (case hd => ktr_room); (case hu => ktr_units); k_whole; intro eq h'q tk'q hTq))) | (with_reducible (k_here; (with_reducible show wpAny _ _ (call (Value.ref 232) [Value.ref _, Value.int _ _]) _ _ _); k_dflt ( refine' rsw_x _ _ _ _ _ _ _ _ _ _ _ _ _ _ _ _ _ _ _ _ _ _ _ _ _ _ _ _ ?C ?Ox ?Od ?hne ?hW ?hd ?hu ?_; (case C => exact Cx.next (by assumption) (by assumption) (by assumption) rfl rfl); (case Ox => exact own_of (by assumption) (by assumption) (by k_mem) rfl); (case Od => exact own_of (by assumption) (by assumption) (by k_mem) rfl); (case hne => k_ne); (case hW => rfl); (case hd => ktr_room); (case hu => ktr_units); k_whole; intro eq h'q tk'q hTq))) | (with_reducible (k_here; (with_reducible show wpAny _ _ (call (Value.ref 309) _) _ _ _); k_dflt ( refine' two_ok _ _ _ _ _ _ _ _ _ _ _ _ _ _ _ _ ?C  ?hd ?hu ?_; (case C => exact Cx.next (by assumption) (by assumption) (by assumption) rfl rfl); (case hd => ktr_room); (case hu => ktr_units); k_whole; intro tq h'q tk'q hKq; (with_reducible rename Fr _ _ _ _ => kF); (with_reducible rename News _ _ _ _ => kN); have F'q := fr_kp0 kF hKq; have N'q := news_kp0 kN hKq; clear hKq; (try k_sweep)))) | (with_reducible (k_here; (with_reducible show wpAny _ _ (call (Value.ref 191) _) _ _ _); k_dflt (refine' mkOct _ _ _ _ _ _ _ _ _ _ _ _ _ _ _ _ ?C ?a ?b ?_; (case C => exact Cx.next (by assumption) (by assumption) (by assumption) rfl rfl); (case a => ktr_room); (case b => ktr_units); k_whole; unfold RetOct; intro xq dxq e1q e2q k1q k2q tbq tkq h'q tk'q hKq hxq hdxq hxdq h1q h2q; (with_reducible rename Fr _ _ _ _ => kF); (with_reducible rename News _ _ _ _ => kN); have F'q := fr_kp0 kF hKq; have N'q := news_kp0 kN hKq; have N2q := news_new kF N'q hdxq h2q; have N3q := news_new kF N2q hxq h1q; have hne1q := neAll xq kN hxq; have hne2q := neAll dxq kN hdxq; replace hxdq : NeA _ _ := hxdq; clear N'q N2q hKq hxq hdxq h1q h2q; (try k_sweep))))) | ((with_reducible show wpAny _ _ (eval (Expr.ListComp _ _ _ _) _) _ _ _); first | (with_reducible (k_here; (with_reducible rename Fr _ _ _ _ => kF); k_dflt (refine' comp_ok rule_name ?hh ?cl ?cell ?kind ?names (frL kF) ?_; (case hh => exact rfl); (case cl => exact rfl); (case cell => decide); (case kind => exact rfl); (case names => decide); k_whole)))) | ((with_reducible show wpAny _ _ (call (Value.builtin _) _) _ _ _); first | (with_reducible (k_here; k_dflt (refine' join_use ?X ?N ?a ?b ?_; (case X => k_in); (case N => exact News.get (by assumption) (by k_mem)); (case a => ktr_room); (case b => ktr_units); k_whole; intro tq h'q tk'q hKq; (with_reducible rename Fr _ _ _ _ => kF); (with_reducible rename News _ _ _ _ => kN); have F'q := fr_kp0 kF hKq; have N'q := news_kp0 kN hKq; clear hKq; (try k_sweep))))) | ((with_reducible show wpAny _ _ (getMethod (Value.bytes _ _) _ _) _ _ _); first | (with_reducible (k_here; (with_reducible refine getm_join ?_)))) | ((with_reducible show wpAny _ _ (subscriptTail _ _ _ _) _ _ _); first | (with_reducible (k_here; (with_reducible show wpAny _ _ (subscriptTail _ (Expr.Slice _ _ none _) (Value.bytes (List.toArray _) _) (Value.ref _)) _ _ _); (with_reducible rename Fr _ _ _ _ => F'q); (with_reducible rename News _ _ _ _ => N'q); (refine my_cut (s := ⟨_, _, _, _, _⟩) F'q N'q (by constructor) (by constructor) (by first | assumption | omega | exact Nat.le_of_ble_eq_true rfl) ?_); intro h'q t'q k'q F'q N'q; (try k_sweep)))) | ((with_reducible show wpAny _ _ (compareOp CmpOp.NotEq (Value.ref _) (Value.ref _)) _ _ _); first | (with_reducible (k_here; k_dflt (first | (refine' ne_same4 ?h1 ?h2 ?s1 ?s2 ?s3 ?s4 ?hu ?_; (case h1 => exact ⟨_, News.get (by k_asm) (by k_mem), rfl, _, rfl⟩); (case h2 => exact ⟨_, News.get (by k_asm) (by k_mem), rfl, _, rfl⟩); (case s1 => with_reducible exact SameV.int _ _ _); (case s2 => with_reducible exact SameV.int _ _ _); (case s3 => with_reducible exact SameV.int _ _ _); (case s4 => with_reducible exact SameV.int _ _ _); (case hu => ktr_units); k_whole) | (refine' ne_same2 ?h1 ?h2 ?s1 ?s2 ?hu ?_; (case h1 => exact ⟨_, News.get (by k_asm) (by k_mem), rfl, _, rfl⟩); (case h2 => exact ⟨_, News.get (by k_asm) (by k_mem), rfl, _, rfl⟩); (case s1 => first | with_reducible exact SameV.int _ _ _ | with_reducible exact SameV.bytes _ _ _); (case s2 => first | with_reducible exact SameV.int _ _ _ | with_reducible exact SameV.bytes _ _ _); (case hu => ktr_units); k_whole)))) | ((k_here; k_dflt (first | (refine' ne_same4 ?h1 ?h2 ?s1 ?s2 ?s3 ?s4 ?hu ?_; (case h1 => exact ⟨_, News.get (by k_asm) (by k_mem), rfl, _, rfl⟩); (case h2 => exact ⟨_, News.get (by k_asm) (by k_mem), rfl, _, rfl⟩); (case s1 => with_reducible exact SameV.int _ _ _); (case s2 => with_reducible exact SameV.int _ _ _); (case s3 => with_reducible exact SameV.int _ _ _); (case s4 => with_reducible exact SameV.int _ _ _); (case hu => ktr_units); k_whole) | (refine' ne_same2 ?h1 ?h2 ?s1 ?s2 ?hu ?_; (case h1 => exact ⟨_, News.get (by k_asm) (by k_mem), rfl, _, rfl⟩); (case h2 => exact ⟨_, News.get (by k_asm) (by k_mem), rfl, _, rfl⟩); (case s1 => first | with_reducible exact SameV.int _ _ _ | with_reducible exact SameV.bytes _ _ _); (case s2 => first | with_reducible exact SameV.int _ _ _ | with_reducible exact SameV.bytes _ _ _); (case hu => ktr_units); k_whole))))) | walk1 | (dsimp only; (with_reducible show wpAny _ _ _ _ _ _)) | (leave1; walk_say "STEP leave1"; try dsimp only) | fail "no step"))
      (with_reducible rename Fr _ _ _ _ => kF9)
      (with_reducible rename News _ _ _ _ => kN9)
      exact turn_out hr hk4 hoC4 (fun m' hm' => ns_unique (fr_kpL kF hk hkL).ns hm') kF9 kN9 (.head _) (fun p hp => .tail _ hp) (fun h'' _ => ⟨x', _, hx, rfl⟩)
    · intro D1 ys h5 tk5 hD hk hkL hDl hlen hG
      have F5 := fr_kpL kF hk hkL
      have N5 := news_new kF (news_kpL kN hk) hD hDl
      have hne := neAll D1 kN hD
      clear kN hk hkL kF
      obtain ⟨y1, y2, y3, y4, rfl⟩ := len_four hlen
      obtain ⟨x1, w1, q1, rfl⟩ := hG 0 y1 rfl
      obtain ⟨x2, w2, q2, rfl⟩ := hG 1 y2 rfl
      obtain ⟨x3, w3, q3, rfl⟩ := hG 2 y3 rfl
      obtain ⟨x4, w4, q4, rfl⟩ := hG 3 y4 rfl
      cases q1; cases q2; cases q3; cases q4
      clear hG
      dsimp only
      (repeat' (first | (k_unfold; (try dsimp only)) | (k_end; wrow_close) | ((with_reducible show wpAny _ _ (call (Value.ref _) _) _ _ _); first | (with_reducible (k_here; (with_reducible show wpAny _ _ (call (Value.ref 328) [Value.ref _]) _ _ _); k_dflt ((with_reducible rename Fr _ _ _ _ => kF); (with_reducible rename News _ _ _ _ => kN); (with_reducible rename Below _ _ _ _ => kB); (with_reducible rename Frag.In _ _ => kX); (with_reducible rename Top _ _ _ _ _ _ => kT); (with_reducible rename Cx _ _ _ _ _ _ _ _ _ => kC); refine' refused_use kC kB kF kN rfl rfl ?fn ?_ ?hd ?hu ?_; (case fn => exact ⟨_, _, _, _, News.get kN (by k_mem)⟩); (case hd => ktr_room); (case hu => ktr_units); (any_goals (intro g2q h2q tk2q F'q N'q B'q X'q T'q hKGq hNGq; clear kF kN kB kX kT))))) | (with_reducible (k_here; (with_reducible show wpAny _ _ (call (Value.ref 232) [Value.ref _, Value.int 128 _]) _ _ _); k_dflt ( refine' rsw_ok _ _ _ _ _ _ _ _ _ _ _ _ _ _ _ _ _ _ _ _ _ _ _ _ _ _ _ _ ?C ?Ox ?Od ?hneq ?hW ?hrq ?hd ?hu ?_; (case C => exact Cx.next (by assumption) (by assumption) (by assumption) rfl rfl); (case Ox => exact own_of (by assumption) (by assumption) (by k_mem) rfl); (case Od => exact own_of (by assumption) (by assumption) (by k_mem) rfl); (case hneq => k_ne); (case hW => rfl); (case hrq => assumption); (case hd => ktr_room); (case hu => ktr_units); k_whole; intro rq t0q t1q t2q t3q tk₂q h'q tk'q hrnq hKq hsq hrq; (with_reducible rename Fr _ _ _ _ => kF); (with_reducible rename News _ _ _ _ => kN); have F'q := fr_kp1 kF kN (by k_mem) hKq; have N'q := news_upd kN hKq (by k_upd) hsq; have N''q := news_new kF N'q hrnq hrq; have hneq := neAll rq kN hrnq; clear N'q hrnq hrq hKq hsq; (try k_sweep)))) | (with_reducible (k_here; (with_reducible show wpAny _ _ (call (Value.ref 246) [Value.ref _, Value.int _ _]) _ _ _); k_dflt ( refine' ra_x _ _ _ _ _ _ _ _ _ _ _ _ _ _ _ _ _ _ _ _ _ _ _ _ _ _ _ _ ?C ?Ox ?Od ?hne ?hW ?hfl ?hd ?hu ?_; (case C => exact Cx.next (by assumption) (by assumption) (by assumption) rfl rfl); (case Ox => exact own_of (by assumption) (by assumption) (by k_mem) rfl); (case Od => exact own_of (by assumption) (by assumption) (by k_mem) rfl); (case hne => k_ne); (case hW => exact cut_last _ (Nat.le_of_succ_le (arB_len _ _ _).2)); (case hfl => rfl); (case hd => ktr_room); (case hu => ktr_units); k_whole; intro eq h'q tk'q hTq))) | (with_reducible (k_here; (with_reducible show wpAny _ _ (call (Value.ref 232) [Value.ref _, Value.int _ _]) _ _ _); k_dflt ( refine' rsw_x _ _ _ _ _ _ _ _ _ _ _ _ _ _ _ _ _ _ _ _ _ _ _ _ _ _ _ _ ?C ?Ox ?Od ?hne ?hW ?hd ?hu ?_; (case C => exact Cx.next (by assumption) (by assumption) (by assumption) rfl rfl); (case Ox => exact own_of (by assumption) (by assumption) (by k_mem) rfl); (case Od => exact own_of (by assumption) (by assumption) (by k_mem) rfl); (case hne => k_ne); (case hW => rfl); (case hd => ktr_room); (case hu => ktr_units); k_whole; intro eq h'q tk'q hTq))) | (with_reducible (k_here; (with_reducible show wpAny _ _ (call (Value.ref 309) _) _ _ _); k_dflt ( refine' two_ok _ _ _ _ _ _ _ _ _ _ _ _ _ _ _ _ ?C  ?hd ?hu ?_; (case C => exact Cx.next (by assumption) (by assumption) (by assumption) rfl rfl); (case hd => ktr_room); (case hu => ktr_units); k_whole; intro tq h'q tk'q hKq; (with_reducible rename Fr _ _ _ _ => kF); (with_reducible rename News _ _ _ _ => kN); have F'q := fr_kp0 kF hKq; have N'q := news_kp0 kN hKq; clear hKq; (try k_sweep)))) | (with_reducible (k_here; (with_reducible show wpAny _ _ (call (Value.ref 191) _) _ _ _); k_dflt (refine' mkOct _ _ _ _ _ _ _ _ _ _ _ _ _ _ _ _ ?C ?a ?b ?_; (case C => exact Cx.next (by assumption) (by assumption) (by assumption) rfl rfl); (case a => ktr_room); (case b => ktr_units); k_whole; unfold RetOct; intro xq dxq e1q e2q k1q k2q tbq tkq h'q tk'q hKq hxq hdxq hxdq h1q h2q; (with_reducible rename Fr _ _ _ _ => kF); (with_reducible rename News _ _ _ _ => kN); have F'q := fr_kp0 kF hKq; have N'q := news_kp0 kN hKq; have N2q := news_new kF N'q hdxq h2q; have N3q := news_new kF N2q hxq h1q; have hne1q := neAll xq kN hxq; have hne2q := neAll dxq kN hdxq; replace hxdq : NeA _ _ := hxdq; clear N'q N2q hKq hxq hdxq h1q h2q; (try k_sweep))))) | ((with_reducible show wpAny _ _ (eval (Expr.ListComp _ _ _ _) _) _ _ _); first | (with_reducible (k_here; (with_reducible rename Fr _ _ _ _ => kF); k_dflt (refine' comp_ok rule_name ?hh ?cl ?cell ?kind ?names (frL kF) ?_; (case hh => exact rfl); (case cl => exact rfl); (case cell => decide); (case kind => exact rfl); (case names => decide); k_whole)))) | ((with_reducible show wpAny _ _ (call (Value.builtin _) _) _ _ _); first | (with_reducible (k_here; k_dflt (refine' join_use ?X ?N ?a ?b ?_; (case X => k_in); (case N => exact News.get (by assumption) (by k_mem)); (case a => ktr_room); (case b => ktr_units); k_whole; intro tq h'q tk'q hKq; (with_reducible rename Fr _ _ _ _ => kF); (with_reducible rename News _ _ _ _ => kN); have F'q := fr_kp0 kF hKq; have N'q := news_kp0 kN hKq; clear hKq; (try k_sweep))))) | ((with_reducible show wpAny _ _ (getMethod (Value.bytes _ _) _ _) _ _ _); first | (with_reducible (k_here; (with_reducible refine getm_join ?_)))) | ((with_reducible show wpAny _ _ (subscriptTail _ _ _ _) _ _ _); first | (with_reducible (k_here; (with_reducible show wpAny _ _ (subscriptTail _ (Expr.Slice _ _ none _) (Value.bytes (List.toArray _) _) (Value.ref _)) _ _ _); (with_reducible rename Fr _ _ _ _ => F'q); (with_reducible rename News _ _ _ _ => N'q); (refine my_cut (s := ⟨_, _, _, _, _⟩) F'q N'q (by constructor) (by constructor) (by first | assumption | omega | exact Nat.le_of_ble_eq_true rfl) ?_); intro h'q t'q k'q F'q N'q; (try k_sweep)))) | ((with_reducible show wpAny _ _ (compareOp CmpOp.NotEq (Value.ref _) (Value.ref _)) _ _ _); first | (with_reducible (k_here; k_dflt (first | (refine' ne_same4 ?h1 ?h2 ?s1 ?s2 ?s3 ?s4 ?hu ?_; (case h1 => exact ⟨_, News.get (by k_asm) (by k_mem), rfl, _, rfl⟩); (case h2 => exact ⟨_, News.get (by k_asm) (by k_mem), rfl, _, rfl⟩); (case s1 => with_reducible exact SameV.int _ _ _); (case s2 => with_reducible exact SameV.int _ _ _); (case s3 => with_reducible exact SameV.int _ _ _); (case s4 => with_reducible exact SameV.int _ _ _); (case hu => ktr_units); k_whole) | (refine' ne_same2 ?h1 ?h2 ?s1 ?s2 ?hu ?_; (case h1 => exact ⟨_, News.get (by k_asm) (by k_mem), rfl, _, rfl⟩); (case h2 => exact ⟨_, News.get (by k_asm) (by k_mem), rfl, _, rfl⟩); (case s1 => first | with_reducible exact SameV.int _ _ _ | with_reducible exact SameV.bytes _ _ _); (case s2 => first | with_reducible exact SameV.int _ _ _ | with_reducible exact SameV.bytes _ _ _); (case hu => ktr_units); k_whole)))) | ((k_here; k_dflt (first | (refine' ne_same4 ?h1 ?h2 ?s1 ?s2 ?s3 ?s4 ?hu ?_; (case h1 => exact ⟨_, News.get (by k_asm) (by k_mem), rfl, _, rfl⟩); (case h2 => exact ⟨_, News.get (by k_asm) (by k_mem), rfl, _, rfl⟩); (case s1 => with_reducible exact SameV.int _ _ _); (case s2 => with_reducible exact SameV.int _ _ _); (case s3 => with_reducible exact SameV.int _ _ _); (case s4 => with_reducible exact SameV.int _ _ _); (case hu => ktr_units); k_whole) | (refine' ne_same2 ?h1 ?h2 ?s1 ?s2 ?hu ?_; (case h1 => exact ⟨_, News.get (by k_asm) (by k_mem), rfl, _, rfl⟩); (case h2 => exact ⟨_, News.get (by k_asm) (by k_mem), rfl, _, rfl⟩); (case s1 => first | with_reducible exact SameV.int _ _ _ | with_reducible exact SameV.bytes _ _ _); (case s2 => first | with_reducible exact SameV.int _ _ _ | with_reducible exact SameV.bytes _ _ _); (case hu => ktr_units); k_whole))))) | walk1 | (dsimp only; (with_reducible show wpAny _ _ _ _ _ _)) | (leave1; walk_say "STEP leave1"; try dsimp only) | fail "no step"))
      (with_reducible rename News _ _ _ _ => kN5)
      rcases hT with rfl | ⟨a1, a2, p1, p2, vs1, vs2, t1, t2, rfl, m1, m2, q1, q2, q3, q4⟩
      · (repeat' (first | (k_unfold; (try dsimp only)) | (k_end; wrow_close) | ((with_reducible show wpAny _ _ (call (Value.ref _) _) _ _ _); first | (with_reducible (k_here; (with_reducible show wpAny _ _ (call (Value.ref 328) [Value.ref _]) _ _ _); k_dflt ((with_reducible rename Fr _ _ _ _ => kF); (with_reducible rename News _ _ _ _ => kN); (with_reducible rename Below _ _ _ _ => kB); (with_reducible rename Frag.In _ _ => kX); (with_reducible rename Top _ _ _ _ _ _ => kT); (with_reducible rename Cx _ _ _ _ _ _ _ _ _ => kC); refine' refused_use kC kB kF kN rfl rfl ?fn ?_ ?hd ?hu ?_; (case fn => exact ⟨_, _, _, _, News.get kN (by k_mem)⟩); (case hd => ktr_room); (case hu => ktr_units); (any_goals (intro g2q h2q tk2q F'q N'q B'q X'q T'q hKGq hNGq; clear kF kN kB kX kT))))) | (with_reducible (k_here; (with_reducible show wpAny _ _ (call (Value.ref 232) [Value.ref _, Value.int 128 _]) _ _ _); k_dflt ( refine' rsw_ok _ _ _ _ _ _ _ _ _ _ _ _ _ _ _ _ _ _ _ _ _ _ _ _ _ _ _ _ ?C ?Ox ?Od ?hneq ?hW ?hrq ?hd ?hu ?_; (case C => exact Cx.next (by assumption) (by assumption) (by assumption) rfl rfl); (case Ox => exact own_of (by assumption) (by assumption) (by k_mem) rfl); (case Od => exact own_of (by assumption) (by assumption) (by k_mem) rfl); (case hneq => k_ne); (case hW => rfl); (case hrq => assumption); (case hd => ktr_room); (case hu => ktr_units); k_whole; intro rq t0q t1q t2q t3q tk₂q h'q tk'q hrnq hKq hsq hrq; (with_reducible rename Fr _ _ _ _ => kF); (with_reducible rename News _ _ _ _ => kN); have F'q := fr_kp1 kF kN (by k_mem) hKq; have N'q := news_upd kN hKq (by k_upd) hsq; have N''q := news_new kF N'q hrnq hrq; have hneq := neAll rq kN hrnq; clear N'q hrnq hrq hKq hsq; (try k_sweep)))) | (with_reducible (k_here; (with_reducible show wpAny _ _ (call (Value.ref 246) [Value.ref _, Value.int _ _]) _ _ _); k_dflt ( refine' ra_x _ _ _ _ _ _ _ _ _ _ _ _ _ _ _ _ _ _ _ _ _ _ _ _ _ _ _ _ ?C ?Ox ?Od ?hne ?hW ?hfl ?hd ?hu ?_; (case C => exact Cx.next (by assumption) (by assumption) (by assumption) rfl rfl); (case Ox => exact own_of (by assumption) (by assumption) (by k_mem) rfl); (case Od => exact own_of (by assumption) (by assumption) (by k_mem) rfl); (case hne => k_ne); (case hW => exact cut_last _ (Nat.le_of_succ_le (arB_len _ _ _).2)); (case hfl => rfl); (case hd => ktr_room); (case hu => ktr_units); k_whole; intro eq h'q tk'q hTq))) | (with_reducible (k_here; (with_reducible show wpAny _ _ (call (Value.ref 232) [Value.ref _, Value.int _ _]) _ _ _); k_dflt ( refine' rsw_x _ _ _ _ _ _ _ _ _ _ _ _ _ _ _ _ _ _ _ _ _ _ _ _ _ _ _ _ ?C ?Ox ?Od ?hne ?hW ?hd ?hu ?_; (case C => exact Cx.next (by assumption) (by assumption) (by assumption) rfl rfl); (case Ox => exact own_of (by assumption) (by assumption) (by k_mem) rfl); (case Od => exact own_of (by assumption) (by assumption) (by k_mem) rfl); (case hne => k_ne); (case hW => rfl); (case hd => ktr_room); (case hu => ktr_units); k_whole; intro eq h'q tk'q hTq))) | (with_reducible (k_here; (with_reducible show wpAny _ _ (call (Value.ref 309) _) _ _ _); k_dflt ( refine' two_ok _ _ _ _ _ _ _ _ _ _ _ _ _ _ _ _ ?C  ?hd ?hu ?_; (case C => exact Cx.next (by assumption) (by assumption) (by assumption) rfl rfl); (case hd => ktr_room); (case hu => ktr_units); k_whole; intro tq h'q tk'q hKq; (with_reducible rename Fr _ _ _ _ => kF); (with_reducible rename News _ _ _ _ => kN); have F'q := fr_kp0 kF hKq; have N'q := news_kp0 kN hKq; clear hKq; (try k_sweep)))) | (with_reducible (k_here; (with_reducible show wpAny _ _ (call (Value.ref 191) _) _ _ _); k_dflt (refine' mkOct _ _ _ _ _ _ _ _ _ _ _ _ _ _ _ _ ?C ?a ?b ?_; (case C => exact Cx.next (by assumption) (by assumption) (by assumption) rfl rfl); (case a => ktr_room); (case b => ktr_units); k_whole; unfold RetOct; intro xq dxq e1q e2q k1q k2q tbq tkq h'q tk'q hKq hxq hdxq hxdq h1q h2q; (with_reducible rename Fr _ _ _ _ => kF); (with_reducible rename News _ _ _ _ => kN); have F'q := fr_kp0 kF hKq; have N'q := news_kp0 kN hKq; have N2q := news_new kF N'q hdxq h2q; have N3q := news_new kF N2q hxq h1q; have hne1q := neAll xq kN hxq; have hne2q := neAll dxq kN hdxq; replace hxdq : NeA _ _ := hxdq; clear N'q N2q hKq hxq hdxq h1q h2q; (try k_sweep))))) | ((with_reducible show wpAny _ _ (eval (Expr.ListComp _ _ _ _) _) _ _ _); first | (with_reducible (k_here; (with_reducible rename Fr _ _ _ _ => kF); k_dflt (refine' comp_ok rule_name ?hh ?cl ?cell ?kind ?names (frL kF) ?_; (case hh => exact rfl); (case cl => exact rfl); (case cell => decide); (case kind => exact rfl); (case names => decide); k_whole)))) | ((with_reducible show wpAny _ _ (call (Value.builtin _) _) _ _ _); first | (with_reducible (k_here; k_dflt (refine' join_use ?X ?N ?a ?b ?_; (case X => k_in); (case N => exact News.get (by assumption) (by k_mem)); (case a => ktr_room); (case b => ktr_units); k_whole; intro tq h'q tk'q hKq; (with_reducible rename Fr _ _ _ _ => kF); (with_reducible rename News _ _ _ _ => kN); have F'q := fr_kp0 kF hKq; have N'q := news_kp0 kN hKq; clear hKq; (try k_sweep))))) | ((with_reducible show wpAny _ _ (getMethod (Value.bytes _ _) _ _) _ _ _); first | (with_reducible (k_here; (with_reducible refine getm_join ?_)))) | ((with_reducible show wpAny _ _ (subscriptTail _ _ _ _) _ _ _); first | (with_reducible (k_here; (with_reducible show wpAny _ _ (subscriptTail _ (Expr.Slice _ _ none _) (Value.bytes (List.toArray _) _) (Value.ref _)) _ _ _); (with_reducible rename Fr _ _ _ _ => F'q); (with_reducible rename News _ _ _ _ => N'q); (refine my_cut (s := ⟨_, _, _, _, _⟩) F'q N'q (by constructor) (by constructor) (by first | assumption | omega | exact Nat.le_of_ble_eq_true rfl) ?_); intro h'q t'q k'q F'q N'q; (try k_sweep)))) | ((with_reducible show wpAny _ _ (compareOp CmpOp.NotEq (Value.ref _) (Value.ref _)) _ _ _); first | (with_reducible (k_here; k_dflt (first | (refine' ne_same4 ?h1 ?h2 ?s1 ?s2 ?s3 ?s4 ?hu ?_; (case h1 => exact ⟨_, News.get (by k_asm) (by k_mem), rfl, _, rfl⟩); (case h2 => exact ⟨_, News.get (by k_asm) (by k_mem), rfl, _, rfl⟩); (case s1 => with_reducible exact SameV.int _ _ _); (case s2 => with_reducible exact SameV.int _ _ _); (case s3 => with_reducible exact SameV.int _ _ _); (case s4 => with_reducible exact SameV.int _ _ _); (case hu => ktr_units); k_whole) | (refine' ne_same2 ?h1 ?h2 ?s1 ?s2 ?hu ?_; (case h1 => exact ⟨_, News.get (by k_asm) (by k_mem), rfl, _, rfl⟩); (case h2 => exact ⟨_, News.get (by k_asm) (by k_mem), rfl, _, rfl⟩); (case s1 => first | with_reducible exact SameV.int _ _ _ | with_reducible exact SameV.bytes _ _ _); (case s2 => first | with_reducible exact SameV.int _ _ _ | with_reducible exact SameV.bytes _ _ _); (case hu => ktr_units); k_whole)))) | ((k_here; k_dflt (first | (refine' ne_same4 ?h1 ?h2 ?s1 ?s2 ?s3 ?s4 ?hu ?_; (case h1 => exact ⟨_, News.get (by k_asm) (by k_mem), rfl, _, rfl⟩); (case h2 => exact ⟨_, News.get (by k_asm) (by k_mem), rfl, _, rfl⟩); (case s1 => with_reducible exact SameV.int _ _ _); (case s2 => with_reducible exact SameV.int _ _ _); (case s3 => with_reducible exact SameV.int _ _ _); (case s4 => with_reducible exact SameV.int _ _ _); (case hu => ktr_units); k_whole) | (refine' ne_same2 ?h1 ?h2 ?s1 ?s2 ?hu ?_; (case h1 => exact ⟨_, News.get (by k_asm) (by k_mem), rfl, _, rfl⟩); (case h2 => exact ⟨_, News.get (by k_asm) (by k_mem), rfl, _, rfl⟩); (case s1 => first | with_reducible exact SameV.int _ _ _ | with_reducible exact SameV.bytes _ _ _); (case s2 => first | with_reducible exact SameV.int _ _ _ | with_reducible exact SameV.bytes _ _ _); (case hu => ktr_units); k_whole))))) | walk1 | (dsimp only; (with_reducible show wpAny _ _ _ _ _ _)) | (leave1; walk_say "STEP leave1"; try dsimp only) | fail "no step"))
        · (with_reducible rename Fr _ _ _ _ => kF); (with_reducible rename News _ _ _ _ => kN); (with_reducible rename Below _ _ _ _ => kB)
          k_dflt (refine' refuse_go kB kF kN rfl [(L' + 1 + 1 + 1, _)] ?ho ?hc ?hd ?hv ?hS ?hdp ?hun ?hb ?c2 ?c3 ?c4 ?c5 ?_; (case ho => k_mem); (case hc => k_mem); (case hd => assumption); (case hv => assumption); (case hS => exact List.forall_mem_singleton.mpr (by k_mem)); (case hdp => ktr_room); (case hun => ktr_units); (case hb => exact rfl); (case c2 => exact rfl); (case c3 => exact rfl); (case c4 => exact rfl); (case c5 => decide))
          intro l9 dp9 un9 s9 Q9 E9 g9 L9 h1 tk1 hd9 hu9 hC9 hall hL9 hg9 F9 N9 B9 X9 T9 hret9
          clear kF kN kB
          (repeat' (first | (k_unfold; (try dsimp only)) | (k_end; wrow_close) | ((with_reducible show wpAny _ _ (call (Value.ref _) _) _ _ _); first | (with_reducible (k_here; (with_reducible show wpAny _ _ (call (Value.ref 328) [Value.ref _]) _ _ _); k_dflt ((with_reducible rename Fr _ _ _ _ => kF); (with_reducible rename News _ _ _ _ => kN); (with_reducible rename Below _ _ _ _ => kB); (with_reducible rename Frag.In _ _ => kX); (with_reducible rename Top _ _ _ _ _ _ => kT); (with_reducible rename Cx _ _ _ _ _ _ _ _ _ => kC); refine' refused_use kC kB kF kN rfl rfl ?fn ?_ ?hd ?hu ?_; (case fn => exact ⟨_, _, _, _, News.get kN (by k_mem)⟩); (case hd => ktr_room); (case hu => ktr_units); (any_goals (intro g2q h2q tk2q F'q N'q B'q X'q T'q hKGq hNGq; clear kF kN kB kX kT))))) | (with_reducible (k_here; (with_reducible show wpAny _ _ (call (Value.ref 232) [Value.ref _, Value.int 128 _]) _ _ _); k_dflt ( refine' rsw_ok _ _ _ _ _ _ _ _ _ _ _ _ _ _ _ _ _ _ _ _ _ _ _ _ _ _ _ _ ?C ?Ox ?Od ?hneq ?hW ?hrq ?hd ?hu ?_; (case C => exact Cx.next (by assumption) (by assumption) (by assumption) rfl rfl); (case Ox => exact own_of (by assumption) (by assumption) (by k_mem) rfl); (case Od => exact own_of (by assumption) (by assumption) (by k_mem) rfl); (case hneq => k_ne); (case hW => rfl); (case hrq => assumption); (case hd => ktr_room); (case hu => ktr_units); k_whole; intro rq t0q t1q t2q t3q tk₂q h'q tk'q hrnq hKq hsq hrq; (with_reducible rename Fr _ _ _ _ => kF); (with_reducible rename News _ _ _ _ => kN); have F'q := fr_kp1 kF kN (by k_mem) hKq; have N'q := news_upd kN hKq (by k_upd) hsq; have N''q := news_new kF N'q hrnq hrq; have hneq := neAll rq kN hrnq; clear N'q hrnq hrq hKq hsq; (try k_sweep)))) | (with_reducible (k_here; (with_reducible show wpAny _ _ (call (Value.ref 246) [Value.ref _, Value.int _ _]) _ _ _); k_dflt ( refine' ra_x _ _ _ _ _ _ _ _ _ _ _ _ _ _ _ _ _ _ _ _ _ _ _ _ _ _ _ _ ?C ?Ox ?Od ?hne ?hW ?hfl ?hd ?hu ?_; (case C => exact Cx.next (by assumption) (by assumption) (by assumption) rfl rfl); (case Ox => exact own_of (by assumption) (by assumption) (by k_mem) rfl); (case Od => exact own_of (by assumption) (by assumption) (by k_mem) rfl); (case hne => k_ne); (case hW => exact cut_last _ (Nat.le_of_succ_le (arB_len _ _ _).2)); (case hfl => rfl); (case hd => ktr_room); (case hu => ktr_units); k_whole; intro eq h'q tk'q hTq))) | (with_reducible (k_here; (with_reducible show wpAny _ _ (call (Value.ref 232) [Value.ref _, Value.int _ _]) _ _ _); k_dflt ( refine' rsw_x _ _ _ _ _ _ _ _ _ _ _ _ _ _ _ _ _ _ _ _ _ _ _ _ _ _ _ _ ?C ?Ox ?Od ?hne ?hW ?hd ?hu ?_; (case C => exact Cx.next (by assumption) (by assumption) (by assumption) rfl rfl); (case Ox => exact own_of (by assumption) (by assumption) (by k_mem) rfl); (case Od => exact own_of (by assumption) (by assumption) (by k_mem) rfl); (case hne => k_ne); (case hW => rfl); (case hd => ktr_room); (case hu => ktr_units); k_whole; intro eq h'q tk'q hTq))) | (with_reducible (k_here; (with_reducible show wpAny _ _ (call (Value.ref 309) _) _ _ _); k_dflt ( refine' two_ok _ _ _ _ _ _ _ _ _ _ _ _ _ _ _ _ ?C  ?hd ?hu ?_; (case C => exact Cx.next (by assumption) (by assumption) (by assumption) rfl rfl); (case hd => ktr_room); (case hu => ktr_units); k_whole; intro tq h'q tk'q hKq; (with_reducible rename Fr _ _ _ _ => kF); (with_reducible rename News _ _ _ _ => kN); have F'q := fr_kp0 kF hKq; have N'q := news_kp0 kN hKq; clear hKq; (try k_sweep)))) | (with_reducible (k_here; (with_reducible show wpAny _ _ (call (Value.ref 191) _) _ _ _); k_dflt (refine' mkOct _ _ _ _ _ _ _ _ _ _ _ _ _ _ _ _ ?C ?a ?b ?_; (case C => exact Cx.next (by assumption) (by assumption) (by assumption) rfl rfl); (case a => ktr_room); (case b => ktr_units); k_whole; unfold RetOct; intro xq dxq e1q e2q k1q k2q tbq tkq h'q tk'q hKq hxq hdxq hxdq h1q h2q; (with_reducible rename Fr _ _ _ _ => kF); (with_reducible rename News _ _ _ _ => kN); have F'q := fr_kp0 kF hKq; have N'q := news_kp0 kN hKq; have N2q := news_new kF N'q hdxq h2q; have N3q := news_new kF N2q hxq h1q; have hne1q := neAll xq kN hxq; have hne2q := neAll dxq kN hdxq; replace hxdq : NeA _ _ := hxdq; clear N'q N2q hKq hxq hdxq h1q h2q; (try k_sweep))))) | ((with_reducible show wpAny _ _ (eval (Expr.ListComp _ _ _ _) _) _ _ _); first | (with_reducible (k_here; (with_reducible rename Fr _ _ _ _ => kF); k_dflt (refine' comp_ok rule_name ?hh ?cl ?cell ?kind ?names (frL kF) ?_; (case hh => exact rfl); (case cl => exact rfl); (case cell => decide); (case kind => exact rfl); (case names => decide); k_whole)))) | ((with_reducible show wpAny _ _ (call (Value.builtin _) _) _ _ _); first | (with_reducible (k_here; k_dflt (refine' join_use ?X ?N ?a ?b ?_; (case X => k_in); (case N => exact News.get (by assumption) (by k_mem)); (case a => ktr_room); (case b => ktr_units); k_whole; intro tq h'q tk'q hKq; (with_reducible rename Fr _ _ _ _ => kF); (with_reducible rename News _ _ _ _ => kN); have F'q := fr_kp0 kF hKq; have N'q := news_kp0 kN hKq; clear hKq; (try k_sweep))))) | ((with_reducible show wpAny _ _ (getMethod (Value.bytes _ _) _ _) _ _ _); first | (with_reducible (k_here; (with_reducible refine getm_join ?_)))) | ((with_reducible show wpAny _ _ (subscriptTail _ _ _ _) _ _ _); first | (with_reducible (k_here; (with_reducible show wpAny _ _ (subscriptTail _ (Expr.Slice _ _ none _) (Value.bytes (List.toArray _) _) (Value.ref _)) _ _ _); (with_reducible rename Fr _ _ _ _ => F'q); (with_reducible rename News _ _ _ _ => N'q); (refine my_cut (s := ⟨_, _, _, _, _⟩) F'q N'q (by constructor) (by constructor) (by first | assumption | omega | exact Nat.le_of_ble_eq_true rfl) ?_); intro h'q t'q k'q F'q N'q; (try k_sweep)))) | ((with_reducible show wpAny _ _ (compareOp CmpOp.NotEq (Value.ref _) (Value.ref _)) _ _ _); first | (with_reducible (k_here; k_dflt (first | (refine' ne_same4 ?h1 ?h2 ?s1 ?s2 ?s3 ?s4 ?hu ?_; (case h1 => exact ⟨_, News.get (by k_asm) (by k_mem), rfl, _, rfl⟩); (case h2 => exact ⟨_, News.get (by k_asm) (by k_mem), rfl, _, rfl⟩); (case s1 => with_reducible exact SameV.int _ _ _); (case s2 => with_reducible exact SameV.int _ _ _); (case s3 => with_reducible exact SameV.int _ _ _); (case s4 => with_reducible exact SameV.int _ _ _); (case hu => ktr_units); k_whole) | (refine' ne_same2 ?h1 ?h2 ?s1 ?s2 ?hu ?_; (case h1 => exact ⟨_, News.get (by k_asm) (by k_mem), rfl, _, rfl⟩); (case h2 => exact ⟨_, News.get (by k_asm) (by k_mem), rfl, _, rfl⟩); (case s1 => first | with_reducible exact SameV.int _ _ _ | with_reducible exact SameV.bytes _ _ _); (case s2 => first | with_reducible exact SameV.int _ _ _ | with_reducible exact SameV.bytes _ _ _); (case hu => ktr_units); k_whole)))) | ((k_here; k_dflt (first | (refine' ne_same4 ?h1 ?h2 ?s1 ?s2 ?s3 ?s4 ?hu ?_; (case h1 => exact ⟨_, News.get (by k_asm) (by k_mem), rfl, _, rfl⟩); (case h2 => exact ⟨_, News.get (by k_asm) (by k_mem), rfl, _, rfl⟩); (case s1 => with_reducible exact SameV.int _ _ _); (case s2 => with_reducible exact SameV.int _ _ _); (case s3 => with_reducible exact SameV.int _ _ _); (case s4 => with_reducible exact SameV.int _ _ _); (case hu => ktr_units); k_whole) | (refine' ne_same2 ?h1 ?h2 ?s1 ?s2 ?hu ?_; (case h1 => exact ⟨_, News.get (by k_asm) (by k_mem), rfl, _, rfl⟩); (case h2 => exact ⟨_, News.get (by k_asm) (by k_mem), rfl, _, rfl⟩); (case s1 => first | with_reducible exact SameV.int _ _ _ | with_reducible exact SameV.bytes _ _ _); (case s2 => first | with_reducible exact SameV.int _ _ _ | with_reducible exact SameV.bytes _ _ _); (case hu => ktr_units); k_whole))))) | walk1 | (dsimp only; (with_reducible show wpAny _ _ _ _ _ _)) | (leave1; walk_say "STEP leave1"; try dsimp only) | fail "no step"))
          (with_reducible rename Thrown _ _ _ _ _ => hTh)
          (with_reducible rename Fr _ _ _ _ => kF); (with_reducible rename News _ _ _ _ => kN)
          (try dsimp only)
          refine leave_next (S' := [_]) rfl rfl hL9 (kp_ofS hg9 kF (List.forall_mem_singleton.mpr (.inr ⟨hall _ (by k_mem), kN.get (by k_mem)⟩))) hTh (fun b hb => .inr (by rw [List.mem_singleton.mp hb]; exact fresh_of hg9 kN (by k_mem) (neAll_notin ⟨by k_ne, trivial⟩))) fun h'' hT' => hret9 _ _ _ hT'
        · (with_reducible rename Fr _ _ _ _ => kF); (with_reducible rename News _ _ _ _ => kN); (with_reducible rename Below _ _ _ _ => kB)
          k_dflt (refine' refuse_go kB kF kN rfl [(L' + 1 + 1, _), (L' + 1, _)] ?ho ?hc ?hd ?hv ?hS ?hdp ?hun ?hb ?c2 ?c3 ?c4 ?c5 ?_; (case ho => k_mem); (case hc => k_mem); (case hd => assumption); (case hv => assumption); (case hS => exact (acons (by k_mem) (List.forall_mem_singleton.mpr (by k_mem)))); (case hdp => ktr_room); (case hun => ktr_units); (case hb => exact rfl); (case c2 => exact rfl); (case c3 => exact rfl); (case c4 => exact rfl); (case c5 => decide))
          intro l9 dp9 un9 s9 Q9 E9 g9 L9 h1 tk1 hd9 hu9 hC9 hall hL9 hg9 F9 N9 B9 X9 T9 hret9
          clear kF kN kB
          (repeat' (first | (k_unfold; (try dsimp only)) | (k_end; wrow_close) | ((with_reducible show wpAny _ _ (call (Value.ref _) _) _ _ _); first | (with_reducible (k_here; (with_reducible show wpAny _ _ (call (Value.ref 328) [Value.ref _]) _ _ _); k_dflt ((with_reducible rename Fr _ _ _ _ => kF); (with_reducible rename News _ _ _ _ => kN); (with_reducible rename Below _ _ _ _ => kB); (with_reducible rename Frag.In _ _ => kX); (with_reducible rename Top _ _ _ _ _ _ => kT); (with_reducible rename Cx _ _ _ _ _ _ _ _ _ => kC); refine' refused_use kC kB kF kN rfl rfl ?fn ?_ ?hd ?hu ?_; (case fn => exact ⟨_, _, _, _, News.get kN (by k_mem)⟩); (case hd => ktr_room); (case hu => ktr_units); (any_goals (intro g2q h2q tk2q F'q N'q B'q X'q T'q hKGq hNGq; clear kF kN kB kX kT))))) | (with_reducible (k_here; (with_reducible show wpAny _ _ (call (Value.ref 232) [Value.ref _, Value.int 128 _]) _ _ _); k_dflt ( refine' rsw_ok _ _ _ _ _ _ _ _ _ _ _ _ _ _ _ _ _ _ _ _ _ _ _ _ _ _ _ _ ?C ?Ox ?Od ?hneq ?hW ?hrq ?hd ?hu ?_; (case C => exact Cx.next (by assumption) (by assumption) (by assumption) rfl rfl); (case Ox => exact own_of (by assumption) (by assumption) (by k_mem) rfl); (case Od => exact own_of (by assumption) (by assumption) (by k_mem) rfl); (case hneq => k_ne); (case hW => rfl); (case hrq => assumption); (case hd => ktr_room); (case hu => ktr_units); k_whole; intro rq t0q t1q t2q t3q tk₂q h'q tk'q hrnq hKq hsq hrq; (with_reducible rename Fr _ _ _ _ => kF); (with_reducible rename News _ _ _ _ => kN); have F'q := fr_kp1 kF kN (by k_mem) hKq; have N'q := news_upd kN hKq (by k_upd) hsq; have N''q := news_new kF N'q hrnq hrq; have hneq := neAll rq kN hrnq; clear N'q hrnq hrq hKq hsq; (try k_sweep)))) | (with_reducible (k_here; (with_reducible show wpAny _ _ (call (Value.ref 246) [Value.ref _, Value.int _ _]) _ _ _); k_dflt ( refine' ra_x _ _ _ _ _ _ _ _ _ _ _ _ _ _ _ _ _ _ _ _ _ _ _ _ _ _ _ _ ?C ?Ox ?Od ?hne ?hW ?hfl ?hd ?hu ?_; (case C => exact Cx.next (by assumption) (by assumption) (by assumption) rfl rfl); (case Ox => exact own_of (by assumption) (by assumption) (by k_mem) rfl); (case Od => exact own_of (by assumption) (by assumption) (by k_mem) rfl); (case hne => k_ne); (case hW => exact cut_last _ (Nat.le_of_succ_le (arB_len _ _ _).2)); (case hfl => rfl); (case hd => ktr_room); (case hu => ktr_units); k_whole; intro eq h'q tk'q hTq))) | (with_reducible (k_here; (with_reducible show wpAny _ _ (call (Value.ref 232) [Value.ref _, Value.int _ _]) _ _ _); k_dflt ( refine' rsw_x _ _ _ _ _ _ _ _ _ _ _ _ _ _ _ _ _ _ _ _ _ _ _ _ _ _ _ _ ?C ?Ox ?Od ?hne ?hW ?hd ?hu ?_; (case C => exact Cx.next (by assumption) (by assumption) (by assumption) rfl rfl); (case Ox => exact own_of (by assumption) (by assumption) (by k_mem) rfl); (case Od => exact own_of (by assumption) (by assumption) (by k_mem) rfl); (case hne => k_ne); (case hW => rfl); (case hd => ktr_room); (case hu => ktr_units); k_whole; intro eq h'q tk'q hTq))) | (with_reducible (k_here; (with_reducible show wpAny _ _ (call (Value.ref 309) _) _ _ _); k_dflt ( refine' two_ok _ _ _ _ _ _ _ _ _ _ _ _ _ _ _ _ ?C  ?hd ?hu ?_; (case C => exact Cx.next (by assumption) (by assumption) (by assumption) rfl rfl); (case hd => ktr_room); (case hu => ktr_units); k_whole; intro tq h'q tk'q hKq; (with_reducible rename Fr _ _ _ _ => kF); (with_reducible rename News _ _ _ _ => kN); have F'q := fr_kp0 kF hKq; have N'q := news_kp0 kN hKq; clear hKq; (try k_sweep)))) | (with_reducible (k_here; (with_reducible show wpAny _ _ (call (Value.ref 191) _) _ _ _); k_dflt (refine' mkOct _ _ _ _ _ _ _ _ _ _ _ _ _ _ _ _ ?C ?a ?b ?_; (case C => exact Cx.next (by assumption) (by assumption) (by assumption) rfl rfl); (case a => ktr_room); (case b => ktr_units); k_whole; unfold RetOct; intro xq dxq e1q e2q k1q k2q tbq tkq h'q tk'q hKq hxq hdxq hxdq h1q h2q; (with_reducible rename Fr _ _ _ _ => kF); (with_reducible rename News _ _ _ _ => kN); have F'q := fr_kp0 kF hKq; have N'q := news_kp0 kN hKq; have N2q := news_new kF N'q hdxq h2q; have N3q := news_new kF N2q hxq h1q; have hne1q := neAll xq kN hxq; have hne2q := neAll dxq kN hdxq; replace hxdq : NeA _ _ := hxdq; clear N'q N2q hKq hxq hdxq h1q h2q; (try k_sweep))))) | ((with_reducible show wpAny _ _ (eval (Expr.ListComp _ _ _ _) _) _ _ _); first | (with_reducible (k_here; (with_reducible rename Fr _ _ _ _ => kF); k_dflt (refine' comp_ok rule_name ?hh ?cl ?cell ?kind ?names (frL kF) ?_; (case hh => exact rfl); (case cl => exact rfl); (case cell => decide); (case kind => exact rfl); (case names => decide); k_whole)))) | ((with_reducible show wpAny _ _ (call (Value.builtin _) _) _ _ _); first | (with_reducible (k_here; k_dflt (refine' join_use ?X ?N ?a ?b ?_; (case X => k_in); (case N => exact News.get (by assumption) (by k_mem)); (case a => ktr_room); (case b => ktr_units); k_whole; intro tq h'q tk'q hKq; (with_reducible rename Fr _ _ _ _ => kF); (with_reducible rename News _ _ _ _ => kN); have F'q := fr_kp0 kF hKq; have N'q := news_kp0 kN hKq; clear hKq; (try k_sweep))))) | ((with_reducible show wpAny _ _ (getMethod (Value.bytes _ _) _ _) _ _ _); first | (with_reducible (k_here; (with_reducible refine getm_join ?_)))) | ((with_reducible show wpAny _ _ (subscriptTail _ _ _ _) _ _ _); first | (with_reducible (k_here; (with_reducible show wpAny _ _ (subscriptTail _ (Expr.Slice _ _ none _) (Value.bytes (List.toArray _) _) (Value.ref _)) _ _ _); (with_reducible rename Fr _ _ _ _ => F'q); (with_reducible rename News _ _ _ _ => N'q); (refine my_cut (s := ⟨_, _, _, _, _⟩) F'q N'q (by constructor) (by constructor) (by first | assumption | omega | exact Nat.le_of_ble_eq_true rfl) ?_); intro h'q t'q k'q F'q N'q; (try k_sweep)))) | ((with_reducible show wpAny _ _ (compareOp CmpOp.NotEq (Value.ref _) (Value.ref _)) _ _ _); first | (with_reducible (k_here; k_dflt (first | (refine' ne_same4 ?h1 ?h2 ?s1 ?s2 ?s3 ?s4 ?hu ?_; (case h1 => exact ⟨_, News.get (by k_asm) (by k_mem), rfl, _, rfl⟩); (case h2 => exact ⟨_, News.get (by k_asm) (by k_mem), rfl, _, rfl⟩); (case s1 => with_reducible exact SameV.int _ _ _); (case s2 => with_reducible exact SameV.int _ _ _); (case s3 => with_reducible exact SameV.int _ _ _); (case s4 => with_reducible exact SameV.int _ _ _); (case hu => ktr_units); k_whole) | (refine' ne_same2 ?h1 ?h2 ?s1 ?s2 ?hu ?_; (case h1 => exact ⟨_, News.get (by k_asm) (by k_mem), rfl, _, rfl⟩); (case h2 => exact ⟨_, News.get (by k_asm) (by k_mem), rfl, _, rfl⟩); (case s1 => first | with_reducible exact SameV.int _ _ _ | with_reducible exact SameV.bytes _ _ _); (case s2 => first | with_reducible exact SameV.int _ _ _ | with_reducible exact SameV.bytes _ _ _); (case hu => ktr_units); k_whole)))) | ((k_here; k_dflt (first | (refine' ne_same4 ?h1 ?h2 ?s1 ?s2 ?s3 ?s4 ?hu ?_; (case h1 => exact ⟨_, News.get (by k_asm) (by k_mem), rfl, _, rfl⟩); (case h2 => exact ⟨_, News.get (by k_asm) (by k_mem), rfl, _, rfl⟩); (case s1 => with_reducible exact SameV.int _ _ _); (case s2 => with_reducible exact SameV.int _ _ _); (case s3 => with_reducible exact SameV.int _ _ _); (case s4 => with_reducible exact SameV.int _ _ _); (case hu => ktr_units); k_whole) | (refine' ne_same2 ?h1 ?h2 ?s1 ?s2 ?hu ?_; (case h1 => exact ⟨_, News.get (by k_asm) (by k_mem), rfl, _, rfl⟩); (case h2 => exact ⟨_, News.get (by k_asm) (by k_mem), rfl, _, rfl⟩); (case s1 => first | with_reducible exact SameV.int _ _ _ | with_reducible exact SameV.bytes _ _ _); (case s2 => first | with_reducible exact SameV.int _ _ _ | with_reducible exact SameV.bytes _ _ _); (case hu => ktr_units); k_whole))))) | walk1 | (dsimp only; (with_reducible show wpAny _ _ _ _ _ _)) | (leave1; walk_say "STEP leave1"; try dsimp only) | fail "no step"))
          (with_reducible rename Thrown _ _ _ _ _ => hTh)
          (with_reducible rename Fr _ _ _ _ => kF); (with_reducible rename News _ _ _ _ => kN)
          (try dsimp only)
          refine leave_next (S' := [_]) rfl rfl hL9 (kp_ofS hg9 kF ((acons (.inr ⟨hall _ (by k_mem), kN.get (by k_mem)⟩) (List.forall_mem_singleton.mpr (.inr ⟨hall _ (by k_mem), kN.get (by k_mem)⟩))))) hTh (fun b hb => .inr (by rw [List.mem_singleton.mp hb]; exact fresh_of hg9 kN (by k_mem) (neAll_notin ⟨by k_ne, by k_ne, trivial⟩))) fun h'' hT' => hret9 _ _ _ hT'
        · (with_reducible rename Fr _ _ _ _ => kF); (with_reducible rename News _ _ _ _ => kN)
          have hkg : KpF l g _ [] := KpF.trans (by assumption) (by assumption)
          obtain ⟨ps', cods', e1, e2, e3, e4⟩ := tab_end kN (by assumption) (by assumption) (by assumption) (by assumption) (fun c e => hng0 _ c hkg e) (by first | omega | exact lt_of1 (by with_reducible assumption) (by k_mem)) (by first | omega | exact lt_of1 (by with_reducible assumption) (by k_mem))
          exact hret _ _ _ _ _ _ kF hkg e1 e2 e3 e4
      · have N6 := news_more (news_more kN5 (by exact .tail _ (.tail _ (.tail _ (.tail _ (.tail _ (.tail _ (.tail _ (.tail _ (.tail _ (.tail _ (.tail _ (m2))))))))))))) (.tail _ (by exact .tail _ (.tail _ (.tail _ (.tail _ (.tail _ (.tail _ (.tail _ (.tail _ (.tail _ (.tail _ (.tail _ (m1)))))))))))))
        clear kN5
        (repeat' (first | (k_unfold; (try dsimp only)) | (k_end; wrow_close) | ((with_reducible show wpAny _ _ (call (Value.ref _) _) _ _ _); first | (with_reducible (k_here; (with_reducible show wpAny _ _ (call (Value.ref 328) [Value.ref _]) _ _ _); k_dflt ((with_reducible rename Fr _ _ _ _ => kF); (with_reducible rename News _ _ _ _ => kN); (with_reducible rename Below _ _ _ _ => kB); (with_reducible rename Frag.In _ _ => kX); (with_reducible rename Top _ _ _ _ _ _ => kT); (with_reducible rename Cx _ _ _ _ _ _ _ _ _ => kC); refine' refused_use kC kB kF kN rfl rfl ?fn ?_ ?hd ?hu ?_; (case fn => exact ⟨_, _, _, _, News.get kN (by k_mem)⟩); (case hd => ktr_room); (case hu => ktr_units); (any_goals (intro g2q h2q tk2q F'q N'q B'q X'q T'q hKGq hNGq; clear kF kN kB kX kT))))) | (with_reducible (k_here; (with_reducible show wpAny _ _ (call (Value.ref 232) [Value.ref _, Value.int 128 _]) _ _ _); k_dflt ( refine' rsw_ok _ _ _ _ _ _ _ _ _ _ _ _ _ _ _ _ _ _ _ _ _ _ _ _ _ _ _ _ ?C ?Ox ?Od ?hneq ?hW ?hrq ?hd ?hu ?_; (case C => exact Cx.next (by assumption) (by assumption) (by assumption) rfl rfl); (case Ox => exact own_of (by assumption) (by assumption) (by k_mem) rfl); (case Od => exact own_of (by assumption) (by assumption) (by k_mem) rfl); (case hneq => k_ne); (case hW => rfl); (case hrq => assumption); (case hd => ktr_room); (case hu => ktr_units); k_whole; intro rq t0q t1q t2q t3q tk₂q h'q tk'q hrnq hKq hsq hrq; (with_reducible rename Fr _ _ _ _ => kF); (with_reducible rename News _ _ _ _ => kN); have F'q := fr_kp1 kF kN (by k_mem) hKq; have N'q := news_upd kN hKq (by k_upd) hsq; have N''q := news_new kF N'q hrnq hrq; have hneq := neAll rq kN hrnq; clear N'q hrnq hrq hKq hsq; (try k_sweep)))) | (with_reducible (k_here; (with_reducible show wpAny _ _ (call (Value.ref 246) [Value.ref _, Value.int _ _]) _ _ _); k_dflt ( refine' ra_x _ _ _ _ _ _ _ _ _ _ _ _ _ _ _ _ _ _ _ _ _ _ _ _ _ _ _ _ ?C ?Ox ?Od ?hne ?hW ?hfl ?hd ?hu ?_; (case C => exact Cx.next (by assumption) (by assumption) (by assumption) rfl rfl); (case Ox => exact own_of (by assumption) (by assumption) (by k_mem) rfl); (case Od => exact own_of (by assumption) (by assumption) (by k_mem) rfl); (case hne => k_ne); (case hW => exact cut_last _ (Nat.le_of_succ_le (arB_len _ _ _).2)); (case hfl => rfl); (case hd => ktr_room); (case hu => ktr_units); k_whole; intro eq h'q tk'q hTq))) | (with_reducible (k_here; (with_reducible show wpAny _ _ (call (Value.ref 232) [Value.ref _, Value.int _ _]) _ _ _); k_dflt ( refine' rsw_x _ _ _ _ _ _ _ _ _ _ _ _ _ _ _ _ _ _ _ _ _ _ _ _ _ _ _ _ ?C ?Ox ?Od ?hne ?hW ?hd ?hu ?_; (case C => exact Cx.next (by assumption) (by assumption) (by assumption) rfl rfl); (case Ox => exact own_of (by assumption) (by assumption) (by k_mem) rfl); (case Od => exact own_of (by assumption) (by assumption) (by k_mem) rfl); (case hne => k_ne); (case hW => rfl); (case hd => ktr_room); (case hu => ktr_units); k_whole; intro eq h'q tk'q hTq))) | (with_reducible (k_here; (with_reducible show wpAny _ _ (call (Value.ref 309) _) _ _ _); k_dflt ( refine' two_ok _ _ _ _ _ _ _ _ _ _ _ _ _ _ _ _ ?C  ?hd ?hu ?_; (case C => exact Cx.next (by assumption) (by assumption) (by assumption) rfl rfl); (case hd => ktr_room); (case hu => ktr_units); k_whole; intro tq h'q tk'q hKq; (with_reducible rename Fr _ _ _ _ => kF); (with_reducible rename News _ _ _ _ => kN); have F'q := fr_kp0 kF hKq; have N'q := news_kp0 kN hKq; clear hKq; (try k_sweep)))) | (with_reducible (k_here; (with_reducible show wpAny _ _ (call (Value.ref 191) _) _ _ _); k_dflt (refine' mkOct _ _ _ _ _ _ _ _ _ _ _ _ _ _ _ _ ?C ?a ?b ?_; (case C => exact Cx.next (by assumption) (by assumption) (by assumption) rfl rfl); (case a => ktr_room); (case b => ktr_units); k_whole; unfold RetOct; intro xq dxq e1q e2q k1q k2q tbq tkq h'q tk'q hKq hxq hdxq hxdq h1q h2q; (with_reducible rename Fr _ _ _ _ => kF); (with_reducible rename News _ _ _ _ => kN); have F'q := fr_kp0 kF hKq; have N'q := news_kp0 kN hKq; have N2q := news_new kF N'q hdxq h2q; have N3q := news_new kF N2q hxq h1q; have hne1q := neAll xq kN hxq; have hne2q := neAll dxq kN hdxq; replace hxdq : NeA _ _ := hxdq; clear N'q N2q hKq hxq hdxq h1q h2q; (try k_sweep))))) | ((with_reducible show wpAny _ _ (eval (Expr.ListComp _ _ _ _) _) _ _ _); first | (with_reducible (k_here; (with_reducible rename Fr _ _ _ _ => kF); k_dflt (refine' comp_ok rule_name ?hh ?cl ?cell ?kind ?names (frL kF) ?_; (case hh => exact rfl); (case cl => exact rfl); (case cell => decide); (case kind => exact rfl); (case names => decide); k_whole)))) | ((with_reducible show wpAny _ _ (call (Value.builtin _) _) _ _ _); first | (with_reducible (k_here; k_dflt (refine' join_use ?X ?N ?a ?b ?_; (case X => k_in); (case N => exact News.get (by assumption) (by k_mem)); (case a => ktr_room); (case b => ktr_units); k_whole; intro tq h'q tk'q hKq; (with_reducible rename Fr _ _ _ _ => kF); (with_reducible rename News _ _ _ _ => kN); have F'q := fr_kp0 kF hKq; have N'q := news_kp0 kN hKq; clear hKq; (try k_sweep))))) | ((with_reducible show wpAny _ _ (getMethod (Value.bytes _ _) _ _) _ _ _); first | (with_reducible (k_here; (with_reducible refine getm_join ?_)))) | ((with_reducible show wpAny _ _ (subscriptTail _ _ _ _) _ _ _); first | (with_reducible (k_here; (with_reducible show wpAny _ _ (subscriptTail _ (Expr.Slice _ _ none _) (Value.bytes (List.toArray _) _) (Value.ref _)) _ _ _); (with_reducible rename Fr _ _ _ _ => F'q); (with_reducible rename News _ _ _ _ => N'q); (refine my_cut (s := ⟨_, _, _, _, _⟩) F'q N'q (by constructor) (by constructor) (by first | assumption | omega | exact Nat.le_of_ble_eq_true rfl) ?_); intro h'q t'q k'q F'q N'q; (try k_sweep)))) | ((with_reducible show wpAny _ _ (compareOp CmpOp.NotEq (Value.ref _) (Value.ref _)) _ _ _); first | (with_reducible (k_here; k_dflt (first | (refine' ne_same4 ?h1 ?h2 ?s1 ?s2 ?s3 ?s4 ?hu ?_; (case h1 => exact ⟨_, News.get (by k_asm) (by k_mem), rfl, _, rfl⟩); (case h2 => exact ⟨_, News.get (by k_asm) (by k_mem), rfl, _, rfl⟩); (case s1 => with_reducible exact SameV.int _ _ _); (case s2 => with_reducible exact SameV.int _ _ _); (case s3 => with_reducible exact SameV.int _ _ _); (case s4 => with_reducible exact SameV.int _ _ _); (case hu => ktr_units); k_whole) | (refine' ne_same2 ?h1 ?h2 ?s1 ?s2 ?hu ?_; (case h1 => exact ⟨_, News.get (by k_asm) (by k_mem), rfl, _, rfl⟩); (case h2 => exact ⟨_, News.get (by k_asm) (by k_mem), rfl, _, rfl⟩); (case s1 => first | with_reducible exact SameV.int _ _ _ | with_reducible exact SameV.bytes _ _ _); (case s2 => first | with_reducible exact SameV.int _ _ _ | with_reducible exact SameV.bytes _ _ _); (case hu => ktr_units); k_whole)))) | ((k_here; k_dflt (first | (refine' ne_same4 ?h1 ?h2 ?s1 ?s2 ?s3 ?s4 ?hu ?_; (case h1 => exact ⟨_, News.get (by k_asm) (by k_mem), rfl, _, rfl⟩); (case h2 => exact ⟨_, News.get (by k_asm) (by k_mem), rfl, _, rfl⟩); (case s1 => with_reducible exact SameV.int _ _ _); (case s2 => with_reducible exact SameV.int _ _ _); (case s3 => with_reducible exact SameV.int _ _ _); (case s4 => with_reducible exact SameV.int _ _ _); (case hu => ktr_units); k_whole) | (refine' ne_same2 ?h1 ?h2 ?s1 ?s2 ?hu ?_; (case h1 => exact ⟨_, News.get (by k_asm) (by k_mem), rfl, _, rfl⟩); (case h2 => exact ⟨_, News.get (by k_asm) (by k_mem), rfl, _, rfl⟩); (case s1 => first | with_reducible exact SameV.int _ _ _ | with_reducible exact SameV.bytes _ _ _); (case s2 => first | with_reducible exact SameV.int _ _ _ | with_reducible exact SameV.bytes _ _ _); (case hu => ktr_units); k_whole))))) | walk1 | (dsimp only; (with_reducible show wpAny _ _ _ _ _ _)) | (leave1; walk_say "STEP leave1"; try dsimp only) | fail "no step"))
        · (with_reducible rename Fr _ _ _ _ => kF); (with_reducible rename News _ _ _ _ => kN); (with_reducible rename Below _ _ _ _ => kB)
          k_dflt (refine' refuse_go kB kF kN rfl [(L' + 1 + 1 + 1, _)] ?ho ?hc ?hd ?hv ?hS ?hdp ?hun ?hb ?c2 ?c3 ?c4 ?c5 ?_; (case ho => k_mem); (case hc => k_mem); (case hd => assumption); (case hv => assumption); (case hS => exact List.forall_mem_singleton.mpr (by k_mem)); (case hdp => ktr_room); (case hun => ktr_units); (case hb => exact rfl); (case c2 => exact rfl); (case c3 => exact rfl); (case c4 => exact rfl); (case c5 => decide))
          intro l9 dp9 un9 s9 Q9 E9 g9 L9 h1 tk1 hd9 hu9 hC9 hall hL9 hg9 F9 N9 B9 X9 T9 hret9
          clear kF kN kB
          (repeat' (first | (k_unfold; (try dsimp only)) | (k_end; wrow_close) | ((with_reducible show wpAny _ _ (call (Value.ref _) _) _ _ _); first | (with_reducible (k_here; (with_reducible show wpAny _ _ (call (Value.ref 328) [Value.ref _]) _ _ _); k_dflt ((with_reducible rename Fr _ _ _ _ => kF); (with_reducible rename News _ _ _ _ => kN); (with_reducible rename Below _ _ _ _ => kB); (with_reducible rename Frag.In _ _ => kX); (with_reducible rename Top _ _ _ _ _ _ => kT); (with_reducible rename Cx _ _ _ _ _ _ _ _ _ => kC); refine' refused_use kC kB kF kN rfl rfl ?fn ?_ ?hd ?hu ?_; (case fn => exact ⟨_, _, _, _, News.get kN (by k_mem)⟩); (case hd => ktr_room); (case hu => ktr_units); (any_goals (intro g2q h2q tk2q F'q N'q B'q X'q T'q hKGq hNGq; clear kF kN kB kX kT))))) | (with_reducible (k_here; (with_reducible show wpAny _ _ (call (Value.ref 232) [Value.ref _, Value.int 128 _]) _ _ _); k_dflt ( refine' rsw_ok _ _ _ _ _ _ _ _ _ _ _ _ _ _ _ _ _ _ _ _ _ _ _ _ _ _ _ _ ?C ?Ox ?Od ?hneq ?hW ?hrq ?hd ?hu ?_; (case C => exact Cx.next (by assumption) (by assumption) (by assumption) rfl rfl); (case Ox => exact own_of (by assumption) (by assumption) (by k_mem) rfl); (case Od => exact own_of (by assumption) (by assumption) (by k_mem) rfl); (case hneq => k_ne); (case hW => rfl); (case hrq => assumption); (case hd => ktr_room); (case hu => ktr_units); k_whole; intro rq t0q t1q t2q t3q tk₂q h'q tk'q hrnq hKq hsq hrq; (with_reducible rename Fr _ _ _ _ => kF); (with_reducible rename News _ _ _ _ => kN); have F'q := fr_kp1 kF kN (by k_mem) hKq; have N'q := news_upd kN hKq (by k_upd) hsq; have N''q := news_new kF N'q hrnq hrq; have hneq := neAll rq kN hrnq; clear N'q hrnq hrq hKq hsq; (try k_sweep)))) | (with_reducible (k_here; (with_reducible show wpAny _ _ (call (Value.ref 246) [Value.ref _, Value.int _ _]) _ _ _); k_dflt ( refine' ra_x _ _ _ _ _ _ _ _ _ _ _ _ _ _ _ _ _ _ _ _ _ _ _ _ _ _ _ _ ?C ?Ox ?Od ?hne ?hW ?hfl ?hd ?hu ?_; (case C => exact Cx.next (by assumption) (by assumption) (by assumption) rfl rfl); (case Ox => exact own_of (by assumption) (by assumption) (by k_mem) rfl); (case Od => exact own_of (by assumption) (by assumption) (by k_mem) rfl); (case hne => k_ne); (case hW => exact cut_last _ (Nat.le_of_succ_le (arB_len _ _ _).2)); (case hfl => rfl); (case hd => ktr_room); (case hu => ktr_units); k_whole; intro eq h'q tk'q hTq))) | (with_reducible (k_here; (with_reducible show wpAny _ _ (call (Value.ref 232) [Value.ref _, Value.int _ _]) _ _ _); k_dflt ( refine' rsw_x _ _ _ _ _ _ _ _ _ _ _ _ _ _ _ _ _ _ _ _ _ _ _ _ _ _ _ _ ?C ?Ox ?Od ?hne ?hW ?hd ?hu ?_; (case C => exact Cx.next (by assumption) (by assumption) (by assumption) rfl rfl); (case Ox => exact own_of (by assumption) (by assumption) (by k_mem) rfl); (case Od => exact own_of (by assumption) (by assumption) (by k_mem) rfl); (case hne => k_ne); (case hW => rfl); (case hd => ktr_room); (case hu => ktr_units); k_whole; intro eq h'q tk'q hTq))) | (with_reducible (k_here; (with_reducible show wpAny _ _ (call (Value.ref 309) _) _ _ _); k_dflt ( refine' two_ok _ _ _ _ _ _ _ _ _ _ _ _ _ _ _ _ ?C  ?hd ?hu ?_; (case C => exact Cx.next (by assumption) (by assumption) (by assumption) rfl rfl); (case hd => ktr_room); (case hu => ktr_units); k_whole; intro tq h'q tk'q hKq; (with_reducible rename Fr _ _ _ _ => kF); (with_reducible rename News _ _ _ _ => kN); have F'q := fr_kp0 kF hKq; have N'q := news_kp0 kN hKq; clear hKq; (try k_sweep)))) | (with_reducible (k_here; (with_reducible show wpAny _ _ (call (Value.ref 191) _) _ _ _); k_dflt (refine' mkOct _ _ _ _ _ _ _ _ _ _ _ _ _ _ _ _ ?C ?a ?b ?_; (case C => exact Cx.next (by assumption) (by assumption) (by assumption) rfl rfl); (case a => ktr_room); (case b => ktr_units); k_whole; unfold RetOct; intro xq dxq e1q e2q k1q k2q tbq tkq h'q tk'q hKq hxq hdxq hxdq h1q h2q; (with_reducible rename Fr _ _ _ _ => kF); (with_reducible rename News _ _ _ _ => kN); have F'q := fr_kp0 kF hKq; have N'q := news_kp0 kN hKq; have N2q := news_new kF N'q hdxq h2q; have N3q := news_new kF N2q hxq h1q; have hne1q := neAll xq kN hxq; have hne2q := neAll dxq kN hdxq; replace hxdq : NeA _ _ := hxdq; clear N'q N2q hKq hxq hdxq h1q h2q; (try k_sweep))))) | ((with_reducible show wpAny _ _ (eval (Expr.ListComp _ _ _ _) _) _ _ _); first | (with_reducible (k_here; (with_reducible rename Fr _ _ _ _ => kF); k_dflt (refine' comp_ok rule_name ?hh ?cl ?cell ?kind ?names (frL kF) ?_; (case hh => exact rfl); (case cl => exact rfl); (case cell => decide); (case kind => exact rfl); (case names => decide); k_whole)))) | ((with_reducible show wpAny _ _ (call (Value.builtin _) _) _ _ _); first | (with_reducible (k_here; k_dflt (refine' join_use ?X ?N ?a ?b ?_; (case X => k_in); (case N => exact News.get (by assumption) (by k_mem)); (case a => ktr_room); (case b => ktr_units); k_whole; intro tq h'q tk'q hKq; (with_reducible rename Fr _ _ _ _ => kF); (with_reducible rename News _ _ _ _ => kN); have F'q := fr_kp0 kF hKq; have N'q := news_kp0 kN hKq; clear hKq; (try k_sweep))))) | ((with_reducible show wpAny _ _ (getMethod (Value.bytes _ _) _ _) _ _ _); first | (with_reducible (k_here; (with_reducible refine getm_join ?_)))) | ((with_reducible show wpAny _ _ (subscriptTail _ _ _ _) _ _ _); first | (with_reducible (k_here; (with_reducible show wpAny _ _ (subscriptTail _ (Expr.Slice _ _ none _) (Value.bytes (List.toArray _) _) (Value.ref _)) _ _ _); (with_reducible rename Fr _ _ _ _ => F'q); (with_reducible rename News _ _ _ _ => N'q); (refine my_cut (s := ⟨_, _, _, _, _⟩) F'q N'q (by constructor) (by constructor) (by first | assumption | omega | exact Nat.le_of_ble_eq_true rfl) ?_); intro h'q t'q k'q F'q N'q; (try k_sweep)))) | ((with_reducible show wpAny _ _ (compareOp CmpOp.NotEq (Value.ref _) (Value.ref _)) _ _ _); first | (with_reducible (k_here; k_dflt (first | (refine' ne_same4 ?h1 ?h2 ?s1 ?s2 ?s3 ?s4 ?hu ?_; (case h1 => exact ⟨_, News.get (by k_asm) (by k_mem), rfl, _, rfl⟩); (case h2 => exact ⟨_, News.get (by k_asm) (by k_mem), rfl, _, rfl⟩); (case s1 => with_reducible exact SameV.int _ _ _); (case s2 => with_reducible exact SameV.int _ _ _); (case s3 => with_reducible exact SameV.int _ _ _); (case s4 => with_reducible exact SameV.int _ _ _); (case hu => ktr_units); k_whole) | (refine' ne_same2 ?h1 ?h2 ?s1 ?s2 ?hu ?_; (case h1 => exact ⟨_, News.get (by k_asm) (by k_mem), rfl, _, rfl⟩); (case h2 => exact ⟨_, News.get (by k_asm) (by k_mem), rfl, _, rfl⟩); (case s1 => first | with_reducible exact SameV.int _ _ _ | with_reducible exact SameV.bytes _ _ _); (case s2 => first | with_reducible exact SameV.int _ _ _ | with_reducible exact SameV.bytes _ _ _); (case hu => ktr_units); k_whole)))) | ((k_here; k_dflt (first | (refine' ne_same4 ?h1 ?h2 ?s1 ?s2 ?s3 ?s4 ?hu ?_; (case h1 => exact ⟨_, News.get (by k_asm) (by k_mem), rfl, _, rfl⟩); (case h2 => exact ⟨_, News.get (by k_asm) (by k_mem), rfl, _, rfl⟩); (case s1 => with_reducible exact SameV.int _ _ _); (case s2 => with_reducible exact SameV.int _ _ _); (case s3 => with_reducible exact SameV.int _ _ _); (case s4 => with_reducible exact SameV.int _ _ _); (case hu => ktr_units); k_whole) | (refine' ne_same2 ?h1 ?h2 ?s1 ?s2 ?hu ?_; (case h1 => exact ⟨_, News.get (by k_asm) (by k_mem), rfl, _, rfl⟩); (case h2 => exact ⟨_, News.get (by k_asm) (by k_mem), rfl, _, rfl⟩); (case s1 => first | with_reducible exact SameV.int _ _ _ | with_reducible exact SameV.bytes _ _ _); (case s2 => first | with_reducible exact SameV.int _ _ _ | with_reducible exact SameV.bytes _ _ _); (case hu => ktr_units); k_whole))))) | walk1 | (dsimp only; (with_reducible show wpAny _ _ _ _ _ _)) | (leave1; walk_say "STEP leave1"; try dsimp only) | fail "no step"))
          (with_reducible rename Thrown _ _ _ _ _ => hTh)
          (with_reducible rename Fr _ _ _ _ => kF); (with_reducible rename News _ _ _ _ => kN)
          (try dsimp only)
          refine leave_next (S' := [_]) rfl rfl hL9 (kp_ofS hg9 kF (List.forall_mem_singleton.mpr (.inr ⟨hall _ (by k_mem), kN.get (by k_mem)⟩))) hTh (fun b hb => .inr (by rw [List.mem_singleton.mp hb]; exact fresh_of hg9 kN (by k_mem) (neAll_notin ⟨by k_ne, trivial⟩))) fun h'' hT' => hret9 _ _ _ hT'
        · (with_reducible rename Fr _ _ _ _ => kF); (with_reducible rename News _ _ _ _ => kN); (with_reducible rename Below _ _ _ _ => kB)
          k_dflt (refine' refuse_go kB kF kN rfl [(L' + 1 + 1, _), (L' + 1, _)] ?ho ?hc ?hd ?hv ?hS ?hdp ?hun ?hb ?c2 ?c3 ?c4 ?c5 ?_; (case ho => k_mem); (case hc => k_mem); (case hd => assumption); (case hv => assumption); (case hS => exact (acons (by k_mem) (List.forall_mem_singleton.mpr (by k_mem)))); (case hdp => ktr_room); (case hun => ktr_units); (case hb => exact rfl); (case c2 => exact rfl); (case c3 => exact rfl); (case c4 => exact rfl); (case c5 => decide))
          intro l9 dp9 un9 s9 Q9 E9 g9 L9 h1 tk1 hd9 hu9 hC9 hall hL9 hg9 F9 N9 B9 X9 T9 hret9
          clear kF kN kB
          (repeat' (first | (k_unfold; (try dsimp only)) | (k_end; wrow_close) | ((with_reducible show wpAny _ _ (call (Value.ref _) _) _ _ _); first | (with_reducible (k_here; (with_reducible show wpAny _ _ (call (Value.ref 328) [Value.ref _]) _ _ _); k_dflt ((with_reducible rename Fr _ _ _ _ => kF); (with_reducible rename News _ _ _ _ => kN); (with_reducible rename Below _ _ _ _ => kB); (with_reducible rename Frag.In _ _ => kX); (with_reducible rename Top _ _ _ _ _ _ => kT); (with_reducible rename Cx _ _ _ _ _ _ _ _ _ => kC); refine' refused_use kC kB kF kN rfl rfl ?fn ?_ ?hd ?hu ?_; (case fn => exact ⟨_, _, _, _, News.get kN (by k_mem)⟩); (case hd => ktr_room); (case hu => ktr_units); (any_goals (intro g2q h2q tk2q F'q N'q B'q X'q T'q hKGq hNGq; clear kF kN kB kX kT))))) | (with_reducible (k_here; (with_reducible show wpAny _ _ (call (Value.ref 232) [Value.ref _, Value.int 128 _]) _ _ _); k_dflt ( refine' rsw_ok _ _ _ _ _ _ _ _ _ _ _ _ _ _ _ _ _ _ _ _ _ _ _ _ _ _ _ _ ?C ?Ox ?Od ?hneq ?hW ?hrq ?hd ?hu ?_; (case C => exact Cx.next (by assumption) (by assumption) (by assumption) rfl rfl); (case Ox => exact own_of (by assumption) (by assumption) (by k_mem) rfl); (case Od => exact own_of (by assumption) (by assumption) (by k_mem) rfl); (case hneq => k_ne); (case hW => rfl); (case hrq => assumption); (case hd => ktr_room); (case hu => ktr_units); k_whole; intro rq t0q t1q t2q t3q tk₂q h'q tk'q hrnq hKq hsq hrq; (with_reducible rename Fr _ _ _ _ => kF); (with_reducible rename News _ _ _ _ => kN); have F'q := fr_kp1 kF kN (by k_mem) hKq; have N'q := news_upd kN hKq (by k_upd) hsq; have N''q := news_new kF N'q hrnq hrq; have hneq := neAll rq kN hrnq; clear N'q hrnq hrq hKq hsq; (try k_sweep)))) | (with_reducible (k_here; (with_reducible show wpAny _ _ (call (Value.ref 246) [Value.ref _, Value.int _ _]) _ _ _); k_dflt ( refine' ra_x _ _ _ _ _ _ _ _ _ _ _ _ _ _ _ _ _ _ _ _ _ _ _ _ _ _ _ _ ?C ?Ox ?Od ?hne ?hW ?hfl ?hd ?hu ?_; (case C => exact Cx.next (by assumption) (by assumption) (by assumption) rfl rfl); (case Ox => exact own_of (by assumption) (by assumption) (by k_mem) rfl); (case Od => exact own_of (by assumption) (by assumption) (by k_mem) rfl); (case hne => k_ne); (case hW => exact cut_last _ (Nat.le_of_succ_le (arB_len _ _ _).2)); (case hfl => rfl); (case hd => ktr_room); (case hu => ktr_units); k_whole; intro eq h'q tk'q hTq))) | (with_reducible (k_here; (with_reducible show wpAny _ _ (call (Value.ref 232) [Value.ref _, Value.int _ _]) _ _ _); k_dflt ( refine' rsw_x _ _ _ _ _ _ _ _ _ _ _ _ _ _ _ _ _ _ _ _ _ _ _ _ _ _ _ _ ?C ?Ox ?Od ?hne ?hW ?hd ?hu ?_; (case C => exact Cx.next (by assumption) (by assumption) (by assumption) rfl rfl); (case Ox => exact own_of (by assumption) (by assumption) (by k_mem) rfl); (case Od => exact own_of (by assumption) (by assumption) (by k_mem) rfl); (case hne => k_ne); (case hW => rfl); (case hd => ktr_room); (case hu => ktr_units); k_whole; intro eq h'q tk'q hTq))) | (with_reducible (k_here; (with_reducible show wpAny _ _ (call (Value.ref 309) _) _ _ _); k_dflt ( refine' two_ok _ _ _ _ _ _ _ _ _ _ _ _ _ _ _ _ ?C  ?hd ?hu ?_; (case C => exact Cx.next (by assumption) (by assumption) (by assumption) rfl rfl); (case hd => ktr_room); (case hu => ktr_units); k_whole; intro tq h'q tk'q hKq; (with_reducible rename Fr _ _ _ _ => kF); (with_reducible rename News _ _ _ _ => kN); have F'q := fr_kp0 kF hKq; have N'q := news_kp0 kN hKq; clear hKq; (try k_sweep)))) | (with_reducible (k_here; (with_reducible show wpAny _ _ (call (Value.ref 191) _) _ _ _); k_dflt (refine' mkOct _ _ _ _ _ _ _ _ _ _ _ _ _ _ _ _ ?C ?a ?b ?_; (case C => exact Cx.next (by assumption) (by assumption) (by assumption) rfl rfl); (case a => ktr_room); (case b => ktr_units); k_whole; unfold RetOct; intro xq dxq e1q e2q k1q k2q tbq tkq h'q tk'q hKq hxq hdxq hxdq h1q h2q; (with_reducible rename Fr _ _ _ _ => kF); (with_reducible rename News _ _ _ _ => kN); have F'q := fr_kp0 kF hKq; have N'q := news_kp0 kN hKq; have N2q := news_new kF N'q hdxq h2q; have N3q := news_new kF N2q hxq h1q; have hne1q := neAll xq kN hxq; have hne2q := neAll dxq kN hdxq; replace hxdq : NeA _ _ := hxdq; clear N'q N2q hKq hxq hdxq h1q h2q; (try k_sweep))))) | ((with_reducible show wpAny _ _ (eval (Expr.ListComp _ _ _ _) _) _ _ _); first | (with_reducible (k_here; (with_reducible rename Fr _ _ _ _ => kF); k_dflt (refine' comp_ok rule_name ?hh ?cl ?cell ?kind ?names (frL kF) ?_; (case hh => exact rfl); (case cl => exact rfl); (case cell => decide); (case kind => exact rfl); (case names => decide); k_whole)))) | ((with_reducible show wpAny _ _ (call (Value.builtin _) _) _ _ _); first | (with_reducible (k_here; k_dflt (refine' join_use ?X ?N ?a ?b ?_; (case X => k_in); (case N => exact News.get (by assumption) (by k_mem)); (case a => ktr_room); (case b => ktr_units); k_whole; intro tq h'q tk'q hKq; (with_reducible rename Fr _ _ _ _ => kF); (with_reducible rename News _ _ _ _ => kN); have F'q := fr_kp0 kF hKq; have N'q := news_kp0 kN hKq; clear hKq; (try k_sweep))))) | ((with_reducible show wpAny _ _ (getMethod (Value.bytes _ _) _ _) _ _ _); first | (with_reducible (k_here; (with_reducible refine getm_join ?_)))) | ((with_reducible show wpAny _ _ (subscriptTail _ _ _ _) _ _ _); first | (with_reducible (k_here; (with_reducible show wpAny _ _ (subscriptTail _ (Expr.Slice _ _ none _) (Value.bytes (List.toArray _) _) (Value.ref _)) _ _ _); (with_reducible rename Fr _ _ _ _ => F'q); (with_reducible rename News _ _ _ _ => N'q); (refine my_cut (s := ⟨_, _, _, _, _⟩) F'q N'q (by constructor) (by constructor) (by first | assumption | omega | exact Nat.le_of_ble_eq_true rfl) ?_); intro h'q t'q k'q F'q N'q; (try k_sweep)))) | ((with_reducible show wpAny _ _ (compareOp CmpOp.NotEq (Value.ref _) (Value.ref _)) _ _ _); first | (with_reducible (k_here; k_dflt (first | (refine' ne_same4 ?h1 ?h2 ?s1 ?s2 ?s3 ?s4 ?hu ?_; (case h1 => exact ⟨_, News.get (by k_asm) (by k_mem), rfl, _, rfl⟩); (case h2 => exact ⟨_, News.get (by k_asm) (by k_mem), rfl, _, rfl⟩); (case s1 => with_reducible exact SameV.int _ _ _); (case s2 => with_reducible exact SameV.int _ _ _); (case s3 => with_reducible exact SameV.int _ _ _); (case s4 => with_reducible exact SameV.int _ _ _); (case hu => ktr_units); k_whole) | (refine' ne_same2 ?h1 ?h2 ?s1 ?s2 ?hu ?_; (case h1 => exact ⟨_, News.get (by k_asm) (by k_mem), rfl, _, rfl⟩); (case h2 => exact ⟨_, News.get (by k_asm) (by k_mem), rfl, _, rfl⟩); (case s1 => first | with_reducible exact SameV.int _ _ _ | with_reducible exact SameV.bytes _ _ _); (case s2 => first | with_reducible exact SameV.int _ _ _ | with_reducible exact SameV.bytes _ _ _); (case hu => ktr_units); k_whole)))) | ((k_here; k_dflt (first | (refine' ne_same4 ?h1 ?h2 ?s1 ?s2 ?s3 ?s4 ?hu ?_; (case h1 => exact ⟨_, News.get (by k_asm) (by k_mem), rfl, _, rfl⟩); (case h2 => exact ⟨_, News.get (by k_asm) (by k_mem), rfl, _, rfl⟩); (case s1 => with_reducible exact SameV.int _ _ _); (case s2 => with_reducible exact SameV.int _ _ _); (case s3 => with_reducible exact SameV.int _ _ _); (case s4 => with_reducible exact SameV.int _ _ _); (case hu => ktr_units); k_whole) | (refine' ne_same2 ?h1 ?h2 ?s1 ?s2 ?hu ?_; (case h1 => exact ⟨_, News.get (by k_asm) (by k_mem), rfl, _, rfl⟩); (case h2 => exact ⟨_, News.get (by k_asm) (by k_mem), rfl, _, rfl⟩); (case s1 => first | with_reducible exact SameV.int _ _ _ | with_reducible exact SameV.bytes _ _ _); (case s2 => first | with_reducible exact SameV.int _ _ _ | with_reducible exact SameV.bytes _ _ _); (case hu => ktr_units); k_whole))))) | walk1 | (dsimp only; (with_reducible show wpAny _ _ _ _ _ _)) | (leave1; walk_say "STEP leave1"; try dsimp only) | fail "no step"))
          (with_reducible rename Thrown _ _ _ _ _ => hTh)
          (with_reducible rename Fr _ _ _ _ => kF); (with_reducible rename News _ _ _ _ => kN)
          (try dsimp only)
          refine leave_next (S' := [_]) rfl rfl hL9 (kp_ofS hg9 kF ((acons (.inr ⟨hall _ (by k_mem), kN.get (by k_mem)⟩) (List.forall_mem_singleton.mpr (.inr ⟨hall _ (by k_mem), kN.get (by k_mem)⟩))))) hTh (fun b hb => .inr (by rw [List.mem_singleton.mp hb]; exact fresh_of hg9 kN (by k_mem) (neAll_notin ⟨by k_ne, by k_ne, trivial⟩))) fun h'' hT' => hret9 _ _ _ hT'
        · (with_reducible rename Fr _ _ _ _ => kF); (with_reducible rename News _ _ _ _ => kN)
          have hkg : KpF l g _ [] := KpF.trans (by assumption) (by assumption)
          exact hret _ _ _ cods _ _ kF hkg (fun q hq => kN q (.tail _ (.tail _ (.tail _ (.tail _ (.tail _ (.tail _ (.tail _ (.tail _ (.tail _ (.tail _ (.tail _ (hq))))))))))))) (.inr ⟨a1, a2, p1, p2, vs1, vs2, t1, t2, rfl, m1, m2, q1, q2, q3, q4⟩) (fun _ z => z) (fun _ z => .inl z)
end
section
open PySem PySem.Spec PySem.Calls PySem.W PyProof.Rows
theorem words_ok : ∀ (w : World) (p : Program) (loose : List Str) (mean : ExcName → Option Value) (mg mb : Str → Option Value) (H₀ : Heap)
  (dp un : Nat) (gd : Option (List Code)) (l : List Env) (s : Shared) (Q E : Value → Shared → Prop) (x dx sc : Addr) (ps : Array Value) (cods : List (Addr × Obj)) (e1 e2 e3 e4 e5 : Int) (k1 k2 k3 k4 k5 tg tf ts ta tb tc td : Tok) (gl f n : Int) (mv : Bool) (a b c d : Int),
  Cx (Mine.hd.heap_1 w.params) p loose mean mg mb H₀ l s.heap → (Own H₀ l s.heap x (instObj 221 dx)) → (Own H₀ l s.heap dx (partDict e1 e2 e3 e4 e5 k1 k2 k3 k4 k5 tg tf ts gl f n mv sc)) → (NeA x dx) → (Own H₀ l s.heap sc (tup [.int a ta, .int b tb, .int c tc, .int d td])) → (Own H₀ l s.heap 330 (tabObj ps)) → (∀ q ∈ cods, Own H₀ l s.heap q.1 q.2) → (CodeHd H₀ 332 330) → (TabSt cods 218 73 220 24 (Str.ofString "_law_words_right" ++ ".<locals>." ++ "<lambda>") (Str.ofString "_law_words_right" ++ ".<locals>." ++ "<lambda>") ps) → (NeA x sc) → (NeA dx sc) → (NeA x 330) → (NeA dx 330) → (NeA sc 330) → (∀ p ∈ cods, p.1 ≠ 330) → (Rg mv f n) → (∀ q ∈ [a, b, c, d], -32768 ≤ q ∧ q < 32768) →
  dp + 20 ≤ 400 → un + 120 ≤ 400 →
  (∀ ps' cods' h' tk', KpF l s.heap h' [330] → h'.get? 330 = some (tabObj ps') → (∀ q ∈ cods', h'.get? q.1 = some q.2) → TabSt cods' 218 73 220 24 (Str.ofString "_law_words_right" ++ ".<locals>." ++ "<lambda>") (Str.ofString "_law_words_right" ++ ".<locals>." ++ "<lambda>") ps' → (∀ q ∈ cods, q ∈ cods') → (∀ q ∈ cods', q ∈ cods ∨ s.heap.get? q.1 = none) → Q (.bool true) {s with heap := h', toks := tk'}) →
  wpAny (model PySem.Challenge.rw_on0238_01.row.prog w) (AA dp un gd l) (call (.ref 333) [.ref x]) Q E s := by
  k_fill
  w_top off
  intro w p loose mean mg mb H₀ dp un gd l s Q E x dx sc ps cods e1 e2 e3 e4 e5 k1 k2 k3 k4 k5 tg tf ts ta tb tc td gl f n mv a b c d C Ox Od hne Os Ot Oc hcd hT n0 n00 n1 n2 n3 n4 hr hs hd hu hret
  refine wpAny_call ?_
  let oq1 : Obj := partDict e1 e2 e3 e4 e5 k1 k2 k3 k4 k5 tg tf ts gl f n mv sc; let oq2 : Obj := tup [.int a ta, .int b tb, .int c tc, .int d td]; k_dflt (refine' enterC C ((x, instObj 221 dx) :: (dx, oq1) :: (sc, oq2) :: (330, tabObj ps) :: cods) ?O ?kA ?k6 ?k7 ?k8 ?k9 ?kB ?kD ?_ ?c2 ?c3 ?c4; (case O => exact (acons (Ox) ((acons (Od) ((acons (Os) ((acons (Ot) (Oc))))))))); (case kA => exact rfl); (case k6 => k_is); (case k7 => k_is); (case k8 => ktr_room); (case k9 => exact BindsTo.of_eq rfl); (case kB => exact rfl); (case kD => decide +kernel); (case c2 => exact rfl); (case c3 => exact rfl); (case c4 => exact rfl); k_whole; intro g L' h₁ tk' cells hL hcl hg F' N' Y' B' X' T' l1; have lraw := l1; (try k_lt l1); obtain ⟨o1, o2, o3, hE, d1, d2, d3⟩ := CellsAre.three Y'; subst hE; clear Y'; replace d1 : o1.data = Data.cell none := d1; replace d2 : o2.data = Data.cell none := d2; replace d3 : o3.data = Data.cell none := d3; replace F' : Fr g L' h₁ (fun y => if y = (Str.ofString "piece") then some (.ref x) else none) := F'; (dsimp only [List.cons_append, List.nil_append] at N'); (try dsimp only); (try k_fold); (try (refine foldL ?_; intro eV aV)))
  have hl1 := (arB_len mv f n).1
  have hl2 := scB_len a b c d
  have hcod := And.intro l1.2.2.2.2 True.intro
  (repeat' (first | (k_unfold; (try dsimp only)) | (k_end; wrow_close) | ((with_reducible show wpAny _ _ (execs (_ :: _) _) _ _ _); first | (with_reducible ((with_reducible show wpAny _ _ (execs (Stmt.Assign [Expr.Name (Str.ofString "whole") _] _ _ :: _) _) _ _ _); refine CutR.out ?_)) | (((with_reducible show wpAny _ _ (execs (Stmt.Assign [Expr.Name (Str.ofString "whole") _] _ _ :: _) _) _ _ _); refine CutR.out ?_))) | ((with_reducible show wpAny _ _ (call (Value.ref _) _) _ _ _); first | (with_reducible (k_here; (with_reducible show wpAny _ _ (call (Value.ref 232) [Value.ref _, Value.int (scF _ _ _ _) _]) _ _ _); k_dflt ( refine' rs_ok _ _ _ _ _ _ _ _ _ _ _ _ _ _ _ _ _ _ _ _ _ _ [122, 122] _ _ _ _ _ _ _ ?C ?Ox ?Od ?hneq ?hfl ?hW ?hT ?hrq ?hd ?hu ?_; (case C => exact Cx.next (by assumption) (by assumption) (by assumption) rfl rfl); (case Ox => exact own_of (by assumption) (by assumption) (by k_mem) rfl); (case Od => exact own_of (by assumption) (by assumption) (by k_mem) rfl); (case hneq => k_ne); (case hfl => with_reducible rfl); (case hW => (first | with_reducible rfl | exact (List.append_toArray _ _).symm)); (case hT => decide); (case hrq => assumption); (case hd => ktr_room); (case hu => ktr_units); k_whole; intro rq t0q t1q t2q t3q tk₂q h'q tk'q hrnq hKq hsq hrq; (with_reducible rename Fr _ _ _ _ => kF); (with_reducible rename News _ _ _ _ => kN); have F'q := fr_kp1 kF kN (by k_mem) hKq; have N'q := news_upd kN hKq (by k_upd) hsq; have N''q := news_new kF N'q hrnq hrq; have hneq := neAll rq kN hrnq; clear N'q hrnq hrq hKq hsq; (try k_sweep)))) | (with_reducible (k_here; (with_reducible show wpAny _ _ (call (Value.ref 246) [Value.ref _, Value.int _ _]) _ _ _); k_dflt ( refine' ral_ok _ _ _ _ _ _ _ _ _ _ _ _ _ _ _ _ _ _ _ _ _ _ _ _ _ _ _ _ ?C ?Ox ?Od ?hneq ?hfl ?hW ?hrq ?hd ?hu ?_; (case C => exact Cx.next (by assumption) (by assumption) (by assumption) rfl rfl); (case Ox => exact own_of (by assumption) (by assumption) (by k_mem) rfl); (case Od => exact own_of (by assumption) (by assumption) (by k_mem) rfl); (case hneq => k_ne); (case hfl => exact flag_long _); (case hW => (first | with_reducible rfl | rfl)); (case hrq => assumption); (case hd => ktr_room); (case hu => ktr_units); k_whole; intro rq t0q t1q tk₂q h'q tk'q hrnq hKq hsq hrq; (with_reducible rename Fr _ _ _ _ => kF); (with_reducible rename News _ _ _ _ => kN); have F'q := fr_kp1 kF kN (by k_mem) hKq; have N'q := news_upd kN hKq (by k_upd) hsq; have N''q := news_new kF N'q hrnq hrq; have hneq := neAll rq kN hrnq; clear N'q hrnq hrq hKq hsq; (try k_sweep)))) | (with_reducible (k_here; (with_reducible show wpAny _ _ (call (Value.ref 246) [Value.ref _, Value.int _ _]) _ _ _); k_dflt ( refine' ra_ok _ _ _ _ _ _ _ _ _ _ _ _ _ _ _ _ _ _ _ _ _ [122, 122] _ _ _ _ _ _ _ ?C ?Ox ?Od ?hneq ?hfl ?hW ?hT ?hrq ?hd ?hu ?_; (case C => exact Cx.next (by assumption) (by assumption) (by assumption) rfl rfl); (case Ox => exact own_of (by assumption) (by assumption) (by k_mem) rfl); (case Od => exact own_of (by assumption) (by assumption) (by k_mem) rfl); (case hneq => k_ne); (case hfl => (first | with_reducible rfl | rfl)); (case hW => (first | with_reducible rfl | exact (List.append_toArray _ _).symm | (simp; done))); (case hT => decide); (case hrq => assumption); (case hd => ktr_room); (case hu => ktr_units); k_whole; intro rq t0q t1q tk₂q h'q tk'q hrnq hKq hsq hrq; (with_reducible rename Fr _ _ _ _ => kF); (with_reducible rename News _ _ _ _ => kN); have F'q := fr_kp1 kF kN (by k_mem) hKq; have N'q := news_upd kN hKq (by k_upd) hsq; have N''q := news_new kF N'q hrnq hrq; have hneq := neAll rq kN hrnq; clear N'q hrnq hrq hKq hsq; (try k_sweep)))) | (with_reducible (k_here; (with_reducible show wpAny _ _ (call (Value.ref 309) _) _ _ _); k_dflt ( refine' two_ok _ _ _ _ _ _ _ _ _ _ _ _ _ _ _ _ ?C  ?hd ?hu ?_; (case C => exact Cx.next (by assumption) (by assumption) (by assumption) rfl rfl); (case hd => ktr_room); (case hu => ktr_units); k_whole; intro tq h'q tk'q hKq; (with_reducible rename Fr _ _ _ _ => kF); (with_reducible rename News _ _ _ _ => kN); have F'q := fr_kp0 kF hKq; have N'q := news_kp0 kN hKq; clear hKq; (try k_sweep)))) | (with_reducible (k_here; (with_reducible show wpAny _ _ (call (Value.ref 191) _) _ _ _); k_dflt (refine' mkOct _ _ _ _ _ _ _ _ _ _ _ _ _ _ _ _ ?C ?a ?b ?_; (case C => exact Cx.next (by assumption) (by assumption) (by assumption) rfl rfl); (case a => ktr_room); (case b => ktr_units); k_whole; unfold RetOct; intro xq dxq e1q e2q k1q k2q tbq tkq h'q tk'q hKq hxq hdxq hxdq h1q h2q; (with_reducible rename Fr _ _ _ _ => kF); (with_reducible rename News _ _ _ _ => kN); have F'q := fr_kp0 kF hKq; have N'q := news_kp0 kN hKq; have N2q := news_new kF N'q hdxq h2q; have N3q := news_new kF N2q hxq h1q; have hne1q := neAll xq kN hxq; have hne2q := neAll dxq kN hdxq; replace hxdq : NeA _ _ := hxdq; clear N'q N2q hKq hxq hdxq h1q h2q; (try k_sweep)))) | (with_reducible (k_here; (with_reducible show wpAny _ _ (call (Value.ref 321) _) _ _ _); k_dflt ( refine' scd_ok _ _ _ _ _ _ _ _ _ _ _ _ _ _ _ _ _ _ _ _ _ _ _ ?C ?Ot ?hd ?hu ?_; (case C => exact Cx.next (by assumption) (by assumption) (by assumption) rfl rfl); (case Ot => exact own_of (by assumption) (by assumption) (by k_mem) rfl); (case hd => ktr_room); (case hu => ktr_units); k_whole; intro rq flq Wq t1q t2q h'q tk'q hflq hWq hrnq hKq hrq; (with_reducible rename Fr _ _ _ _ => kF); (with_reducible rename News _ _ _ _ => kN); have F'q := fr_kp0 kF hKq; have N'q := news_kp0 kN hKq; have N''q := news_new kF N'q hrnq hrq; have hneq := neAll rq kN hrnq; clear N'q hrnq hrq; subst hflq hWq; clear hKq; (try k_sweep)))) | (with_reducible (k_here; (with_reducible show wpAny _ _ (call (Value.ref 260) _) _ _ _); k_dflt ( refine' sco_ok _ _ _ _ _ _ _ _ _ _ _ _ _ _ _ _ _ _ _ _ _ _ _ ?C ?Ot ?hd ?hu ?_; (case C => exact Cx.next (by assumption) (by assumption) (by assumption) rfl rfl); (case Ot => exact own_of (by assumption) (by assumption) (by k_mem) rfl); (case hd => ktr_room); (case hu => ktr_units); k_whole; intro rq flq Wq t1q t2q h'q tk'q hflq hWq hrnq hKq hrq; (with_reducible rename Fr _ _ _ _ => kF); (with_reducible rename News _ _ _ _ => kN); have F'q := fr_kp0 kF hKq; have N'q := news_kp0 kN hKq; have N''q := news_new kF N'q hrnq hrq; have hneq := neAll rq kN hrnq; clear N'q hrnq hrq; subst hflq hWq; clear hKq; (try k_sweep)))) | (with_reducible (k_here; (with_reducible show wpAny _ _ (call (Value.ref 316) _) _ _ _); k_dflt ( refine' ard_ok _ _ _ _ _ _ _ _ _ _ _ _ _ _ _ _ _ _ _ _ _ _ _ _ _ _ _ _ _ _ _ _ _ _ ?C ?Ox ?Od ?hneq ?hd ?hu ?_; (case C => exact Cx.next (by assumption) (by assumption) (by assumption) rfl rfl); (case Ox => exact own_of (by assumption) (by assumption) (by k_mem) rfl); (case Od => exact own_of (by assumption) (by assumption) (by k_mem) rfl); (case hneq => k_ne); (case hd => ktr_room); (case hu => ktr_units); k_whole; intro rq flq Wq t1q t2q h'q tk'q hflq hWq hrnq hKq hrq; (with_reducible rename Fr _ _ _ _ => kF); (with_reducible rename News _ _ _ _ => kN); have F'q := fr_kp0 kF hKq; have N'q := news_kp0 kN hKq; have N''q := news_new kF N'q hrnq hrq; have hneq := neAll rq kN hrnq; clear N'q hrnq hrq; subst hflq hWq; clear hKq; (try k_sweep)))) | (with_reducible (k_here; (with_reducible show wpAny _ _ (call (Value.ref 267) _) _ _ _); k_dflt ( refine' aro_ok _ _ _ _ _ _ _ _ _ _ _ _ _ _ _ _ _ _ _ _ _ _ _ _ _ _ _ _ _ _ _ _ _ _ ?C ?Ox ?Od ?hneq ?hd ?hu ?_; (case C => exact Cx.next (by assumption) (by assumption) (by assumption) rfl rfl); (case Ox => exact own_of (by assumption) (by assumption) (by k_mem) rfl); (case Od => exact own_of (by assumption) (by assumption) (by k_mem) rfl); (case hneq => k_ne); (case hd => ktr_room); (case hu => ktr_units); k_whole; intro rq flq Wq t1q t2q h'q tk'q hflq hWq hrnq hKq hrq; (with_reducible rename Fr _ _ _ _ => kF); (with_reducible rename News _ _ _ _ => kN); have F'q := fr_kp0 kF hKq; have N'q := news_kp0 kN hKq; have N''q := news_new kF N'q hrnq hrq; have hneq := neAll rq kN hrnq; clear N'q hrnq hrq; subst hflq hWq; clear hKq; (try k_sweep))))) | ((with_reducible show wpAny _ _ (compareOp CmpOp.NotEq (Value.int _ _) (Value.int _ _)) _ _ _); first | (with_reducible (k_here; (with_reducible refine ne_int_same ?_))) | ((k_here; (with_reducible refine ne_int_same ?_)))) | ((with_reducible show wpAny _ _ (binaryOp Operator.Add (Value.bytes _ _) (Value.bytes _ _)) _ _ _); first | (with_reducible (k_here; (with_reducible show wpAny _ _ (binaryOp Operator.Add (Value.bytes (List.toArray (scB _ _ _ _)) _) (Value.bytes (List.toArray _) _)) _ _ _); k_dflt (refine' bytes_add_K ?z rfl ?_; (case z => (simp only [List.size_toArray, List.length_cons, List.length_nil]; omega)); k_whole; intro t'q k'q))) | (with_reducible (k_here; (with_reducible show wpAny _ _ (binaryOp Operator.Add (Value.bytes (List.toArray (arB _ _ _)) _) (Value.bytes (List.toArray _) _)) _ _ _); k_dflt (refine' bytes_add_K ?z rfl ?_; (case z => (simp only [List.size_toArray, List.length_cons, List.length_nil]; omega)); k_whole; intro t'q k'q)))) | ((with_reducible show wpAny _ _ (call (Value.builtin _) _) _ _ _); first | (with_reducible (k_here; (with_reducible show wpAny _ _ (call (Value.builtin "len") [Value.bytes (List.toArray _) _]) _ _ _); k_dflt (refine' my_blen ?h ?_; (case h => omega); k_whole)))) | ((with_reducible show wpAny _ _ (compareOp CmpOp.NotEq (Value.ref _) (Value.ref _)) _ _ _); first | (with_reducible (k_here; k_dflt (first | (refine' ne_same4 ?h1 ?h2 ?s1 ?s2 ?s3 ?s4 ?hu ?_; (case h1 => exact ⟨_, News.get (by k_asm) (by k_mem), rfl, _, rfl⟩); (case h2 => exact ⟨_, News.get (by k_asm) (by k_mem), rfl, _, rfl⟩); (case s1 => with_reducible exact SameV.int _ _ _); (case s2 => with_reducible exact SameV.int _ _ _); (case s3 => with_reducible exact SameV.int _ _ _); (case s4 => with_reducible exact SameV.int _ _ _); (case hu => ktr_units); k_whole) | (refine' ne_same2 ?h1 ?h2 ?s1 ?s2 ?hu ?_; (case h1 => exact ⟨_, News.get (by k_asm) (by k_mem), rfl, _, rfl⟩); (case h2 => exact ⟨_, News.get (by k_asm) (by k_mem), rfl, _, rfl⟩); (case s1 => first | with_reducible exact SameV.int _ _ _ | with_reducible exact SameV.bytes _ _ _); (case s2 => first | with_reducible exact SameV.int _ _ _ | with_reducible exact SameV.bytes _ _ _); (case hu => ktr_units); k_whole)))) | ((k_here; k_dflt (first | (refine' ne_same4 ?h1 ?h2 ?s1 ?s2 ?s3 ?s4 ?hu ?_; (case h1 => exact ⟨_, News.get (by k_asm) (by k_mem), rfl, _, rfl⟩); (case h2 => exact ⟨_, News.get (by k_asm) (by k_mem), rfl, _, rfl⟩); (case s1 => with_reducible exact SameV.int _ _ _); (case s2 => with_reducible exact SameV.int _ _ _); (case s3 => with_reducible exact SameV.int _ _ _); (case s4 => with_reducible exact SameV.int _ _ _); (case hu => ktr_units); k_whole) | (refine' ne_same2 ?h1 ?h2 ?s1 ?s2 ?hu ?_; (case h1 => exact ⟨_, News.get (by k_asm) (by k_mem), rfl, _, rfl⟩); (case h2 => exact ⟨_, News.get (by k_asm) (by k_mem), rfl, _, rfl⟩); (case s1 => first | with_reducible exact SameV.int _ _ _ | with_reducible exact SameV.bytes _ _ _); (case s2 => first | with_reducible exact SameV.int _ _ _ | with_reducible exact SameV.bytes _ _ _); (case hu => ktr_units); k_whole))))) | ((with_reducible show wpAny _ _ (execs (_ :: _) _) _ _ _); k_here; (with_reducible rename Fr _ _ _ _ => kF); (with_reducible rename News _ _ _ _ => kN); (with_reducible refine exT2 kF kN ?_); clear kF kN; intro tq mq Dq Fq Nq; k_fold) | walk1 | (dsimp only; (with_reducible show wpAny _ _ _ _ _ _)) | (leave1; walk_say "STEP leave1"; try dsimp only) | fail "no step"))
  (with_reducible rename Fr _ _ _ _ => kF); (with_reducible rename News _ _ _ _ => kN)
  refine' words_b w p loose mean mg mb H₀ _ dp un gd l _ _ _ g L' x dx sc o1 _ _ _ _ _ _ _ ps cods e1 e2 e3 e4 e5 k1 k2 k3 k4 k5 tg tf ts ta tb tc td _ _ gl f n mv a b c d C kF (fun q hq => kN q (.tail _ (.tail _ (.tail _ (.tail _ (.tail _ (.tail _ (.tail _ (.tail _ (.tail _ (.tail _ (.tail _ (.tail _ (.tail _ (.tail _ (.tail _ (.tail _ (.tail _ (hq))))))))))))))))))) B' X' T' hcd d1 (by assumption) (by assumption) hT ⟨l1.1, l1.2.1, l1.2.2.1, l1.2.2.2.1⟩ hcod.1 n1 n2 n3 n4 hr hs hd hu ?_
  intro g2 m2 ps' cods' h9 tk9 kF9 hkg e1' e2' e3' e4'
  clear kF kN
  (try k_unfold); (try dsimp only)
  refine hret ps' cods' h9 tk9 (kpF_end hg hkg kF9 ?_) (e1' _ (.tail _ (.tail _ (.tail _ (.head _))))).1 (fun q hq => (e1' q (.tail _ (.tail _ (.tail _ (.tail _ hq))))).1) e2' e3' (fun q hq => (e4' q hq).imp id fun z => ?_)
  · refine (acons (.inr ⟨Ox.1, (e1' _ (.head _)).1⟩) ((acons (.inr ⟨Od.1, (e1' _ (.tail _ (.head _))).1⟩) ((acons (.inr ⟨Os.1, (e1' _ (.tail _ (.tail _ (.head _)))).1⟩) ((acons (.inl (.head _)) (fun q hq => .inr ⟨(Oc q hq).1, (e1' q (.tail _ (.tail _ (.tail _ (.tail _ (e3' q hq)))))).1⟩))))))))
  · cases y : s.heap.get? q.1 with
    | none => rfl
    | some o =>
      have := hg q.1 o y fun hm => by
        obtain ⟨p9, hp9, hq9⟩ := List.mem_map.mp hm
        have := lraw p9 hp9
        rw [hq9] at this
        exact absurd z.2 (Nat.not_lt.mpr (Nat.le_of_lt this))
      rw [z.1] at this; cases this
end
section
open PySem PySem.Spec PySem.Calls PySem.W PyProof.Rows
theorem ints_in {lo hi : Int} {vs : List Value} {v : Value} (h : v ∈ vs) (a : ∀ v ∈ vs, ∃ z t, v = .int z t ∧ lo ≤ z ∧ z ≤ hi) : ∃ z t, v = .int z t ∧ lo ≤ z ∧ z ≤ hi := a v h
theorem four_refs {v a b c d : Value} {P : Prop} (h : v ∈ [a, b, c, d]) (h1 : v = a → P) (h2 : v = b → P) (h3 : v = c → P) (h4 : v = d → P) : P := by
  simp only [List.mem_cons, List.not_mem_nil, or_false] at h
  rcases h with h | h | h | h
  · exact h1 h
  · exact h2 h
  · exact h3 h
  · exact h4 h
theorem scale_ok : ∀ (w : World) (p : Program) (loose : List Str) (mean : ExcName → Option Value) (mg mb : Str → Option Value) (H₀ : Heap)
  (dp un : Nat) (gd : Option (List Code)) (l : List Env) (s : Shared) (Q E : Value → Shared → Prop) (src : Addr) (x y : Int) (t1 t2 : Tok) (n0 : Nat),
  Cx (Mine.hd.heap_1 w.params) p loose mean mg mb H₀ l s.heap → (Own H₀ l s.heap src (listOf #[.int x t1, .int y t2] n0)) → (0 ≤ x) → (0 ≤ y) → (y < 2147483647) →
  dp + 5 ≤ 400 → un + 40 ≤ 400 →
  (∀ r (a b c d : Int) (ta tb tc td : Tok) (x' y' : Int) t1' t2' h' tk', (∀ q ∈ [a, b, c, d], -32768 ≤ q ∧ q < 32768) → s.heap.get? r = none → 0 ≤ x' → 0 ≤ y' → y' < 2147483647 → Kp s.heap h' [src] → h'.get? src = some (listOf #[.int x' t1', .int y' t2'] n0) → h'.get? r = some (tup [.int a ta, .int b tb, .int c tc, .int d td]) → Q (.ref r) {s with heap := h', toks := tk'}) →
  wpAny (model PySem.Challenge.rw_on0238_01.row.prog w) (AA dp un gd l) (call (.ref 295) [.ref src]) Q E s := by
  k_fill
  w_top off
  intro w p loose mean mg mb H₀ dp un gd l s Q E src x y t1 t2 n0 C O hx hy hy2 hd hu hret
  refine wpAny_call ?_
  let oq0 : Obj := listOf #[.int x t1, .int y t2] n0; k_dflt (refine' enterK C [(src, oq0)] ?O ?kA ?k6 ?k7 ?k8 ?k9 ?kB ?_ ?c2 ?c3 ?c4 ?c5; (case O => exact List.forall_mem_singleton.mpr O); (case kA => exact rfl); (case k6 => k_is); (case k7 => k_is); (case k8 => ktr_room); (case k9 => exact BindsTo.of_eq rfl); (case c5 => decide); (case kB => exact locs rfl); (case c2 => exact rfl); (case c3 => exact rfl); (case c4 => exact rfl); k_whole; intro g L' h₁ hL hg F' N' B' X' T'; (try dsimp only); (try k_fold); (try (refine foldL ?_; intro eV aV)))
  (repeat' (first | (k_unfold; (try dsimp only)) | (k_end; wrow_close) | ((with_reducible show wpAny _ _ (call (Value.ref _) _) _ _ _); first | (with_reducible (k_here; k_dflt ( (with_reducible show wpAny _ _ (call (Value.ref 288) _) _ _ _); refine' one_ok _ _ _ _ _ _ _ _ _ _ _ _ _ _ _ _ _ _ _ _ _ _ _ ?C ?O ?Ot ?hne ?hvq ?hv2 ?hx ?hy ?hy2 ?hd ?hu ?_; (case C => exact Cx.next (by assumption) (by assumption) (by assumption) rfl rfl); (case O => exact own_of (by assumption) (by assumption) (by k_mem) rfl); (case Ot => exact own_of (by assumption) (by assumption) (by k_mem) rfl); (case hne => first | omega | k_ne); (case hvq => exact Nat.le_of_ble_eq_true rfl); (case hv2 => exact Nat.le_of_ble_eq_true rfl); (case hx => assumption); (case hy => assumption); (case hy2 => assumption); (case hd => ktr_room); (case hu => ktr_units); k_whole; intro vq x'q y'q t1q t2q h'q tk'q hvq hx'q hy'q hy2'q hKq hsq; (refine' Exists.elim (ints_in (lo := -32768) (hi := 32767) hvq ?hI9) ?_); (case hI9 => ((repeat (first | exact List.forall_mem_nil _ | (refine List.forall_mem_cons.mpr ⟨⟨_, _, rfl, by decide, by decide⟩, ?_⟩))); done)); intro zq hvq; (obtain ⟨tz, hz, hlo, hhi⟩ := hvq); subst hz; (with_reducible rename Fr _ _ _ _ => kF); (with_reducible rename News _ _ _ _ => kN); have F'q := fr_kp1 kF kN (by k_mem) hKq; have N'q := news_upd kN hKq (by k_upd) hsq; clear hKq hsq; (try k_sweep)))) | (with_reducible (k_here; k_dflt ( (with_reducible show wpAny _ _ (call (Value.ref 288) _) _ _ _); refine' one_ok _ _ _ _ _ _ _ _ _ _ _ _ _ _ _ _ _ _ _ _ _ _ _ ?C ?O ?Ot ?hne ?hvq ?hv2 ?hx ?hy ?hy2 ?hd ?hu ?_; (case C => exact Cx.next (by assumption) (by assumption) (by assumption) rfl rfl); (case O => exact own_of (by assumption) (by assumption) (by k_mem) rfl); (case Ot => exact own_of (by assumption) (by assumption) (by k_mem) rfl); (case hne => first | omega | k_ne); (case hvq => exact Nat.le_of_ble_eq_true rfl); (case hv2 => exact Nat.le_of_ble_eq_true rfl); (case hx => assumption); (case hy => assumption); (case hy2 => assumption); (case hd => ktr_room); (case hu => ktr_units); k_whole; intro vq x'q y'q t1q t2q h'q tk'q hvq hx'q hy'q hy2'q hKq hsq; (with_reducible rename Fr _ _ _ _ => kF); (with_reducible rename News _ _ _ _ => kN); have F'q := fr_kp1 kF kN (by k_mem) hKq; have N'q := news_upd kN hKq (by k_upd) hsq; clear hKq hsq; (try k_sweep); refine four_refs hvq ?_ ?_ ?_ ?_ <;> (intro hzq; subst hzq))))) | walk1 | (dsimp only; (with_reducible show wpAny _ _ _ _ _ _)) | (leave1; walk_say "STEP leave1"; try dsimp only) | fail "no step"))
  all_goals (try dsimp only)
  all_goals ((try k_unfold); (try dsimp only); (with_reducible rename Fr _ _ _ _ => kF); (with_reducible rename News _ _ _ _ => kN); refine' hret _ _ _ _ _ _ _ _ _ _ _ _ _ _ _ ?rg ?fr ?a ?b ?c ?kp ?e ?f; (case e => exact kN.get (by k_mem)); (case f => exact kN.get (by k_mem)); (case fr => exact fresh_of hg kN (by k_mem) (notin1 (by k_ne))); (case a => assumption); (case b => assumption); (case c => assumption); (case kp => exact (kp_ofS hg kF (List.forall_mem_singleton.mpr (.inl (.head _))))); (case rg => (simp only [List.mem_cons, List.not_mem_nil, or_false, forall_eq_or_imp, forall_eq]; (repeat' (first | exact bnd (by assumption) (by assumption) | exact bnd0 | exact bnd1 | refine And.intro ?_ ?_)))))
end
section
open PySem PySem.Spec PySem.Calls PySem.W PyProof.Rows
theorem rg_t {r f n : Int} (h : r = 0) (a : -32768 ≤ f) (b : f < 32768) (c : -32768 ≤ n) (d : n < 32768) : Rg (r == 0) f n := by subst h; exact ⟨⟨a, b⟩, c, d⟩
theorem rg_f {r f n : Int} (h : r ≠ 0) (a : 0 ≤ f) (b : f < 65536) (c : 0 ≤ n) (d : n < 65536) : Rg (r == 0) f n := by
  have e : (r == 0) = false := by simp [h]
  rw [e]
  exact ⟨⟨a, b⟩, c, d⟩
theorem part_ok2 : ∀ (w : World) (p : Program) (loose : List Str) (mean : ExcName → Option Value) (mg mb : Str → Option Value) (H₀ : Heap)
  (dp un : Nat) (gd : Option (List Code)) (l : List Env) (s : Shared) (Q E : Value → Shared → Prop) (src : Addr) (x y : Int) (t1 t2 : Tok) (n0 : Nat),
  Cx (Mine.hd.heap_1 w.params) p loose mean mg mb H₀ l s.heap → (Own H₀ l s.heap src (listOf #[.int x t1, .int y t2] n0)) → (0 ≤ x) → (0 ≤ y) → (y < 2147483647) →
  dp + 7 ≤ 400 → un + 60 ≤ 400 →
  (∀ (x0 dx sc : Addr) (e1 e2 e3 e4 e5 : Int) (k1 k2 k3 k4 k5 tg tf ts ta tb tc td : Tok) (gl f n : Int) (mv : Bool) (a b c d : Int) (x' y' : Int) (t1' t2' : Tok) h' tk', Rg mv f n → (∀ q ∈ [a, b, c, d], -32768 ≤ q ∧ q < 32768) → s.heap.get? x0 = none → s.heap.get? dx = none → s.heap.get? sc = none → @Ne Nat x0 dx → @Ne Nat x0 sc → @Ne Nat dx sc → 0 ≤ x' → 0 ≤ y' → y' < 2147483647 → Kp s.heap h' [src] → h'.get? src = some (listOf #[.int x' t1', .int y' t2'] n0) → h'.get? x0 = some (instObj 221 dx) → h'.get? dx = some (partDict e1 e2 e3 e4 e5 k1 k2 k3 k4 k5 tg tf ts gl f n mv sc) → h'.get? sc = some (tup [.int a ta, .int b tb, .int c tc, .int d td]) → Q (.ref x0) {s with heap := h', toks := tk'}) →
  wpAny (model PySem.Challenge.rw_on0238_01.row.prog w) (AA dp un gd l) (call (.ref 302) [.ref src]) Q E s := by
  k_fill
  w_top off
  intro w p loose mean mg mb H₀ dp un gd l s Q E src x y t1 t2 n0 C O hx hy hy2 hd hu hret
  refine wpAny_call ?_
  let oq0 : Obj := listOf #[.int x t1, .int y t2] n0; k_dflt (refine' enterK C [(src, oq0)] ?O ?kA ?k6 ?k7 ?k8 ?k9 ?kB ?_ ?c2 ?c3 ?c4 ?c5; (case O => exact List.forall_mem_singleton.mpr O); (case kA => exact rfl); (case k6 => k_is); (case k7 => k_is); (case k8 => ktr_room); (case k9 => exact BindsTo.of_eq rfl); (case c5 => decide); (case kB => exact locs rfl); (case c2 => exact rfl); (case c3 => exact rfl); (case c4 => exact rfl); k_whole; intro g L' h₁ hL hg F' N' B' X' T'; (try dsimp only); (try k_fold); (try (refine foldL ?_; intro eV aV)))
  (repeat' (first | (k_unfold; (try dsimp only)) | (k_end; wrow_close) | ((with_reducible show wpAny _ _ (call (Value.ref _) _) _ _ _); first | (with_reducible (k_here; k_dflt ( (with_reducible show wpAny _ _ (call (Value.ref 288) _) _ _ _); refine' one_ok _ _ _ _ _ _ _ _ _ _ _ _ _ _ _ _ _ _ _ _ _ _ _ ?C ?O ?Ot ?hne ?hvq ?hv2 ?hx ?hy ?hy2 ?hd ?hu ?_; (case C => exact Cx.next (by assumption) (by assumption) (by assumption) rfl rfl); (case O => exact own_of (by assumption) (by assumption) (by k_mem) rfl); (case Ot => exact own_of (by assumption) (by assumption) (by k_mem) rfl); (case hne => first | assumption | k_ne | omega); (case hvq => exact Nat.le_of_ble_eq_true rfl); (case hv2 => exact Nat.le_of_ble_eq_true rfl); (case hx => assumption); (case hy => assumption); (case hy2 => assumption); (case hd => ktr_room); (case hu => ktr_units); k_whole; intro vq x'q y'q t1q t2q h'q tk'q hvq hx'q hy'q hy2'q hKq hsq; (refine' Exists.elim (ints_in (lo := -32768) (hi := 32767) hvq ?hI9) ?_); (case hI9 => ((repeat (first | exact List.forall_mem_nil _ | (refine List.forall_mem_cons.mpr ⟨⟨_, _, rfl, by decide, by decide⟩, ?_⟩))); done)); intro zq hvq; (obtain ⟨tz, hz, hlo, hhi⟩ := hvq); subst hz; (with_reducible rename Fr _ _ _ _ => kF); (with_reducible rename News _ _ _ _ => kN); have F'q := fr_kp1 kF kN (by k_mem) hKq; have N'q := news_upd kN hKq (by k_upd) hsq; clear hKq hsq; (try k_sweep)))) | (with_reducible (k_here; k_dflt ( (with_reducible show wpAny _ _ (call (Value.ref 288) _) _ _ _); refine' one_ok _ _ _ _ _ _ _ _ _ _ _ _ _ _ _ _ _ _ _ _ _ _ _ ?C ?O ?Ot ?hne ?hvq ?hv2 ?hx ?hy ?hy2 ?hd ?hu ?_; (case C => exact Cx.next (by assumption) (by assumption) (by assumption) rfl rfl); (case O => exact own_of (by assumption) (by assumption) (by k_mem) rfl); (case Ot => exact own_of (by assumption) (by assumption) (by k_mem) rfl); (case hne => first | assumption | k_ne | omega); (case hvq => exact Nat.le_of_ble_eq_true rfl); (case hv2 => exact Nat.le_of_ble_eq_true rfl); (case hx => assumption); (case hy => assumption); (case hy2 => assumption); (case hd => ktr_room); (case hu => ktr_units); k_whole; intro vq x'q y'q t1q t2q h'q tk'q hvq hx'q hy'q hy2'q hKq hsq; (refine' Exists.elim (ints_in (lo := 0) (hi := 65535) hvq ?hI9) ?_); (case hI9 => ((repeat (first | exact List.forall_mem_nil _ | (refine List.forall_mem_cons.mpr ⟨⟨_, _, rfl, by decide, by decide⟩, ?_⟩))); done)); intro zq hvq; (obtain ⟨tz, hz, hlo, hhi⟩ := hvq); subst hz; (with_reducible rename Fr _ _ _ _ => kF); (with_reducible rename News _ _ _ _ => kN); have F'q := fr_kp1 kF kN (by k_mem) hKq; have N'q := news_upd kN hKq (by k_upd) hsq; clear hKq hsq; (try k_sweep)))) | (with_reducible (k_here; (with_reducible show wpAny _ _ (call (Value.ref 221) _) _ _ _); k_dflt (refine' mkPart _ _ _ _ _ _ _ _ _ _ _ _ _ _ _ _ _ _ _ _ _ _ ?C ?a ?b ?_; (case C => exact Cx.next (by assumption) (by assumption) (by assumption) rfl rfl); (case a => ktr_room); (case b => ktr_units); k_whole; unfold RetPart; intro xq dxq e1q e2q e3q e4q e5q k1q k2q k3q k4q k5q tgq tfq tsq h'q tk'q hKq hxq hdxq hxdq h1q h2q; (with_reducible rename Fr _ _ _ _ => kF); (with_reducible rename News _ _ _ _ => kN); have F'q := fr_kp0 kF hKq; have N'q := news_kp0 kN hKq; have N2q := news_new kF N'q hdxq h2q; have N3q := news_new kF N2q hxq h1q; have hne1q := neAll xq kN hxq; have hne2q := neAll dxq kN hdxq; clear N'q N2q hKq hxq hdxq h1q h2q; (try k_sweep)))) | (with_reducible (k_here; k_dflt ( (with_reducible show wpAny _ _ (call (Value.ref 295) _) _ _ _); refine' scale_ok _ _ _ _ _ _ _ _ _ _ _ _ _ _ _ _ _ _ _ _ ?C ?O ?hx ?hy ?hy2 ?hd ?hu ?_; (case C => exact Cx.next (by assumption) (by assumption) (by assumption) rfl rfl); (case O => exact own_of (by assumption) (by assumption) (by k_mem) rfl); (case hx => assumption); (case hy => assumption); (case hy2 => assumption); (case hd => ktr_room); (case hu => ktr_units); k_whole; intro rq aq bq cq dq taq tbq tcq tdq x'q y'q t1q t2q h'q tk'q hrgq hrnq hx'q hy'q hy2'q hKq hsq hrq; (with_reducible rename Fr _ _ _ _ => kF); (with_reducible rename News _ _ _ _ => kN); have F'q := fr_kp1 kF kN (by k_mem) hKq; have N'q := news_upd kN hKq (by k_upd) hsq; have N''q := news_new kF N'q hrnq hrq; have hneq := neAll rq kN hrnq; clear N'q hrnq hrq hKq hsq; (try k_sweep)))) | (with_reducible (k_here; k_dflt ( (with_reducible show wpAny _ _ (call (Value.ref 281) _) _ _ _); refine' take_ok _ _ _ _ _ _ _ _ _ _ _ _ _ _ _ _ _ _ _ _ _ _ ?C ?O ?hx ?hy ?hy2 ?ht ?ht2 ?hd ?hu ?_; (case C => exact Cx.next (by assumption) (by assumption) (by assumption) rfl rfl); (case O => exact own_of (by assumption) (by assumption) (by k_mem) rfl); (case hx => assumption); (case hy => assumption); (case hy2 => assumption); (case ht => first | decide | omega | (push_cast; omega)); (case ht2 => first | decide | omega); (case hd => ktr_room); (case hu => ktr_units); k_whole; intro rq x'q y'q tq t1q t2q h'q tk'q hr0q hr1q hx'q hy'q hy2'q hKq hsq; (with_reducible rename Fr _ _ _ _ => kF); (with_reducible rename News _ _ _ _ => kN); have F'q := fr_kp1 kF kN (by k_mem) hKq; have N'q := news_upd kN hKq (by k_upd) hsq; clear hKq hsq; (try k_sweep))))) | walk1 | (dsimp only; (with_reducible show wpAny _ _ _ _ _ _)) | (leave1; walk_say "STEP leave1"; try dsimp only) | fail "no step"))
  all_goals (try dsimp only)
  all_goals ((try k_unfold); (try dsimp only); (with_reducible rename Fr _ _ _ _ => kF); (with_reducible rename News _ _ _ _ => kN); refine' hret _ _ _ _ _ _ _ _ _ _ _ _ _ _ _ _ _ _ _ _ _ _ _ _ _ _ _ _ _ _ _ _ _ _ ?rg ?rs ?fx ?fd ?fs ?n1 ?n2 ?n3 ?a ?b ?c ?kp ?e ?f1 ?f2 ?f3; (case e => exact kN.get (by k_mem)); (case f1 => exact kN.get (by k_mem)); (case f2 => exact kN.get (by k_mem)); (case f3 => exact kN.get (by k_mem)); (case fx => exact fresh_of hg kN (by k_mem) (notin1 (by k_ne))); (case fd => exact fresh_of hg kN (by k_mem) (notin1 (by k_ne))); (case fs => exact fresh_of hg kN (by k_mem) (notin1 (by k_ne))); (case n1 => first | assumption | k_ne); (case n2 => first | assumption | k_ne); (case n3 => first | assumption | k_ne); (case a => assumption); (case b => assumption); (case c => assumption); (case kp => exact (kp_ofS hg kF (List.forall_mem_singleton.mpr (.inl (.head _))))); (case rs => assumption); (case rg => first | exact rg_t (by assumption) (by first | with_reducible assumption | exact Int.lt_of_le_of_lt (by with_reducible assumption) (by decide) | omega) (by first | with_reducible assumption | exact Int.lt_of_le_of_lt (by with_reducible assumption) (by decide) | omega) (by first | with_reducible assumption | exact Int.lt_of_le_of_lt (by with_reducible assumption) (by decide) | omega) (by first | with_reducible assumption | exact Int.lt_of_le_of_lt (by with_reducible assumption) (by decide) | omega) | exact rg_f (by assumption) (by first | with_reducible assumption | exact Int.lt_of_le_of_lt (by with_reducible assumption) (by decide) | omega) (by first | with_reducible assumption | exact Int.lt_of_le_of_lt (by with_reducible assumption) (by decide) | omega) (by first | with_reducible assumption | exact Int.lt_of_le_of_lt (by with_reducible assumption) (by decide) | omega) (by first | with_reducible assumption | exact Int.lt_of_le_of_lt (by with_reducible assumption) (by decide) | omega)))
end
section
open PySem PySem.Spec PySem.Calls PySem.W PyProof.Rows PyProof.Rows.LCg
section
variable {prog : Program} {w : World} {A : Around} {E : Value → Shared → Prop} {env : Env} {α β : Type}
/-- what a comprehension's source and element are to show, once the source's value is known -/
def CompOkA (prog : Program) (w : World) (A : Around) (target elt : Expr) (scope : Scope) (cl : List (Str × Addr)) (env : Env) (L : Addr) (yn : Str) (Q : Flow → Shared → Prop) (vs : List Value) (s₁ : Shared) : Prop :=
  vs.length ≤ 400 ∧ ∃ G : Nat → Value → Heap → Prop,
    (∀ C D I j v (s₃ : Shared) oC oI m₃ ys (E' : Value → Shared → Prop), vs[j]? = some v → s₁.heap.objs.size ≤ I → I < D → D < C → s₃.heap.get? C = some oC → NsObj oC m₃ → s₃.heap.get? D = some (lst ys) → s₃.heap.get? I = some oI → Kp s₁.heap s₃.heap [L] → (∀ m, s₁.heap.Ns L m → s₃.heap.Ns L m) → (∃ h tk, s₃ = { s₁ with heap := h, toks := tk }) →
      wpAny (model prog w) A (assign target (compEnvC scope cl C env) v) (fun _ s₄ => wpAny (model prog w) A (eval elt (compEnvC scope cl C env)) (TurnOk s₁ C I D L s₃.heap (G j)) E' s₄) E' s₃) ∧
    ∀ D ys h' tk, s₁.heap.get? D = none → Kp s₁.heap h' [L] → (∀ m, s₁.heap.Ns L m → h'.Ns L (fun z => if z = yn then some (.ref D) else m z)) → h'.get? D = some (lst ys) → ys.length = vs.length → (∀ j y, ys[j]? = some y → G j y h') → Q .next { s₁ with heap := h', toks := tk }

def SrcOkA (prog : Program) (w : World) (A : Around) (target elt : Expr) (scope : Scope) (cl : List (Str × Addr)) (env : Env) (L : Addr) (yn : Str) (Q : Flow → Shared → Prop) (xv : Value) (s₁ : Shared) : Prop :=
  ∃ ax vs m, s₁.heap.Ns L m ∧ xv = .ref ax ∧ (s₁.heap.IsList ax vs.toArray ∨ s₁.heap.IsTuple ax vs.toArray) ∧ CompOkA prog w A target elt scope cl env L yn Q vs s₁
theorem comp_okA {target elt iter : Expr} {scope : Scope} {cl : List (Str × Addr)} {pos spos py : Pos} {yn : Str} {s : Shared} {Q : Flow → Shared → Prop} (LR : LoopRule prog w A target elt iter scope pos) (hh : A.handled = none)
    (hsw : swapsWith (.ListComp elt [⟨target, iter, [], 0⟩] scope pos) (some (.Name yn py)) spos.line env = pure true)
    (hclos : closureFor scope env = pure cl) (hcell : ∀ y ∈ scope.names, y.2 ≠ .cell) (hkind : scope.kind = .function) (hnames : ∀ y ∈ scope.names, y.2 = .local → scope.names.lookup y.1 = some .local) (L : Addr) (hLe : env.locals = L) (hy : env.kindOf yn = some .local) (hp : (env.scope.kind == .class || (env.scope.kind == .module && env.locals != env.globals)) = false)
    (h : wpAny (model prog w) A (eval iter env) (SrcOkA prog w A target elt scope cl env L yn Q) E s)
    (hs : ∀ x, foldedSetIterable iter env x = pure x := by intro _; rfl) :
    wpAny (model prog w) A (exec (.Assign [.Name yn py] (.ListComp elt [⟨target, iter, [], 0⟩] scope pos) spos) env) Q E s := by
  rw [exec_Assign_Name_used _ _ _ _ hsw]
  refine wpAny_bind (wpAny_standAt (wpAny_bind ?_))
  show wpAny _ A (do let _ ← comprehension (.ListComp elt [⟨target, iter, [], 0⟩] scope pos) scope env _ (newList []) false (eval iter env) (some (assign (.Name yn py) env))) _ _ s
  refine wpAny_bind (wpAny_mono (wpAny_comprehension_free (use := some (assign (.Name yn py) env)) (Q := fun _ s' => Q .next s') rfl hs hclos hkind hnames (wpAny_mono h (fun xv s₁ h₁ => ?_) fun _ _ e => e)) (fun _ s' hq => wpAny_pure (wpAny_pure hq)) fun _ _ e => e)
  obtain ⟨ax, vs, mL, hnL, rfl, hl, hlen, G, turn, fin⟩ := h₁
  have hLlt : L < s₁.heap.objs.size := hnL.lt
  have hsz : vs.toArray.size ≤ sizeLine := by rw [List.size_toArray, sizeLine_eq]; omega
  have key : ∀ (it : Obj) (St : Nat → Heap → Prop), St 0 (s₁.heap.push it) → it.isFreed = false → ax < s₁.heap.objs.size → L ≠ ax → (∀ i h, St i h → ∃ o, h.get? s₁.heap.objs.size = some o) →
      Walks prog w A s₁.heap.objs.size [s₁.heap.objs.size, ax] [s₁.heap.objs.size] vs.toArray.size (fun i v => vs.toArray[i]? = some v) St →
      (∀ i v (s' : Shared) (Q' : Unit → Shared → Prop) (E' : Value → Shared → Prop), St i s'.heap → Q' () s' → wpAny (model prog w) A (letOwnedTupleGo target (.ref s₁.heap.objs.size) v) Q' E' s') →
      wpAny (model prog w) A (newList []) (fun acc s₃ => wpAny (model prog w) A (newFunctionEnv scope env.globals cl [] env.qual none .none (some env)) (fun cenv s₄ =>
        codeAny (model prog w) A (.compStart (.ListComp elt [⟨target, iter, [], 0⟩] scope pos) 0 (.ref s₁.heap.objs.size) acc { cenv with scope := relabel scope env }) (compPost (model prog w) A E (some (assign (.Name yn py) env)) (fun _ s' => Q .next s') acc cenv.locals) s₄) E s₃) E { s₁ with heap := s₁.heap.push it } := by
    intro it St hst hfr hlt hLax hIo W hgo
    refine comp_blk LR W hsz hgo hcell hkind hst (fun b hb => ?_) L (by show L < (s₁.heap.push it).objs.size; rw [Heap.size_push]; exact Nat.lt_succ_of_lt hLlt) (by simp only [List.mem_cons, List.not_mem_nil, or_false, not_or]; exact ⟨Nat.ne_of_lt hLlt, hLax⟩) (fun j _ y h => G j y h) (fun C D i v s₃ m₃ ys E' hi hP hD hDC hn hDl hSt hk hkL hs₃ => ?_) (fun D C h' tk m' ys hD hDC hn hDl hlen' hG hk hkL => ?_)
    · show b < (s₁.heap.push it).objs.size
      rw [Heap.size_push]
      rcases List.mem_cons.mp hb with rfl | hb
      · exact Nat.lt_succ_self _
      · rw [List.mem_singleton.mp hb]; exact Nat.lt_succ_of_lt hlt
    · have hD' : s₁.heap.objs.size < D := Nat.lt_of_lt_of_le (by rw [Heap.size_push]; exact Nat.lt_succ_self _) hD
      obtain ⟨oC, eC, hoC⟩ := ns_obj hn
      obtain ⟨oI, eI⟩ := hIo _ _ hSt
      exact turn C D s₁.heap.objs.size i v s₃ oC oI m₃ ys E' (by simpa using hP) (Nat.le_refl _) hD' hDC eC hoC hDl eI (fun b o e hb => hk b o (Nat.ne_of_lt (Heap.lt_size e)) (fun q => hb (List.mem_singleton.mpr q)) (Heap.get?_push_of_some _ e)) (fun m hm => hkL m (hm.keeps fun b o e => Heap.get?_push_of_some _ e)) hs₃
    · have hD' : s₁.heap.objs.size < D := Nat.lt_of_lt_of_le (by rw [Heap.size_push]; exact Nat.lt_succ_self _) hD
      have hC' : s₁.heap.objs.size < C := Nat.lt_trans hD' hDC
      show wpAny _ A (assign (.Name yn py) env (.ref D)) _ _ _
      have hCL : C ≠ L := Ne.symm (Nat.ne_of_lt (Nat.lt_trans hLlt hC'))
      have hDL : D ≠ L := Ne.symm (Nat.ne_of_lt (Nat.lt_trans hLlt hD'))
      have hnL' : h'.Ns env.locals mL := by rw [hLe]; exact hkL mL (hnL.keeps fun b o e => Heap.get?_push_of_some _ e)
      refine wpAny_assign_Name (wpAny_storeName_local hy hnL' (fun h₂ hn₂ hs₂ => ?_) hp)
      rw [hLe] at hn₂ hs₂
      refine ⟨m', hn.sameBut hs₂ hCL, fun h'' hs'' => ?_⟩
      have up : ∀ b o, b ≠ C → b ≠ L → h'.get? b = some o → h''.get? b = some o := fun b o hb hbL e => hs''.extBut b o hb (hs₂.extBut b o hbL e)
      refine fin D ys h'' _ (Heap.get?_none_of_le (Nat.le_of_lt hD')) (fun b o e hb => up b o (Nat.ne_of_lt (Nat.lt_trans (Heap.lt_size e) hC')) (fun q => hb (List.mem_singleton.mpr q)) (hk b o (Nat.ne_of_lt (Heap.lt_size e)) (fun q => hb (List.mem_singleton.mpr q)) (Heap.get?_push_of_some _ e))) (fun m hm => ?_) (up D _ (Nat.ne_of_lt hDC) hDL hDl) (by rw [hlen', List.size_toArray]) (fun j y hy => ?_)
      · rw [show m = mL from ns_unique hnL hm]
        exact hn₂.sameBut hs'' (Ne.symm hCL)
      · obtain ⟨v, y', hP, hy', hG'⟩ := hG j (by rw [← hlen']; exact (List.getElem?_eq_some_iff.mp hy).1)
        rw [hy] at hy'
        cases hy'
        exact hG' h'' fun b o b1 _ _ b4 e => up b o b1 b4 e
  have hne : ∀ (its : Array Value) (k : Nat) (o : Obj), s₁.heap.get? ax = some o → o.data = .seq its k → L ≠ ax := fun its k o e d q => by
    obtain ⟨o', es, ep, e', d', _⟩ := hnL
    rw [q, e] at e'
    cases e'
    rw [d] at d'
    cases d'
  rcases hl with hl | hl
  · have hlt : ax < s₁.heap.objs.size := by obtain ⟨_, e, _⟩ := hl; exact Heap.lt_size e
    refine wpAny_pyIter_list hl (key _ (fun i h => h.IsListIter s₁.heap.objs.size ax i ∧ h.IsList ax vs.toArray) ⟨⟨_, Heap.get?_push_size _ rfl, rfl, rfl⟩, hl.push _⟩ rfl hlt (by obtain ⟨o, e, _, k, d⟩ := hl; exact hne _ _ o e d) (fun i h st => by obtain ⟨o, e, _⟩ := st.1; exact ⟨o, e⟩) (Walks.list hh _ ax (Nat.ne_of_lt hlt) _) ?_)
    exact fun i v s' Q' E' st q => letGo_listiter st.1 q
  · have hlt : ax < s₁.heap.objs.size := by obtain ⟨_, e, _⟩ := hl; exact Heap.lt_size e
    refine wpAny_pyIter_tuple hl (key _ (fun i h => h.IsTupleIter s₁.heap.objs.size ax i ∧ h.IsTuple ax vs.toArray) ⟨⟨_, Heap.get?_push_size _ rfl, rfl, rfl⟩, hl.at fun o e => Heap.get?_push_of_some _ e⟩ rfl hlt (by obtain ⟨o, e, _, k, d⟩ := hl; exact hne _ _ o e d) (fun i h st => by obtain ⟨o, e, _⟩ := st.1; exact ⟨o, e⟩) (Walks.tuple hh _ ax (Nat.ne_of_lt hlt) _) ?_)
    exact fun i v s' Q' E' st q => letGo_tupleiter st.1 q

def MapFinA (L : Addr) (Eo : (Addr → Obj → Prop) → Value → β → Prop) (f : α → β) (yn : Str) (Q : Flow → Shared → Prop) (xs : List α) (s₁ : Shared) : Prop :=
  ∀ D h' tk, s₁.heap.get? D = none → Kp s₁.heap h' [L] → (∀ m, s₁.heap.Ns L m → h'.Ns L (fun z => if z = yn then some (.ref D) else m z)) → LAt (NM s₁.heap h') (Eo (NM s₁.heap h')) (.ref D) (xs.map f) → Q .next { s₁ with heap := h', toks := tk }
def MapSrcA (prog : Program) (w : World) (A : Around) (target elt : Expr) (scope : Scope) (cl : List (Str × Addr)) (env : Env) (L : Addr) (Ei : (Addr → Obj → Prop) → Value → α → Prop) (Eo : (Addr → Obj → Prop) → Value → β → Prop) (yn : Str) (Q : Flow → Shared → Prop) (xv : Value) (s₁ : Shared) : Prop :=
  ∃ (f : α → β), ∃ M xs m, s₁.heap.Ns L m ∧ LAt M (Ei M) xv xs ∧ (∀ c o, M c o → s₁.heap.get? c = some o ∧ c ≠ L) ∧ xs.length ≤ 400 ∧ MapTurn prog w A target elt scope cl env L Ei Eo f M xs s₁ ∧ MapFinA L Eo f yn Q xs s₁

theorem comp_mapA {target elt iter : Expr} {scope : Scope} {cl : List (Str × Addr)} {pos spos py : Pos} {yn : Str} {s : Shared} {Q : Flow → Shared → Prop} {Ei : (Addr → Obj → Prop) → Value → α → Prop} {Eo : (Addr → Obj → Prop) → Value → β → Prop}
    (mono : ∀ {M M' : Addr → Obj → Prop} {v : Value} {x : β}, (∀ c o, M c o → M' c o) → Eo M v x → Eo M' v x)
    (LR : LoopRule prog w A target elt iter scope pos) (hh : A.handled = none)
    (hsw : swapsWith (.ListComp elt [⟨target, iter, [], 0⟩] scope pos) (some (.Name yn py)) spos.line env = pure true)
    (hclos : closureFor scope env = pure cl) (hcell : ∀ y ∈ scope.names, y.2 ≠ .cell) (hkind : scope.kind = .function) (hnames : ∀ y ∈ scope.names, y.2 = .local → scope.names.lookup y.1 = some .local) (L : Addr) (hLe : env.locals = L) (hy : env.kindOf yn = some .local) (hp : (env.scope.kind == .class || (env.scope.kind == .module && env.locals != env.globals)) = false)
    (h : wpAny (model prog w) A (eval iter env) (MapSrcA prog w A target elt scope cl env L Ei Eo yn Q) E s)
    (hs : ∀ x, foldedSetIterable iter env x = pure x := by intro _; rfl) :
    wpAny (model prog w) A (exec (.Assign [.Name yn py] (.ListComp elt [⟨target, iter, [], 0⟩] scope pos) spos) env) Q E s := by
  refine comp_okA LR hh hsw hclos hcell hkind hnames L hLe hy hp (wpAny_mono h (fun xv s₁ h₁ => ?_) fun _ _ e => e) hs
  obtain ⟨f, M, xs, m, hn, ⟨ax, vs, n, rfl, hm, a2⟩, hM, hlen, turn, fin⟩ := h₁
  have nsL : ∀ {h : Heap}, (∀ m, s₁.heap.Ns L m → h.Ns L m) → h.get? L ≠ none := fun k q => by obtain ⟨o, _, _, e, _⟩ := k m hn; rw [q] at e; cases e
  refine ⟨ax, vs, m, hn, rfl, .inl ⟨_, (hM _ _ hm).1, rfl, _, rfl⟩, by rw [a2.1]; exact hlen, fun j y h => ∃ x, xs[j]? = some x ∧ Eo (NM s₁.heap h) y (f x), ?_, ?_⟩
  · intro C D I j v s₃ oC oI m₃ ys E' hv hI hID hDC eC hoC hD eI hk hkL hs₃
    obtain ⟨x, hx, hE⟩ := a2.2 j v hv
    have hC : s₁.heap.objs.size ≤ C := Nat.le_of_lt (Nat.lt_of_le_of_lt hI (Nat.lt_trans hID hDC))
    refine wpAny_mono (turn C v x s₃ oC m₃ E' (List.mem_of_getElem? hx) hE (fun c o hc => ⟨hk c o (hM c o hc).1 fun q => (hM c o hc).2 (List.mem_singleton.mp q), (hM c o hc).2, Nat.ne_of_lt (Nat.lt_of_lt_of_le (Heap.lt_size (hM c o hc).1) hC)⟩) eC hoC hC hk hkL hs₃)
      (fun _ s₄ h₄ => wpAny_mono h₄ (fun y s₅ h₅ => ?_) fun _ _ e => e) fun _ _ e => e
    obtain ⟨h', tk, rfl, hns, hkp, hL', hEo⟩ := h₅
    refine ⟨h', tk, rfl, hns, hkp, hL', fun h'' hh'' => ⟨x, hx, mono (fun c o ⟨hc1, hc2⟩ => ⟨hh'' c o (fun q => ?_) (fun q => ?_) (fun q => ?_) (fun q => ?_) hc1, ?_⟩) hEo⟩⟩
    · rw [q, eC] at hc2; cases hc2
    · rw [q, eI] at hc2; cases hc2
    · rw [q, hD] at hc2; cases hc2
    · rw [q] at hc2; exact nsL hkL hc2
    · cases q : s₁.heap.get? c with
      | none => rfl
      | some o' =>
        by_cases hcL : c = L
        · rw [hcL] at hc2; exact absurd hc2 (nsL hkL)
        · have := hk c o' q fun z => hcL (List.mem_singleton.mp z)
          rw [hc2] at this; cases this
  · intro D ys h' tk hD hk hkL hDl hyl hG
    refine fin D h' tk hD hk hkL ⟨D, ys, ys.length, rfl, ⟨hDl, hD⟩, by rw [List.length_map, hyl, a2.1], fun j y hy => ?_⟩
    obtain ⟨x, hx, hE⟩ := hG j y hy
    exact ⟨f x, by rw [List.getElem?_map, hx]; rfl, hE⟩

def NestTurnM (prog : Program) (w : World) (A : Around) (target elt : Expr) (scope1 scope2 : Scope) (cl1 cl2 : List (Str × Addr)) (env : Env) (L : Addr) (f : Pt → Pt) (M : Addr → Obj → Prop) (s₁ : Shared) : Prop :=
  ∀ C1 C v (x : Pt) (s₃ : Shared) oC m₃ (E' : Value → Shared → Prop), PtAt M v x → (∀ c o, M c o → s₃.heap.get? c = some o ∧ c ≠ L ∧ c ≠ C) → s₃.heap.get? C = some oC → NsObj oC m₃ → s₁.heap.objs.size ≤ C → Kp s₁.heap s₃.heap [L] → (∀ m, s₁.heap.Ns L m → s₃.heap.Ns L m) → (∃ h tk, s₃ = { s₁ with heap := h, toks := tk }) →
    wpAny (model prog w) A (assign target (compEnvC scope2 cl2 C (compEnvC scope1 cl1 C1 env)) v) (fun _ s₄ => wpAny (model prog w) A (eval elt (compEnvC scope2 cl2 C (compEnvC scope1 cl1 C1 env))) (MapEnd s₁ s₃ C L PtAt (f x)) E' s₄) E' s₃
def NestSrcA (prog : Program) (w : World) (A : Around) (target elt : Expr) (scope1 scope2 : Scope) (cl1 cl2 : List (Str × Addr)) (env : Env) (L : Addr) (yn : Str) (Q : Flow → Shared → Prop) (xv : Value) (s₁ : Shared) : Prop :=
  ∃ (f : Pt → Pt), ∃ M rows m, s₁.heap.Ns L m ∧ RowsAt M xv rows ∧ (∀ c o, M c o → s₁.heap.get? c = some o ∧ c ≠ L) ∧ rows.length ≤ 400 ∧ (∀ r ∈ rows, r.length ≤ 400) ∧ NestTurnM prog w A target elt scope1 scope2 cl1 cl2 env L f M s₁ ∧
    ∀ D h' tk, s₁.heap.get? D = none → Kp s₁.heap h' [L] → (∀ m, s₁.heap.Ns L m → h'.Ns L (fun z => if z = yn then some (.ref D) else m z)) → RowsAt (NM s₁.heap h') (.ref D) (rows.map (List.map f)) → Q .next { s₁ with heap := h', toks := tk }
theorem comp_nestA {target elt iter : Expr} {xn : Str} {px px2 : Pos} {scope1 scope2 : Scope} {cl1 cl2 : List (Str × Addr)} {pos pos2 spos py : Pos} {yn : Str} {s : Shared} {Q : Flow → Shared → Prop}
    (LR2 : ∀ A, LoopRule prog w A target elt (.Name xn px2) scope2 pos2) (hh : A.handled = none)
    (hsw : swapsWith (.ListComp (.ListComp elt [⟨target, .Name xn px2, [], 0⟩] scope2 pos2) [⟨.Name xn px, iter, [], 0⟩] scope1 pos) (some (.Name yn py)) spos.line env = pure true)
    (hclos : closureFor scope1 env = pure cl1) (hcell : ∀ y ∈ scope1.names, y.2 ≠ .cell) (hkind : scope1.kind = .function) (hnames : ∀ y ∈ scope1.names, y.2 = .local → scope1.names.lookup y.1 = some .local)
    (hclos2 : ∀ C, closureFor scope2 (compEnvC scope1 cl1 C env) = pure cl2) (hcell2 : ∀ y ∈ scope2.names, y.2 ≠ .cell) (hkind2 : scope2.kind = .function) (hnames2 : ∀ y ∈ scope2.names, y.2 = .local → scope2.names.lookup y.1 = some .local)
    (hxn : scope1.names.lookup xn = some .local) (hdb : (xn == ("__debug__" : Str)) = false) (L : Addr) (hLe : env.locals = L) (hy : env.kindOf yn = some .local) (hp : (env.scope.kind == .class || (env.scope.kind == .module && env.locals != env.globals)) = false)
    (h : wpAny (model prog w) A (eval iter env) (NestSrcA prog w A target elt scope1 scope2 cl1 cl2 env L yn Q) E s)
    (hs : ∀ x, foldedSetIterable iter env x = pure x := by intro _; rfl) :
    wpAny (model prog w) A (exec (.Assign [.Name yn py] (.ListComp (.ListComp elt [⟨target, .Name xn px2, [], 0⟩] scope2 pos2) [⟨.Name xn px, iter, [], 0⟩] scope1 pos) spos) env) Q E s := by
  refine comp_mapA (Ei := RowAt) (Eo := RowAt) RowAt.mono rule_name hh hsw hclos hcell hkind hnames L hLe hy hp (wpAny_mono h (fun xv s₁ h₁ => ?_) fun _ _ e => e) hs
  obtain ⟨f, M, rows, m, hn, hR, hM, hl1, hl2, turn, fin⟩ := h₁
  refine ⟨List.map f, M, rows, m, hn, hR, hM, hl1, ?_, fin⟩
  intro C v r s₃ oC m₃ E' hr hE hM3 eC hoC hC hk hkL hs₃
  obtain ⟨h3, tk3, rfl⟩ := hs₃
  have nsL : ∀ {h : Heap}, (∀ m, s₁.heap.Ns L m → h.Ns L m) → h.get? L ≠ none := fun k q => by obtain ⟨o, _, _, e, _⟩ := k m hn; rw [q] at e; cases e
  have hLC : L ≠ C := Nat.ne_of_lt (Nat.lt_of_lt_of_le hn.lt hC)
  refine assign1 hxn hkind eC hoC fun h4 tk4 oC4 m4 eC4 hoC4 hx4 hk4 => ?_
  have kl4 : ∀ m, s₁.heap.Ns L m → h4.Ns L m := fun m q => (hkL m q).at' fun o e => hk4 L o hLC e
  have k14 : Kp s₁.heap h4 [L] := fun b o e hb => hk4 b o (Nat.ne_of_lt (Nat.lt_of_lt_of_le (Heap.lt_size e) hC)) (hk b o e hb)
  refine comp_map (Ei := PtAt) (Eo := PtAt) PtAt.mono (LR2 _) hh (hclos2 C) hcell2 hkind2 hnames2 L ?_
  refine wpAny_Name (wpAny_loadName_local (m := m4) hkind (lookup_relabel_local hxn) (hoC4.ns eC4) hx4 ?_) hdb
  refine ⟨f, M, r, m, kl4 m hn, hE, fun c o hc => ⟨hk4 c o (hM3 c o hc).2.2 (hM3 c o hc).1, (hM3 c o hc).2.1⟩, hl2 r hr, ?_, ?_⟩
  · intro C2 v2 x s5 oC2 m5 E2 hx hE2 hM5 eC2 hoC2 hC2 hk5 hkL5 hs5
    have k15 : Kp s₁.heap s5.heap [L] := k14.trans hk5
    have hsz : s₁.heap.objs.size ≤ C2 := by
      refine Nat.le_trans ?_ hC2
      rcases Nat.lt_or_ge h4.objs.size s₁.heap.objs.size with q | q
      · exact absurd (Heap.lt_size eC4) (Nat.not_lt.mpr (Nat.le_trans (Nat.le_of_lt q) hC))
      · exact q
    obtain ⟨h5, tk5, rfl⟩ := hs5
    refine wpAny_mono (turn C C2 v2 x _ oC2 m5 E2 hE2 hM5 eC2 hoC2 hsz k15 (fun m q => hkL5 m (kl4 m q)) ⟨_, _, rfl⟩) (fun _ s6 h6 => wpAny_mono h6 (fun y s7 h7 => ?_) fun _ _ e => e) fun _ _ e => e
    obtain ⟨h', tk, rfl, z⟩ := h7
    exact ⟨h', tk, rfl, z⟩
  · intro D h' tk hD hk' hkL' hRow
    have eC' : h'.get? C = some oC4 := hk' C oC4 eC4 fun q => hLC (List.mem_singleton.mp q).symm
    refine ⟨h', tk, rfl, ⟨m4, hoC4.ns eC'⟩, fun b o hb hbL e => hk' b o (hk4 b o hb e) fun q => hbL (List.mem_singleton.mp q), fun m' q => hkL' m' (q.at' fun o e => hk4 L o hLC e), RowAt.mono (fun c o hc => ⟨hc.1, ?_⟩) hRow⟩
    cases q : h3.get? c with
    | none => rfl
    | some o' =>
      by_cases hcC : c = C
      · have := hc.2; rw [hcC] at this; rw [show h4.get? C = none from this] at eC4; cases eC4
      · have := hk4 c o' hcC q
        rw [show h4.get? c = none from hc.2] at this; cases this
end
end
section
open PySem PySem.Spec PySem.Calls PySem.W PyProof.Rows
local macro_rules | `(tactic| mul_fits) => `(tactic| first | exact mul16 (by assumption) | exact IntMulOk.of_left (intBits_le_64 (by decide) (by decide)))
theorem led_at {h : Heap} {r : Addr} {a b c d : Int} {q : Pt} {u1 u2 : Tok} (e : h.get? r = some (tup [.int ((2 * (a * q.1 + c * q.2.1) + 16384).fdiv (2 * 16384)) u1, .int ((2 * (b * q.1 + d * q.2.1) + 16384).fdiv (2 * 16384)) u2, .bool q.2.2])) : h.get? r = some (ptObj (trPt a b c d q) u1 u2) := by
  rw [e]
  show _ = some (tup [.int ((a * q.1 + c * q.2.1 + 8192).fdiv 16384) u1, .int ((b * q.1 + d * q.2.1 + 8192).fdiv 16384) u2, .bool q.2.2])
  rw [round_led, round_led]
  rfl
theorem led_ok : ∀ (w : World) (p : Program) (loose : List Str) (mean : ExcName → Option Value) (mg mb : Str → Option Value) (H₀ : Heap)
  (dp un : Nat) (gd : Option (List Code)) (l : List Env) (s : Shared) (Q E : Value → Shared → Prop) (ts pc : Addr) (a b c d : Int) (ta tb tc td t1 t2 : Tok) (q : Pt),
  Cx (Mine.hd.heap_1 w.params) p loose mean mg mb H₀ l s.heap → (Own H₀ l s.heap ts (tup [.int a ta, .int b tb, .int c tc, .int d td])) → (Own H₀ l s.heap pc (ptObj q t1 t2)) → (-32768 ≤ a ∧ a < 32768) → (-32768 ≤ b ∧ b < 32768) → (-32768 ≤ c ∧ c < 32768) → (-32768 ≤ d ∧ d < 32768) →
  dp + 2 ≤ 400 → un + 16 ≤ 400 →
  (∀ r u1 u2 h' tk', s.heap.get? r = none → Kp s.heap h' [] → h'.get? r = some (ptObj (trPt a b c d q) u1 u2) → Q (.ref r) {s with heap := h', toks := tk'}) →
  wpAny (model PySem.Challenge.rw_on0238_01.row.prog w) (AA dp un gd l) (call (.ref 347) [.ref ts, .ref pc]) Q E s := by
  k_fill
  w_top off
  intro w p loose mean mg mb H₀ dp un gd l s Q E ts pc a b c d ta tb tc td t1 t2 q C Ot Op ha hb hc hdd hd hu hret
  refine wpAny_call ?_
  let oq0 : Obj := tup [.int a ta, .int b tb, .int c tc, .int d td]; k_dflt (refine' enterK C [(ts, oq0), (pc, ptObj q t1 t2)] ?O ?kA ?k6 ?k7 ?k8 ?k9 ?kB ?_ ?c2 ?c3 ?c4 ?c5; (case O => exact (acons (Ot) (List.forall_mem_singleton.mpr Op))); (case kA => exact rfl); (case k6 => k_is); (case k7 => k_is); (case k8 => ktr_room); (case k9 => exact BindsTo.of_eq rfl); (case c5 => decide); (case kB => exact locs rfl); (case c2 => exact rfl); (case c3 => exact rfl); (case c4 => exact rfl); k_whole; intro g L' h₁ hL hg F' N' B' X' T'; (try dsimp only); (try k_fold); (try (refine foldL ?_; intro eV aV)))
  k_steps
  (try k_unfold); (try dsimp only)
  (with_reducible rename Fr _ _ _ _ => kF); (with_reducible rename News _ _ _ _ => kN)
  exact hret _ _ _ _ _ (fresh_of hg kN (.head _) (neAll_notin ⟨by k_ne, by k_ne, trivial⟩)) (kp_ofS hg kF ((acons (.inr ⟨Ot.1, kN.get (by k_mem)⟩) (List.forall_mem_singleton.mpr (.inr ⟨Op.1, kN.get (by k_mem)⟩))))) (led_at (kN.get (.head _)))
end
section
open PySem PySem.Spec PySem.Calls PySem.W PyProof.Rows
theorem placed_x : ∀ (w : World) (p : Program) (loose : List Str) (mean : ExcName → Option Value) (mg mb : Str → Option Value) (H₀ : Heap)
  (dp un : Nat) (gd : Option (List Code)) (l : List Env) (s : Shared) (Q E : Value → Shared → Prop) (x dx sc ci co : Addr) (ri ro : List (List Pt)) (cods : List (Addr × Obj)) (e1 e2 e3 e4 e5 : Int) (k1 k2 k3 k4 k5 tg tf ts ta tb tc td : Tok) (gl f n : Int) (a b c d : Int),
  Cx (Mine.hd.heap_1 w.params) p loose mean mg mb H₀ l s.heap → (Own H₀ l s.heap x (instObj 221 dx)) → (Own H₀ l s.heap dx (partDict e1 e2 e3 e4 e5 k1 k2 k3 k4 k5 tg tf ts gl f n false sc)) → (Own H₀ l s.heap sc (tup [.int a ta, .int b tb, .int c tc, .int d td])) → (∀ q ∈ cods, Own H₀ l s.heap q.1 q.2) → (RowsAt (fun c o => (c, o) ∈ cods) (.ref ci) ri) → (RowsAt (fun c o => (c, o) ∈ cods) (.ref co) ro) → (Sm ri) → (Sm ro) → (-32768 ≤ a ∧ a < 32768) → (-32768 ≤ b ∧ b < 32768) → (-32768 ≤ c ∧ c < 32768) → (-32768 ≤ d ∧ d < 32768) → (0 ≤ f) → (0 ≤ n) → (((ro.flatten.length : Nat) : Int) ≤ f ∨ (f < ((ro.flatten.length : Nat) : Int) ∧ (((ri.map (List.map (trPt a b c d))).flatten.length : Nat) : Int) ≤ n)) →
  dp + 14 ≤ 400 → un + 100 ≤ 400 →
  (∀ e h' tk', Thrown l s.heap h' [] e → E (.ref e) {s with heap := h', toks := tk'}) →
  wpAny (model PySem.Challenge.rw_on0238_01.row.prog w) (AA dp un gd l) (call (.ref 253) [.ref x, .ref ci, .ref co]) Q E s := by
  k_fill
  w_top off
  intro w p loose mean mg mb H₀ dp un gd l s Q E x dx sc ci co ri ro cods e1 e2 e3 e4 e5 k1 k2 k3 k4 k5 tg tf ts ta tb tc td gl f n a b c d C Ox Od Os Oc hvi hvo hsi hso haa hbb hcc hdd hf hn hpb hd hu hret
  refine wpAny_call ?_
  let oq1 : Obj := partDict e1 e2 e3 e4 e5 k1 k2 k3 k4 k5 tg tf ts gl f n false sc; let oq2 : Obj := tup [.int a ta, .int b tb, .int c tc, .int d td]; k_dflt (refine' enterK C ((x, instObj 221 dx) :: (dx, oq1) :: (sc, oq2) :: cods) ?O ?kA ?k6 ?k7 ?k8 ?k9 ?kB ?_ ?c2 ?c3 ?c4 ?c5; (case O => exact (acons (Ox) ((acons (Od) ((acons (Os) (Oc))))))); (case kA => exact rfl); (case k6 => k_is); (case k7 => k_is); (case k8 => ktr_room); (case k9 => exact BindsTo.of_eq rfl); (case c5 => decide); (case kB => exact locs rfl); (case c2 => exact rfl); (case c3 => exact rfl); (case c4 => exact rfl); k_whole; intro g L' h₁ hL hg F' N' B' X' T'; (try dsimp only); (try k_fold); (try (refine foldL ?_; intro eV aV)))
  replace F' : Fr g L' h₁ (fun k => List.lookup k [(Str.ofString "outer", .ref co), (Str.ofString "inner", .ref ci), (Str.ofString "part", .ref x)]) := F'
  rw [look3] at F'
  rcases hpb with hpb | ⟨hpb1, hpb⟩
  · (repeat' (first | (k_unfold; (try dsimp only)) | (k_end; wrow_close) | ((with_reducible show wpAny _ _ (call (Value.ref _) _) _ _ _); first | (with_reducible (k_here; (with_reducible show wpAny _ _ (call (Value.ref 51) _) _ _ _); k_dflt (refine' font_use ?C ?a ?b ?_; (case C => exact Cx.next (by assumption) (by assumption) (by assumption) rfl rfl); (case a => ktr_room); (case b => ktr_units); k_whole; intro eq h'q tk'q hFlq))) | (with_reducible (k_here; (with_reducible show wpAny _ _ (call (Value.ref 75) _) _ _ _); k_dflt ( refine' points_ok _ _ _ _ _ _ _ _ _ _ _ _ _ _ _ _ _ _ _ _ _ _ _ _ ?C ?Ox ?Od ?hM ?hv ?hsm ?hd ?hu ?_; (case C => exact Cx.next (by assumption) (by assumption) (by assumption) rfl rfl); (case Ox => exact own_of (by assumption) (by assumption) (by k_mem) rfl); (case Od => exact own_of (by assumption) (by assumption) (by k_mem) rfl); (case hv => with_reducible assumption); (case hM => ((with_reducible rename News _ _ _ _ => kN); intro c9q o9q hm9q; exact own_of (o := o9q) (by assumption) kN (by repeat (first | exact hm9q | exact List.mem_append_left _ hm9q | exact List.mem_append_right _ hm9q | refine List.Mem.tail _ ?_ | refine List.mem_append_right _ ?_)) rfl)); (case hsm => first | assumption | exact Sm.map (by assumption)); (case hd => ktr_room); (case hu => ktr_units); k_whole; intro rq wsq n'q h'q tk'q hrnq hKq hrq hAq; (with_reducible rename Fr _ _ _ _ => kF); (with_reducible rename News _ _ _ _ => kN); have F'q := fr_kp0 kF hKq; have N'q := news_kp0 kN hKq; have N''q := news_new kF N'q hrnq hrq; have hneq := neAll rq kN hrnq; have hwlq := hAq.1; have hw4q := Nat.le_trans (Nat.le_of_eq hwlq) (Nat.le_trans (Sm.flat (by first | assumption | exact Sm.map (by assumption))) (show 6 ≤ 400 by decide)); clear N'q hrnq hrq hKq; (try k_sweep)))) | (with_reducible (k_here; (with_reducible show wpAny _ _ (call (Value.ref 97) [Value.ref _]) _ _ _); k_dflt (refine' mkOut _ _ _ _ _ _ _ _ _ _ _ _ _ _ _ ?C ?a ?b ?_; (case C => exact Cx.next (by assumption) (by assumption) (by assumption) rfl rfl); (case a => ktr_room); (case b => ktr_units); k_whole; unfold RetOut; intro xq dxq e1q e2q k1q k2q tbq h'q tk'q hKq hxq hdxq hxdq h1q h2q; (with_reducible rename Fr _ _ _ _ => kF); (with_reducible rename News _ _ _ _ => kN); have F'q := fr_kp0 kF hKq; have N'q := news_kp0 kN hKq; have N2q := news_new kF N'q hdxq h2q; have N3q := news_new kF N2q hxq h1q; have hne1q := neAll xq kN hxq; have hne2q := neAll dxq kN hdxq; replace hxdq : NeA _ _ := hxdq; clear N'q N2q hKq hxq hdxq h1q h2q; (try k_sweep))))) | ((with_reducible show wpAny _ _ (exec (Stmt.Raise _ _ _) _) _ _ _); first | (with_reducible (k_here; (with_reducible rename Frag.In _ _ => kX); k_dflt (refine' raise_own kX ?hh ?_; (case hh => exact rfl); k_whole))) | ((k_here; (with_reducible rename Frag.In _ _ => kX); k_dflt (refine' raise_own kX ?hh ?_; (case hh => exact rfl); k_whole)))) | ((with_reducible show wpAny _ _ (call (Value.builtin _) _) _ _ _); first | (with_reducible (k_here; (with_reducible show wpAny _ _ (call (Value.builtin _) [Value.ref _]) _ _ _); (with_unfolding_all refine' my_len ?k1 ?k2 ?_; (case k1 => is_list); (case k2 => assumption); k_whole)))) | ((with_reducible show wpAny _ _ (eval (Expr.IfExp _ _ _ _) _) _ _ _); first | (with_reducible (k_here; k_dflt ((with_reducible rename Fr _ _ _ _ => kF); (with_reducible rename News _ _ _ _ => kN); refine' found_seg _ _ _ _ _ _ _ _ _ _ _ _ _ _ _ _ _ _ _ _ _ _ _ _ _ _ _ _ _ _ _ _ _ _ _ _ _ _ _ _ _ _ _ _ _ _ _ _ _ ?C kF kN ?B ?X ?T ?hv ?hs ?ha ?hb ?hc ?hdd ?hd ?hu ?_; (case C => assumption); (case B => assumption); (case X => assumption); (case T => assumption); (case hv => with_reducible assumption); (case hs => assumption); (case ha => assumption); (case hb => assumption); (case hc => assumption); (case hdd => assumption); (case hd => omega); (case hu => omega); intro cf9q rest9q h'q tk'q F'q N'q hR9q; (try dsimp only at F'q); clear kF kN)))) | (with_reducible (k_here; first | ((with_reducible refine ite_pos ?h ?_); (case h => omega)) | ((with_reducible refine ite_neg ?h ?_); (case h => omega)))) | ((k_here; first | ((with_reducible refine ite_pos ?h ?_); (case h => omega)) | ((with_reducible refine ite_neg ?h ?_); (case h => omega)))) | walk1 | (dsimp only; (with_reducible show wpAny _ _ _ _ _ _)) | (leave1; walk_say "STEP leave1"; try dsimp only) | fail "no step"))
    (with_reducible rename Flaw _ _ _ => hFl)
    (with_reducible rename Fr _ _ _ _ => kF); (with_reducible rename News _ _ _ _ => kN); (with_reducible rename Below _ _ _ _ => kB)
    refine raiseOk_of kF.keep ?f ?_
    case f => exact hFl
    (try dsimp only)
    refine leave_first (S := []) kB kF rfl rfl hL (kp_ofS hg kF ((acons (.inr ⟨Ox.1, kN.get (by k_mem)⟩) ((acons (.inr ⟨Od.1, kN.get (by k_mem)⟩) ((acons (.inr ⟨Os.1, kN.get (by k_mem)⟩) (fun q9 hm9 => .inr ⟨(Oc q9 hm9).1, (kN q9 (by repeat (first | exact hm9 | exact List.mem_append_left _ hm9 | exact List.mem_append_right _ hm9 | refine List.Mem.tail _ ?_ | refine List.mem_append_right _ ?_))).1⟩)))))))) ?f fun h'' hT => ?_
    case f => exact hFl
    exact hret _ _ _ hT
  · (repeat' (first | (k_unfold; (try dsimp only)) | (k_end; wrow_close) | ((with_reducible show wpAny _ _ (call (Value.ref _) _) _ _ _); first | (with_reducible (k_here; (with_reducible show wpAny _ _ (call (Value.ref 51) _) _ _ _); k_dflt (refine' font_use ?C ?a ?b ?_; (case C => exact Cx.next (by assumption) (by assumption) (by assumption) rfl rfl); (case a => ktr_room); (case b => ktr_units); k_whole; intro eq h'q tk'q hFlq))) | (with_reducible (k_here; (with_reducible show wpAny _ _ (call (Value.ref 75) _) _ _ _); k_dflt ( refine' points_ok _ _ _ _ _ _ _ _ _ _ _ _ _ _ _ _ _ _ _ _ _ _ _ _ ?C ?Ox ?Od ?hM ?hv ?hsm ?hd ?hu ?_; (case C => exact Cx.next (by assumption) (by assumption) (by assumption) rfl rfl); (case Ox => exact own_of (by assumption) (by assumption) (by k_mem) rfl); (case Od => exact own_of (by assumption) (by assumption) (by k_mem) rfl); (case hv => with_reducible assumption); (case hM => ((with_reducible rename News _ _ _ _ => kN); intro c9q o9q hm9q; exact own_of (o := o9q) (by assumption) kN (by repeat (first | exact hm9q | exact List.mem_append_left _ hm9q | exact List.mem_append_right _ hm9q | refine List.Mem.tail _ ?_ | refine List.mem_append_right _ ?_)) rfl)); (case hsm => first | assumption | exact Sm.map (by assumption)); (case hd => ktr_room); (case hu => ktr_units); k_whole; intro rq wsq n'q h'q tk'q hrnq hKq hrq hAq; (with_reducible rename Fr _ _ _ _ => kF); (with_reducible rename News _ _ _ _ => kN); have F'q := fr_kp0 kF hKq; have N'q := news_kp0 kN hKq; have N''q := news_new kF N'q hrnq hrq; have hneq := neAll rq kN hrnq; have hwlq := hAq.1; have hw4q := Nat.le_trans (Nat.le_of_eq hwlq) (Nat.le_trans (Sm.flat (by first | assumption | exact Sm.map (by assumption))) (show 6 ≤ 400 by decide)); clear N'q hrnq hrq hKq; (try k_sweep)))) | (with_reducible (k_here; (with_reducible show wpAny _ _ (call (Value.ref 97) [Value.ref _]) _ _ _); k_dflt (refine' mkOut _ _ _ _ _ _ _ _ _ _ _ _ _ _ _ ?C ?a ?b ?_; (case C => exact Cx.next (by assumption) (by assumption) (by assumption) rfl rfl); (case a => ktr_room); (case b => ktr_units); k_whole; unfold RetOut; intro xq dxq e1q e2q k1q k2q tbq h'q tk'q hKq hxq hdxq hxdq h1q h2q; (with_reducible rename Fr _ _ _ _ => kF); (with_reducible rename News _ _ _ _ => kN); have F'q := fr_kp0 kF hKq; have N'q := news_kp0 kN hKq; have N2q := news_new kF N'q hdxq h2q; have N3q := news_new kF N2q hxq h1q; have hne1q := neAll xq kN hxq; have hne2q := neAll dxq kN hdxq; replace hxdq : NeA _ _ := hxdq; clear N'q N2q hKq hxq hdxq h1q h2q; (try k_sweep))))) | ((with_reducible show wpAny _ _ (exec (Stmt.Raise _ _ _) _) _ _ _); first | (with_reducible (k_here; (with_reducible rename Frag.In _ _ => kX); k_dflt (refine' raise_own kX ?hh ?_; (case hh => exact rfl); k_whole))) | ((k_here; (with_reducible rename Frag.In _ _ => kX); k_dflt (refine' raise_own kX ?hh ?_; (case hh => exact rfl); k_whole)))) | ((with_reducible show wpAny _ _ (call (Value.builtin _) _) _ _ _); first | (with_reducible (k_here; (with_reducible show wpAny _ _ (call (Value.builtin _) [Value.ref _]) _ _ _); (with_unfolding_all refine' my_len ?k1 ?k2 ?_; (case k1 => is_list); (case k2 => assumption); k_whole)))) | ((with_reducible show wpAny _ _ (eval (Expr.IfExp _ _ _ _) _) _ _ _); first | (with_reducible (k_here; k_dflt ((with_reducible rename Fr _ _ _ _ => kF); (with_reducible rename News _ _ _ _ => kN); refine' found_seg _ _ _ _ _ _ _ _ _ _ _ _ _ _ _ _ _ _ _ _ _ _ _ _ _ _ _ _ _ _ _ _ _ _ _ _ _ _ _ _ _ _ _ _ _ _ _ _ _ ?C kF kN ?B ?X ?T ?hv ?hs ?ha ?hb ?hc ?hdd ?hd ?hu ?_; (case C => assumption); (case B => assumption); (case X => assumption); (case T => assumption); (case hv => with_reducible assumption); (case hs => assumption); (case ha => assumption); (case hb => assumption); (case hc => assumption); (case hdd => assumption); (case hd => omega); (case hu => omega); intro cf9q rest9q h'q tk'q F'q N'q hR9q; (try dsimp only at F'q); clear kF kN)))) | (with_reducible (k_here; first | ((with_reducible refine ite_pos ?h ?_); (case h => omega)) | ((with_reducible refine ite_neg ?h ?_); (case h => omega)))) | ((k_here; first | ((with_reducible refine ite_pos ?h ?_); (case h => omega)) | ((with_reducible refine ite_neg ?h ?_); (case h => omega)))) | walk1 | (dsimp only; (with_reducible show wpAny _ _ _ _ _ _)) | (leave1; walk_say "STEP leave1"; try dsimp only) | fail "no step"))
    (with_reducible rename Flaw _ _ _ => hFl)
    (with_reducible rename Fr _ _ _ _ => kF); (with_reducible rename News _ _ _ _ => kN); (with_reducible rename Below _ _ _ _ => kB)
    refine raiseOk_of kF.keep ?f ?_
    case f => exact hFl
    (try dsimp only)
    refine leave_first (S := []) kB kF rfl rfl hL (kp_ofS hg kF ((acons (.inr ⟨Ox.1, kN.get (by k_mem)⟩) ((acons (.inr ⟨Od.1, kN.get (by k_mem)⟩) ((acons (.inr ⟨Os.1, kN.get (by k_mem)⟩) (fun q9 hm9 => .inr ⟨(Oc q9 hm9).1, (kN q9 (by repeat (first | exact hm9 | exact List.mem_append_left _ hm9 | exact List.mem_append_right _ hm9 | refine List.Mem.tail _ ?_ | refine List.mem_append_right _ ?_))).1⟩)))))))) ?f fun h'' hT => ?_
    case f => exact hFl
    exact hret _ _ _ hT
end
section
open PySem PySem.Spec PySem.Calls PySem.W PyProof.Rows
theorem tab_end3 {g g0 h : Heap} {L c1 c2 P : Addr} {oc1 oc2 : Obj} {news cods : List (Addr × Obj)} {l1 k1 l2 k2 : Nat} {q1 q2 : Str} {u1 u2 : Tok} {vs1 vs2 : Array Value} (N : News g L h news)
    (hP : (P, tabObj ((#[] ++ #[rawInt l1, rawInt k1, .ref c1]) ++ #[rawInt l2, rawInt k2, .ref c2])) ∈ news) (h1 : (c1, oc1) ∈ news) (h2 : (c2, oc2) ∈ news) (hc : ∀ q ∈ cods, q ∈ news)
    (d1 : oc1.data = .fields vs1) (v1 : vs1[1]? = some (.str q1 u1)) (d2 : oc2.data = .fields vs2) (v2 : vs2[1]? = some (.str q2 u2)) (hng : ∀ c, g.get? c = none → g0.get? c = none) (hc1 : @LT.lt Nat _ L c1) (hc2 : @LT.lt Nat _ L c2) :
    ∃ ps' cods', News g L h ((P, tabObj ps') :: cods') ∧ TabSt cods' l1 k1 l2 k2 q1 q2 ps' ∧ (∀ q ∈ cods, q ∈ cods') ∧ ∀ q ∈ cods', q ∈ cods ∨ (g0.get? q.1 = none ∧ @LT.lt Nat _ L q.1) := by
  have e : (#[] ++ #[rawInt l1, rawInt k1, Value.ref c1]) ++ #[rawInt l2, rawInt k2, Value.ref c2] = #[rawInt l1, rawInt k1, .ref c1, rawInt l2, rawInt k2, .ref c2] := rfl
  rw [e] at hP
  refine ⟨_, (c1, oc1) :: (c2, oc2) :: cods, ?_, .inr ⟨c1, c2, oc1, oc2, vs1, vs2, u1, u2, rfl, .head _, .tail _ (.head _), d1, v1, d2, v2⟩, fun q hq => .tail _ (.tail _ hq), ?_⟩
  · intro q hq
    rcases List.mem_cons.mp hq with rfl | hq
    · exact N _ hP
    rcases List.mem_cons.mp hq with rfl | hq
    · exact N _ h1
    rcases List.mem_cons.mp hq with rfl | hq
    · exact N _ h2
    · exact N q (hc q hq)
  · intro q hq
    rcases List.mem_cons.mp hq with rfl | hq
    · exact .inr ⟨hng _ (N _ h1).2.2, hc1⟩
    rcases List.mem_cons.mp hq with rfl | hq
    · exact .inr ⟨hng _ (N _ h2).2.2, hc2⟩
    · exact .inl hq
theorem refuse_goN (D U : Nat) {w : World} {p : Program} {loose : List Str} {mean : ExcName → Option Value} {mg mb : Str → Option Value} {H₀ g : Heap} {dp un : Nat} {gd : Option (List Code)} {l : List Env} {env : Env} {s : Shared} {f L c' : Addr} {A : Around} {m : Str → Option Value} {news : List (Addr × Obj)} {oc : Obj} {vs : Array Value} {t : Tok}
    {name qual : Str} {params : Arguments} {body : Expr} {scope : Scope} {cl : List (Str × Addr)} {pm ctv : Value}
    (B : Below A H₀ l g) (F : Fr g L s.heap m) (N : News g L s.heap news) (hf : env.frame = some L) (S : List (Addr × Obj))
    (ho : (f, kla_obj name qual params body scope cl pm c' ctv) ∈ news) (hc : (c', oc) ∈ news) (hd : oc.data = .fields vs) (hv : vs[1]? = some (.str qual t)) (hS : ∀ q ∈ S, q ∈ news) (hdp : dp + (D + 2) ≤ 400) (hun : un + (U + 24) ≤ 400)
    (hbind : bindArgs (kla_fn name qual params body scope cl pm (.ref c') ctv) ⟨[], []⟩ = pure [])
    (hco : scope.isCoroutine = false) (hgen : scope.isGenerator = false) (hk : scope.kind = .function) (hcell : ∀ x ∈ scope.names, x.2 ≠ .cell)
    (h : ∀ (l9 : List Env) dp9 un9 (s9 : Shared) (Q9 E9 : Value → Shared → Prop) g9 L' h₁ tk1, dp9 + D ≤ 400 → un9 + U ≤ 400 → Cx (Mine.hd.heap_1 w.params) p loose mean mg mb H₀ l9 s9.heap →
      (∀ q ∈ news, s9.heap.get? q.1 = some q.2) → s9.heap.get? L' = none → (∀ b o, s9.heap.get? b = some o → b ∉ S.map (·.1) → g9.get? b = some o) → Fr g9 L' h₁ (fun _ => none) → News g9 L' h₁ S → Below (AA dp9 un9 gd l9) H₀ l9 g9 → (Mine.hd.heap_1 w.params).In g9 → Top p loose mean mg mb g9 →
      (∀ e h'' tk'', Thrown l9 s9.heap h'' [] e → E9 (.ref e) { s9 with heap := h'', toks := tk'' }) →
      wpAny (model PySem.Challenge.rw_on0238_01.row.prog w) ((AA dp9 un9 gd l9).deeper (envX qual scope L' f (.ref c') cl)) (eval body (envX qual scope L' f (.ref c') cl)) (fun v s' => Q9 v s')
        (fun e s' => wpAny (model PySem.Challenge.rw_on0238_01.row.prog w) ((AA dp9 un9 gd l9).deeper (envX qual scope L' f (.ref c') cl)) (leaving (envX qual scope L' f (.ref c') cl) e) (fun _ s'' => E9 e s'') (fun e' s'' => E9 e' s'') s') { s9 with heap := h₁, toks := tk1 }) :
    CutR (Refuses w p loose mean mg mb H₀ gd (env :: l) s dp un f) := by
  refine ⟨fun env9 L9 h9 tk9 dp9 un9 Q9 E9 hf9 hk9 hn9 hkp9 hC9 hd9 hu9 hret9 => wpAny_call ?_⟩
  have all : ∀ q ∈ news, h9.get? q.1 = some q.2 := fun q hq => hkp9 _ _ (N q hq).1 List.not_mem_nil
  refine enterL (s := { s with heap := h9, toks := tk9 }) (binds := []) hC9 S (fun q hq => own_more (own_of B N (hS q hq) hf) hkp9 hf9 hn9) rfl (all _ ho) ⟨c', oc, vs, t, rfl, all _ hc, hd, hv⟩ (Nat.lt_of_le_of_lt hd9 (Nat.lt_of_lt_of_le (by omega) (show 400 ≤ recursionLimit from by decide))) hbind (fun y hy => nomatch hy) (fun g9 L' h₁ hL hg F' N' B' X' T' => ?_) hco hgen hk hcell
  exact h (env9 :: env :: l) dp9 un9 { s with heap := h9, toks := tk9 } Q9 E9 g9 L' h₁ _ (by omega) (by omega) hC9 all hL hg F' N' B' X' T' hret9
theorem pr_c : ∀ (w : World) (p : Program) (loose : List Str) (mean : ExcName → Option Value) (mg mb : Str → Option Value) (H₀ Hc : Heap) (dp un : Nat) (gd : Option (List Code)) (l : List Env) (s : Shared) (Q : Flow → Shared → Prop) (E : Value → Shared → Prop) (g : Heap) (m : Str → Option Value) (L' cfix clo src ts cown cout : Addr) (oS oR oO oL oF oI oY oX oC : Obj) (wsf wsl : List Value) (nf nl sn : Nat) (sx sy : Int) (u1 u2 ta tb tc td us ui : Tok) (a b c d sec fst : Int) (ps : Array Value) (cods : List (Addr × Obj)) (ri ro : List (List Pt)),
  (Cx (Mine.hd.heap_1 w.params) p loose mean mg mb H₀ l Hc) →
  (Fr g L' s.heap m) →
  (News g L' s.heap ((L' + 1 + 1 + 1 + 1 + 1 + 1 + 1 + 1 + 1, oS) :: (L' + 1 + 1 + 1 + 1 + 1 + 1 + 1 + 1, oR) :: (L' + 1 + 1 + 1 + 1 + 1 + 1 + 1, oO) :: (L' + 1 + 1 + 1 + 1 + 1 + 1, oL) :: (L' + 1 + 1 + 1 + 1 + 1, oF) :: (L' + 1 + 1 + 1 + 1, oI) :: (L' + 1 + 1 + 1, oY) :: (L' + 1 + 1, oX) :: (L' + 1, oC) :: (cfix, listOf wsf.toArray nf) :: (clo, listOf wsl.toArray nl) :: (src, listOf #[.int sx u1, .int sy u2] sn) :: (ts, tup [.int a ta, .int b tb, .int c tc, .int d td]) :: (349, tabObj ps) :: cods)) →
  (Below (AA dp un gd l) H₀ l g) →
  ((Mine.hd.heap_1 w.params).In g) →
  (Top p loose mean mg mb g) →
  (CodeHd H₀ 351 349) →
  (oS.data = Data.cell (some (.int sec us))) →
  (oR.data = Data.cell (some (.ref cown))) →
  (oO.data = Data.cell (some (.ref cout))) →
  (oL.data = Data.cell (some (.ref clo))) →
  (oF.data = Data.cell (some (.ref cfix))) →
  (oI.data = Data.cell (some (.int fst ui))) →
  (oC.data = Data.cell (some (.ref ts))) →
  (TabSt cods 247 24 249 24 (Str.ofString "_law_placed_right" ++ ".<locals>." ++ "<lambda>") (Str.ofString "_law_placed_right" ++ ".<locals>." ++ "<lambda>") ps) →
  (@LT.lt Nat _ 349 L') →
  (NeA cfix 349) →
  (NeA clo 349) →
  (NeA ts 349) →
  (NeA src 349) →
  (∀ p ∈ cods, p.1 ≠ 349) →
  (RowsAt (fun c o => (c, o) ∈ cods) (.ref cown) ri) →
  (RowsAt (fun c o => (c, o) ∈ cods) (.ref cout) ro) →
  (Sm ri) →
  (Sm ro) →
  (wsf.length = ro.flatten.length) →
  (wsl.length = (ri.map (List.map (trPt a b c d))).flatten.length) →
  (wsf.length ≤ 400) →
  (wsl.length ≤ 400) →
  (0 ≤ fst) →
  (fst < ((ro.flatten.length : Nat) : Int)) →
  (0 ≤ sec) →
  (-32768 ≤ a ∧ a < 32768) →
  (-32768 ≤ b ∧ b < 32768) →
  (-32768 ≤ c ∧ c < 32768) →
  (-32768 ≤ d ∧ d < 32768) →
  (dp + 40 ≤ 400) →
  (un + 240 ≤ 400) →
  (∀ g₂ m' ps' cods' h' tk', Fr g₂ L' h' m' → KpF l g g₂ [] → News g₂ L' h' ((src, listOf #[.int sx u1, .int sy u2] sn) :: (ts, tup [.int a ta, .int b tb, .int c tc, .int d td]) :: (349, tabObj ps') :: cods') → TabSt cods' 247 24 249 24 (Str.ofString "_law_placed_right" ++ ".<locals>." ++ "<lambda>") (Str.ofString "_law_placed_right" ++ ".<locals>." ++ "<lambda>") ps' → (∀ q ∈ cods, q ∈ cods') → (∀ q ∈ cods', q ∈ cods ∨ (g.get? q.1 = none ∧ @LT.lt Nat _ L' q.1)) → Q (.ret (.bool true)) {s with heap := h', toks := tk'}) →
  CutR (wpAny (model PySem.Challenge.rw_on0238_01.row.prog w) ((AA dp un gd l).deeper (envOfC (Str.ofString "_law_placed_right") (scopeOf w 352) L' 352 (.ref 351))) (execs ((bodyOf w 352).drop 10) (envOfC (Str.ofString "_law_placed_right") (scopeOf w 352) L' 352 (.ref 351))) Q E s) := by
  k_fill
  w_top off
  intro w p loose mean mg mb H₀ Hc dp un gd l s Q E g m L' cfix clo src ts cown cout oS oR oO oL oF oI oY oX oC wsf wsl nf nl sn sx sy u1 u2 ta tb tc td us ui a b c d sec fst ps cods ri ro C F' N' B' X' T' hcd dS dR dO dL dF dI dC hT l1 n1 n2 n3 n4 n5 hvi hvo hsi hso hwf hwl hf4 hl4 hf0 hf1 hs0 haa hbb hcc hdd hd hu hret
  refine ⟨?_⟩
  have eb : (bodyOf w 352).drop 10 = [_, _] := rfl
  have es : scopeOf w 352 = { kind := _, names := _, isGenerator := _, isCoroutine := _, more := _ } := rfl
  rw [eb, es]
  clear eb es
  have hng0 : ∀ g2 c, KpF l g g2 [] → g2.get? c = none → g.get? c = none := fun g2 c k e => none_kpF B' k e
  have zq1 : NeAll 349 [(L' + 1 + 1 + 1 + 1 + 1 + 1 + 1 + 1 + 1, oS), (L' + 1 + 1 + 1 + 1 + 1 + 1 + 1 + 1, oR), (L' + 1 + 1 + 1 + 1 + 1 + 1 + 1, oO), (L' + 1 + 1 + 1 + 1 + 1 + 1, oL), (L' + 1 + 1 + 1 + 1 + 1, oF), (L' + 1 + 1 + 1 + 1, oI), (L' + 1 + 1 + 1, oY), (L' + 1 + 1, oX), (L' + 1, oC)] := cells9 l1
  let aq1 : Addr := L' + 1
  let aq2 : Addr := aq1 + 1
  let aq3 : Addr := aq2 + 1
  let aq4 : Addr := aq3 + 1
  let aq5 : Addr := aq4 + 1
  let aq6 : Addr := aq5 + 1
  let aq7 : Addr := aq6 + 1
  let aq8 : Addr := aq7 + 1
  let aq9 : Addr := aq8 + 1
  let oq9 : Obj := listOf wsf.toArray nf
  let oq10 : Obj := listOf wsl.toArray nl
  let oq11 : Obj := listOf #[.int sx u1, .int sy u2] sn
  let oq12 : Obj := tup [.int a ta, .int b tb, .int c tc, .int d td]
  replace N' : News g L' s.heap ((aq9, oS) :: (aq8, oR) :: (aq7, oO) :: (aq6, oL) :: (aq5, oF) :: (aq4, oI) :: (aq3, oY) :: (aq2, oX) :: (aq1, oC) :: (cfix, oq9) :: (clo, oq10) :: (src, oq11) :: (ts, oq12) :: (349, tabObj ps) :: cods) := N'
  (try k_fold)
  (try (refine foldL ?_; intro eV aV))
  (with_reducible rename News _ _ _ _ => kN5)
  rcases hT with rfl | ⟨a1, a2, p1, p2, vs1, vs2, t1, t2, rfl, m1, m2, q1, q2, q3, q4⟩
  · (repeat' (first | (k_unfold; (try dsimp only)) | (k_end; wrow_close) | ((with_reducible show wpAny _ _ (call (Value.ref _) _) _ _ _); first | (with_reducible (k_here; (with_reducible show wpAny _ _ (call (Value.ref 328) [Value.ref _]) _ _ _); k_dflt ((with_reducible rename Fr _ _ _ _ => kF); (with_reducible rename News _ _ _ _ => kN); (with_reducible rename Below _ _ _ _ => kB); (with_reducible rename Frag.In _ _ => kX); (with_reducible rename Top _ _ _ _ _ _ => kT); (with_reducible rename Cx _ _ _ _ _ _ _ _ _ => kC); refine' refused_use kC kB kF kN rfl rfl ?fn ?_ ?hd ?hu ?_; (case fn => exact ⟨_, _, _, _, News.get kN (by k_mem)⟩); (case hd => ktr_room); (case hu => ktr_units); (any_goals (intro g2q h2q tk2q F'q N'q B'q X'q T'q hKGq hNGq; clear kF kN kB kX kT))))) | (with_reducible (k_here; (with_reducible show wpAny _ _ (call (Value.ref 253) [Value.ref _, Value.ref _, Value.ref _]) _ _ _); k_dflt ( refine' placed_x _ _ _ _ _ _ _ _ _ _ _ _ _ _ _ _ _ _ _ _ _ _ _ _ _ _ _ _ _ _ _ _ _ _ _ _ _ _ _ _ _ _ _ _ _ _ ?C ?Ox ?Od ?Os ?Oc ?hvi ?hvo ?hsi ?hso ?ha ?hb ?hc ?hdd ?hf ?hn ?hpb ?hd ?hu ?_; (case C => exact Cx.next (by assumption) (by assumption) (by assumption) rfl rfl); (case Ox => exact own_of (by assumption) (by assumption) (by k_mem) rfl); (case Od => exact own_of (by assumption) (by assumption) (by k_mem) rfl); (case Os => exact own_of (by assumption) (by assumption) (by k_mem) rfl); (case hvi => with_reducible assumption); (case hvo => with_reducible assumption); (case Oc => ((with_reducible rename News _ _ _ _ => kN); intro q9q hm9q; exact own_of (a := q9q.1) (o := q9q.2) (by assumption) kN (by repeat (first | exact hm9q | exact List.mem_append_left _ hm9q | exact List.mem_append_right _ hm9q | refine List.Mem.tail _ ?_ | refine List.mem_append_right _ ?_)) rfl)); (case hsi => assumption); (case hso => assumption); (case ha => assumption); (case hb => assumption); (case hc => assumption); (case hdd => assumption); (case hf => omega); (case hn => omega); (case hpb => first | exact .inl (by omega) | exact .inr ⟨by omega, by omega⟩); (case hd => ktr_room); (case hu => ktr_units); k_whole; intro eq h'q tk'q hTq))) | (with_reducible (k_here; (with_reducible show wpAny _ _ (call (Value.ref 221) _) _ _ _); k_dflt (refine' mkPart _ _ _ _ _ _ _ _ _ _ _ _ _ _ _ _ _ _ _ _ _ _ ?C ?a ?b ?_; (case C => exact Cx.next (by assumption) (by assumption) (by assumption) rfl rfl); (case a => ktr_room); (case b => ktr_units); k_whole; unfold RetPart; intro xq dxq e1q e2q e3q e4q e5q k1q k2q k3q k4q k5q tgq tfq tsq h'q tk'q hKq hxq hdxq hxdq h1q h2q; (with_reducible rename Fr _ _ _ _ => kF); (with_reducible rename News _ _ _ _ => kN); have F'q := fr_kp0 kF hKq; have N'q := news_kp0 kN hKq; have N2q := news_new kF N'q hdxq h2q; have N3q := news_new kF N2q hxq h1q; have hne1q := neAll xq kN hxq; have hne2q := neAll dxq kN hdxq; replace hxdq : NeA _ _ := hxdq; clear N'q N2q hKq hxq hdxq h1q h2q; (try k_sweep))))) | ((with_reducible show wpAny _ _ (call (Value.builtin _) _) _ _ _); first | (with_reducible (k_here; (with_reducible show wpAny _ _ (call (Value.builtin _) [Value.ref _]) _ _ _); (with_unfolding_all refine' my_len ?k1 ?k2 ?_; (case k1 => is_list); (case k2 => assumption); k_whole)))) | walk1 | (dsimp only; (with_reducible show wpAny _ _ _ _ _ _)) | (leave1; walk_say "STEP leave1"; try dsimp only) | fail "no step"))
    · (with_reducible rename Fr _ _ _ _ => kF); (with_reducible rename News _ _ _ _ => kN); (with_reducible rename Below _ _ _ _ => kB)
      k_dflt (refine' refuse_goN 16 120 kB kF kN rfl ((L' + 1 + 1 + 1 + 1 + 1, _) :: (L' + 1 + 1 + 1 + 1 + 1 + 1 + 1, _) :: (L' + 1 + 1 + 1 + 1 + 1 + 1 + 1 + 1, _) :: (L' + 1, _) :: (L' + 1 + 1 + 1 + 1 + 1 + 1 + 1 + 1 + 1, _) :: (cfix, listOf wsf.toArray nf) :: (ts, tup [.int a ta, .int b tb, .int c tc, .int d td]) :: cods) ?ho ?hc ?hd ?hv ?hS ?hdp ?hun ?hb ?c2 ?c3 ?c4 ?c5 ?_; (case ho => k_mem); (case hc => k_mem); (case hd => assumption); (case hv => assumption); (case hS => exact (acons (by k_mem) ((acons (by k_mem) ((acons (by k_mem) ((acons (by k_mem) ((acons (by k_mem) ((acons (by k_mem) ((acons (by k_mem) (fun q9 hm9 => (by repeat (first | exact hm9 | exact List.mem_append_left _ hm9 | exact List.mem_append_right _ hm9 | refine List.Mem.tail _ ?_ | refine List.mem_append_right _ ?_))))))))))))))))); (case hdp => ktr_room); (case hun => ktr_units); (case hb => exact rfl); (case c2 => exact rfl); (case c3 => exact rfl); (case c4 => exact rfl); (case c5 => decide))
      intro l9 dp9 un9 s9 Q9 E9 g9 L9 h1 tk1 hd9 hu9 hC9 hall hL9 hg9 F9 N9 B9 X9 T9 hret9
      clear kF kN kB
      (repeat' (first | (k_unfold; (try dsimp only)) | (k_end; wrow_close) | ((with_reducible show wpAny _ _ (call (Value.ref _) _) _ _ _); first | (with_reducible (k_here; (with_reducible show wpAny _ _ (call (Value.ref 328) [Value.ref _]) _ _ _); k_dflt ((with_reducible rename Fr _ _ _ _ => kF); (with_reducible rename News _ _ _ _ => kN); (with_reducible rename Below _ _ _ _ => kB); (with_reducible rename Frag.In _ _ => kX); (with_reducible rename Top _ _ _ _ _ _ => kT); (with_reducible rename Cx _ _ _ _ _ _ _ _ _ => kC); refine' refused_use kC kB kF kN rfl rfl ?fn ?_ ?hd ?hu ?_; (case fn => exact ⟨_, _, _, _, News.get kN (by k_mem)⟩); (case hd => ktr_room); (case hu => ktr_units); (any_goals (intro g2q h2q tk2q F'q N'q B'q X'q T'q hKGq hNGq; clear kF kN kB kX kT))))) | (with_reducible (k_here; (with_reducible show wpAny _ _ (call (Value.ref 253) [Value.ref _, Value.ref _, Value.ref _]) _ _ _); k_dflt ( refine' placed_x _ _ _ _ _ _ _ _ _ _ _ _ _ _ _ _ _ _ _ _ _ _ _ _ _ _ _ _ _ _ _ _ _ _ _ _ _ _ _ _ _ _ _ _ _ _ ?C ?Ox ?Od ?Os ?Oc ?hvi ?hvo ?hsi ?hso ?ha ?hb ?hc ?hdd ?hf ?hn ?hpb ?hd ?hu ?_; (case C => exact Cx.next (by assumption) (by assumption) (by assumption) rfl rfl); (case Ox => exact own_of (by assumption) (by assumption) (by k_mem) rfl); (case Od => exact own_of (by assumption) (by assumption) (by k_mem) rfl); (case Os => exact own_of (by assumption) (by assumption) (by k_mem) rfl); (case hvi => with_reducible assumption); (case hvo => with_reducible assumption); (case Oc => ((with_reducible rename News _ _ _ _ => kN); intro q9q hm9q; exact own_of (a := q9q.1) (o := q9q.2) (by assumption) kN (by repeat (first | exact hm9q | exact List.mem_append_left _ hm9q | exact List.mem_append_right _ hm9q | refine List.Mem.tail _ ?_ | refine List.mem_append_right _ ?_)) rfl)); (case hsi => assumption); (case hso => assumption); (case ha => assumption); (case hb => assumption); (case hc => assumption); (case hdd => assumption); (case hf => omega); (case hn => omega); (case hpb => first | exact .inl (by omega) | exact .inr ⟨by omega, by omega⟩); (case hd => ktr_room); (case hu => ktr_units); k_whole; intro eq h'q tk'q hTq))) | (with_reducible (k_here; (with_reducible show wpAny _ _ (call (Value.ref 221) _) _ _ _); k_dflt (refine' mkPart _ _ _ _ _ _ _ _ _ _ _ _ _ _ _ _ _ _ _ _ _ _ ?C ?a ?b ?_; (case C => exact Cx.next (by assumption) (by assumption) (by assumption) rfl rfl); (case a => ktr_room); (case b => ktr_units); k_whole; unfold RetPart; intro xq dxq e1q e2q e3q e4q e5q k1q k2q k3q k4q k5q tgq tfq tsq h'q tk'q hKq hxq hdxq hxdq h1q h2q; (with_reducible rename Fr _ _ _ _ => kF); (with_reducible rename News _ _ _ _ => kN); have F'q := fr_kp0 kF hKq; have N'q := news_kp0 kN hKq; have N2q := news_new kF N'q hdxq h2q; have N3q := news_new kF N2q hxq h1q; have hne1q := neAll xq kN hxq; have hne2q := neAll dxq kN hdxq; replace hxdq : NeA _ _ := hxdq; clear N'q N2q hKq hxq hdxq h1q h2q; (try k_sweep))))) | ((with_reducible show wpAny _ _ (call (Value.builtin _) _) _ _ _); first | (with_reducible (k_here; (with_reducible show wpAny _ _ (call (Value.builtin _) [Value.ref _]) _ _ _); (with_unfolding_all refine' my_len ?k1 ?k2 ?_; (case k1 => is_list); (case k2 => assumption); k_whole)))) | walk1 | (dsimp only; (with_reducible show wpAny _ _ _ _ _ _)) | (leave1; walk_say "STEP leave1"; try dsimp only) | fail "no step"))
      (with_reducible rename Thrown _ _ _ _ _ => hTh)
      (with_reducible rename Fr _ _ _ _ => kF); (with_reducible rename News _ _ _ _ => kN)
      (try dsimp only)
      refine leave_next (S' := []) rfl rfl hL9 (kp_ofS hg9 kF ((acons (.inr ⟨hall _ (by k_mem), kN.get (by k_mem)⟩) ((acons (.inr ⟨hall _ (by k_mem), kN.get (by k_mem)⟩) ((acons (.inr ⟨hall _ (by k_mem), kN.get (by k_mem)⟩) ((acons (.inr ⟨hall _ (by k_mem), kN.get (by k_mem)⟩) ((acons (.inr ⟨hall _ (by k_mem), kN.get (by k_mem)⟩) ((acons (.inr ⟨hall _ (by k_mem), kN.get (by k_mem)⟩) ((acons (.inr ⟨hall _ (by k_mem), kN.get (by k_mem)⟩) (fun q9 hm9 => .inr ⟨hall _ (by repeat (first | exact hm9 | exact List.mem_append_left _ hm9 | exact List.mem_append_right _ hm9 | refine List.Mem.tail _ ?_ | refine List.mem_append_right _ ?_)), (kN q9 (by repeat (first | exact hm9 | exact List.mem_append_left _ hm9 | exact List.mem_append_right _ hm9 | refine List.Mem.tail _ ?_ | refine List.mem_append_right _ ?_))).1⟩)))))))))))))))) hTh (fun b hb => nomatch hb) fun h'' hT' => hret9 _ _ _ hT'
    · (with_reducible rename Fr _ _ _ _ => kF); (with_reducible rename News _ _ _ _ => kN); (with_reducible rename Below _ _ _ _ => kB)
      k_dflt (refine' refuse_goN 16 120 kB kF kN rfl ((L' + 1 + 1 + 1 + 1, _) :: (L' + 1 + 1 + 1 + 1 + 1 + 1, _) :: (L' + 1 + 1 + 1 + 1 + 1 + 1 + 1, _) :: (L' + 1 + 1 + 1 + 1 + 1 + 1 + 1 + 1, _) :: (L' + 1, _) :: (clo, listOf wsl.toArray nl) :: (ts, tup [.int a ta, .int b tb, .int c tc, .int d td]) :: cods) ?ho ?hc ?hd ?hv ?hS ?hdp ?hun ?hb ?c2 ?c3 ?c4 ?c5 ?_; (case ho => k_mem); (case hc => k_mem); (case hd => assumption); (case hv => assumption); (case hS => exact (acons (by k_mem) ((acons (by k_mem) ((acons (by k_mem) ((acons (by k_mem) ((acons (by k_mem) ((acons (by k_mem) ((acons (by k_mem) (fun q9 hm9 => (by repeat (first | exact hm9 | exact List.mem_append_left _ hm9 | exact List.mem_append_right _ hm9 | refine List.Mem.tail _ ?_ | refine List.mem_append_right _ ?_))))))))))))))))); (case hdp => ktr_room); (case hun => ktr_units); (case hb => exact rfl); (case c2 => exact rfl); (case c3 => exact rfl); (case c4 => exact rfl); (case c5 => decide))
      intro l9 dp9 un9 s9 Q9 E9 g9 L9 h1 tk1 hd9 hu9 hC9 hall hL9 hg9 F9 N9 B9 X9 T9 hret9
      clear kF kN kB
      (repeat' (first | (k_unfold; (try dsimp only)) | (k_end; wrow_close) | ((with_reducible show wpAny _ _ (call (Value.ref _) _) _ _ _); first | (with_reducible (k_here; (with_reducible show wpAny _ _ (call (Value.ref 328) [Value.ref _]) _ _ _); k_dflt ((with_reducible rename Fr _ _ _ _ => kF); (with_reducible rename News _ _ _ _ => kN); (with_reducible rename Below _ _ _ _ => kB); (with_reducible rename Frag.In _ _ => kX); (with_reducible rename Top _ _ _ _ _ _ => kT); (with_reducible rename Cx _ _ _ _ _ _ _ _ _ => kC); refine' refused_use kC kB kF kN rfl rfl ?fn ?_ ?hd ?hu ?_; (case fn => exact ⟨_, _, _, _, News.get kN (by k_mem)⟩); (case hd => ktr_room); (case hu => ktr_units); (any_goals (intro g2q h2q tk2q F'q N'q B'q X'q T'q hKGq hNGq; clear kF kN kB kX kT))))) | (with_reducible (k_here; (with_reducible show wpAny _ _ (call (Value.ref 253) [Value.ref _, Value.ref _, Value.ref _]) _ _ _); k_dflt ( refine' placed_x _ _ _ _ _ _ _ _ _ _ _ _ _ _ _ _ _ _ _ _ _ _ _ _ _ _ _ _ _ _ _ _ _ _ _ _ _ _ _ _ _ _ _ _ _ _ ?C ?Ox ?Od ?Os ?Oc ?hvi ?hvo ?hsi ?hso ?ha ?hb ?hc ?hdd ?hf ?hn ?hpb ?hd ?hu ?_; (case C => exact Cx.next (by assumption) (by assumption) (by assumption) rfl rfl); (case Ox => exact own_of (by assumption) (by assumption) (by k_mem) rfl); (case Od => exact own_of (by assumption) (by assumption) (by k_mem) rfl); (case Os => exact own_of (by assumption) (by assumption) (by k_mem) rfl); (case hvi => with_reducible assumption); (case hvo => with_reducible assumption); (case Oc => ((with_reducible rename News _ _ _ _ => kN); intro q9q hm9q; exact own_of (a := q9q.1) (o := q9q.2) (by assumption) kN (by repeat (first | exact hm9q | exact List.mem_append_left _ hm9q | exact List.mem_append_right _ hm9q | refine List.Mem.tail _ ?_ | refine List.mem_append_right _ ?_)) rfl)); (case hsi => assumption); (case hso => assumption); (case ha => assumption); (case hb => assumption); (case hc => assumption); (case hdd => assumption); (case hf => omega); (case hn => omega); (case hpb => first | exact .inl (by omega) | exact .inr ⟨by omega, by omega⟩); (case hd => ktr_room); (case hu => ktr_units); k_whole; intro eq h'q tk'q hTq))) | (with_reducible (k_here; (with_reducible show wpAny _ _ (call (Value.ref 221) _) _ _ _); k_dflt (refine' mkPart _ _ _ _ _ _ _ _ _ _ _ _ _ _ _ _ _ _ _ _ _ _ ?C ?a ?b ?_; (case C => exact Cx.next (by assumption) (by assumption) (by assumption) rfl rfl); (case a => ktr_room); (case b => ktr_units); k_whole; unfold RetPart; intro xq dxq e1q e2q e3q e4q e5q k1q k2q k3q k4q k5q tgq tfq tsq h'q tk'q hKq hxq hdxq hxdq h1q h2q; (with_reducible rename Fr _ _ _ _ => kF); (with_reducible rename News _ _ _ _ => kN); have F'q := fr_kp0 kF hKq; have N'q := news_kp0 kN hKq; have N2q := news_new kF N'q hdxq h2q; have N3q := news_new kF N2q hxq h1q; have hne1q := neAll xq kN hxq; have hne2q := neAll dxq kN hdxq; replace hxdq : NeA _ _ := hxdq; clear N'q N2q hKq hxq hdxq h1q h2q; (try k_sweep))))) | ((with_reducible show wpAny _ _ (call (Value.builtin _) _) _ _ _); first | (with_reducible (k_here; (with_reducible show wpAny _ _ (call (Value.builtin _) [Value.ref _]) _ _ _); (with_unfolding_all refine' my_len ?k1 ?k2 ?_; (case k1 => is_list); (case k2 => assumption); k_whole)))) | walk1 | (dsimp only; (with_reducible show wpAny _ _ _ _ _ _)) | (leave1; walk_say "STEP leave1"; try dsimp only) | fail "no step"))
      (with_reducible rename Thrown _ _ _ _ _ => hTh)
      (with_reducible rename Fr _ _ _ _ => kF); (with_reducible rename News _ _ _ _ => kN)
      (try dsimp only)
      refine leave_next (S' := []) rfl rfl hL9 (kp_ofS hg9 kF ((acons (.inr ⟨hall _ (by k_mem), kN.get (by k_mem)⟩) ((acons (.inr ⟨hall _ (by k_mem), kN.get (by k_mem)⟩) ((acons (.inr ⟨hall _ (by k_mem), kN.get (by k_mem)⟩) ((acons (.inr ⟨hall _ (by k_mem), kN.get (by k_mem)⟩) ((acons (.inr ⟨hall _ (by k_mem), kN.get (by k_mem)⟩) ((acons (.inr ⟨hall _ (by k_mem), kN.get (by k_mem)⟩) ((acons (.inr ⟨hall _ (by k_mem), kN.get (by k_mem)⟩) (fun q9 hm9 => .inr ⟨hall _ (by repeat (first | exact hm9 | exact List.mem_append_left _ hm9 | exact List.mem_append_right _ hm9 | refine List.Mem.tail _ ?_ | refine List.mem_append_right _ ?_)), (kN q9 (by repeat (first | exact hm9 | exact List.mem_append_left _ hm9 | exact List.mem_append_right _ hm9 | refine List.Mem.tail _ ?_ | refine List.mem_append_right _ ?_))).1⟩)))))))))))))))) hTh (fun b hb => nomatch hb) fun h'' hT' => hret9 _ _ _ hT'
    · (with_reducible rename Fr _ _ _ _ => kF); (with_reducible rename News _ _ _ _ => kN)
      have hkg : KpF l g _ [] := KpF.trans (by assumption) (by assumption)
      obtain ⟨ps', cods', e1, e2, e3, e4⟩ := tab_end3 kN (by k_mem) (by k_mem) (by k_mem) (fun q9 (hm9 : q9 ∈ cods) => (by repeat (first | exact hm9 | exact List.mem_append_left _ hm9 | exact List.mem_append_right _ hm9 | refine List.Mem.tail _ ?_ | refine List.mem_append_right _ ?_))) (by assumption) (by assumption) (by assumption) (by assumption) (fun c e => hng0 _ c hkg e) (by first | omega | exact lt_of1 (by with_reducible assumption) (by k_mem)) (by first | omega | exact lt_of1 (by with_reducible assumption) (by k_mem))
      exact hret _ _ _ _ _ _ kF hkg ((acons (kN _ (by k_mem)) ((acons (kN _ (by k_mem)) (e1))))) e2 e3 e4
  · have N6 := news_more (news_more kN5 (by exact .tail _ (.tail _ (.tail _ (.tail _ (.tail _ (.tail _ (.tail _ (.tail _ (.tail _ (.tail _ (.tail _ (.tail _ (.tail _ (.tail _ (m2)))))))))))))))) (.tail _ (by exact .tail _ (.tail _ (.tail _ (.tail _ (.tail _ (.tail _ (.tail _ (.tail _ (.tail _ (.tail _ (.tail _ (.tail _ (.tail _ (.tail _ (m1))))))))))))))))
    clear kN5
    (repeat' (first | (k_unfold; (try dsimp only)) | (k_end; wrow_close) | ((with_reducible show wpAny _ _ (call (Value.ref _) _) _ _ _); first | (with_reducible (k_here; (with_reducible show wpAny _ _ (call (Value.ref 328) [Value.ref _]) _ _ _); k_dflt ((with_reducible rename Fr _ _ _ _ => kF); (with_reducible rename News _ _ _ _ => kN); (with_reducible rename Below _ _ _ _ => kB); (with_reducible rename Frag.In _ _ => kX); (with_reducible rename Top _ _ _ _ _ _ => kT); (with_reducible rename Cx _ _ _ _ _ _ _ _ _ => kC); refine' refused_use kC kB kF kN rfl rfl ?fn ?_ ?hd ?hu ?_; (case fn => exact ⟨_, _, _, _, News.get kN (by k_mem)⟩); (case hd => ktr_room); (case hu => ktr_units); (any_goals (intro g2q h2q tk2q F'q N'q B'q X'q T'q hKGq hNGq; clear kF kN kB kX kT))))) | (with_reducible (k_here; (with_reducible show wpAny _ _ (call (Value.ref 253) [Value.ref _, Value.ref _, Value.ref _]) _ _ _); k_dflt ( refine' placed_x _ _ _ _ _ _ _ _ _ _ _ _ _ _ _ _ _ _ _ _ _ _ _ _ _ _ _ _ _ _ _ _ _ _ _ _ _ _ _ _ _ _ _ _ _ _ ?C ?Ox ?Od ?Os ?Oc ?hvi ?hvo ?hsi ?hso ?ha ?hb ?hc ?hdd ?hf ?hn ?hpb ?hd ?hu ?_; (case C => exact Cx.next (by assumption) (by assumption) (by assumption) rfl rfl); (case Ox => exact own_of (by assumption) (by assumption) (by k_mem) rfl); (case Od => exact own_of (by assumption) (by assumption) (by k_mem) rfl); (case Os => exact own_of (by assumption) (by assumption) (by k_mem) rfl); (case hvi => with_reducible assumption); (case hvo => with_reducible assumption); (case Oc => ((with_reducible rename News _ _ _ _ => kN); intro q9q hm9q; exact own_of (a := q9q.1) (o := q9q.2) (by assumption) kN (by repeat (first | exact hm9q | exact List.mem_append_left _ hm9q | exact List.mem_append_right _ hm9q | refine List.Mem.tail _ ?_ | refine List.mem_append_right _ ?_)) rfl)); (case hsi => assumption); (case hso => assumption); (case ha => assumption); (case hb => assumption); (case hc => assumption); (case hdd => assumption); (case hf => omega); (case hn => omega); (case hpb => first | exact .inl (by omega) | exact .inr ⟨by omega, by omega⟩); (case hd => ktr_room); (case hu => ktr_units); k_whole; intro eq h'q tk'q hTq))) | (with_reducible (k_here; (with_reducible show wpAny _ _ (call (Value.ref 221) _) _ _ _); k_dflt (refine' mkPart _ _ _ _ _ _ _ _ _ _ _ _ _ _ _ _ _ _ _ _ _ _ ?C ?a ?b ?_; (case C => exact Cx.next (by assumption) (by assumption) (by assumption) rfl rfl); (case a => ktr_room); (case b => ktr_units); k_whole; unfold RetPart; intro xq dxq e1q e2q e3q e4q e5q k1q k2q k3q k4q k5q tgq tfq tsq h'q tk'q hKq hxq hdxq hxdq h1q h2q; (with_reducible rename Fr _ _ _ _ => kF); (with_reducible rename News _ _ _ _ => kN); have F'q := fr_kp0 kF hKq; have N'q := news_kp0 kN hKq; have N2q := news_new kF N'q hdxq h2q; have N3q := news_new kF N2q hxq h1q; have hne1q := neAll xq kN hxq; have hne2q := neAll dxq kN hdxq; replace hxdq : NeA _ _ := hxdq; clear N'q N2q hKq hxq hdxq h1q h2q; (try k_sweep))))) | ((with_reducible show wpAny _ _ (call (Value.builtin _) _) _ _ _); first | (with_reducible (k_here; (with_reducible show wpAny _ _ (call (Value.builtin _) [Value.ref _]) _ _ _); (with_unfolding_all refine' my_len ?k1 ?k2 ?_; (case k1 => is_list); (case k2 => assumption); k_whole)))) | walk1 | (dsimp only; (with_reducible show wpAny _ _ _ _ _ _)) | (leave1; walk_say "STEP leave1"; try dsimp only) | fail "no step"))
    · (with_reducible rename Fr _ _ _ _ => kF); (with_reducible rename News _ _ _ _ => kN); (with_reducible rename Below _ _ _ _ => kB)
      k_dflt (refine' refuse_goN 16 120 kB kF kN rfl ((L' + 1 + 1 + 1 + 1 + 1, _) :: (L' + 1 + 1 + 1 + 1 + 1 + 1 + 1, _) :: (L' + 1 + 1 + 1 + 1 + 1 + 1 + 1 + 1, _) :: (L' + 1, _) :: (L' + 1 + 1 + 1 + 1 + 1 + 1 + 1 + 1 + 1, _) :: (cfix, listOf wsf.toArray nf) :: (ts, tup [.int a ta, .int b tb, .int c tc, .int d td]) :: cods) ?ho ?hc ?hd ?hv ?hS ?hdp ?hun ?hb ?c2 ?c3 ?c4 ?c5 ?_; (case ho => k_mem); (case hc => k_mem); (case hd => assumption); (case hv => assumption); (case hS => exact (acons (by k_mem) ((acons (by k_mem) ((acons (by k_mem) ((acons (by k_mem) ((acons (by k_mem) ((acons (by k_mem) ((acons (by k_mem) (fun q9 hm9 => (by repeat (first | exact hm9 | exact List.mem_append_left _ hm9 | exact List.mem_append_right _ hm9 | refine List.Mem.tail _ ?_ | refine List.mem_append_right _ ?_))))))))))))))))); (case hdp => ktr_room); (case hun => ktr_units); (case hb => exact rfl); (case c2 => exact rfl); (case c3 => exact rfl); (case c4 => exact rfl); (case c5 => decide))
      intro l9 dp9 un9 s9 Q9 E9 g9 L9 h1 tk1 hd9 hu9 hC9 hall hL9 hg9 F9 N9 B9 X9 T9 hret9
      clear kF kN kB
      (repeat' (first | (k_unfold; (try dsimp only)) | (k_end; wrow_close) | ((with_reducible show wpAny _ _ (call (Value.ref _) _) _ _ _); first | (with_reducible (k_here; (with_reducible show wpAny _ _ (call (Value.ref 328) [Value.ref _]) _ _ _); k_dflt ((with_reducible rename Fr _ _ _ _ => kF); (with_reducible rename News _ _ _ _ => kN); (with_reducible rename Below _ _ _ _ => kB); (with_reducible rename Frag.In _ _ => kX); (with_reducible rename Top _ _ _ _ _ _ => kT); (with_reducible rename Cx _ _ _ _ _ _ _ _ _ => kC); refine' refused_use kC kB kF kN rfl rfl ?fn ?_ ?hd ?hu ?_; (case fn => exact ⟨_, _, _, _, News.get kN (by k_mem)⟩); (case hd => ktr_room); (case hu => ktr_units); (any_goals (intro g2q h2q tk2q F'q N'q B'q X'q T'q hKGq hNGq; clear kF kN kB kX kT))))) | (with_reducible (k_here; (with_reducible show wpAny _ _ (call (Value.ref 253) [Value.ref _, Value.ref _, Value.ref _]) _ _ _); k_dflt ( refine' placed_x _ _ _ _ _ _ _ _ _ _ _ _ _ _ _ _ _ _ _ _ _ _ _ _ _ _ _ _ _ _ _ _ _ _ _ _ _ _ _ _ _ _ _ _ _ _ ?C ?Ox ?Od ?Os ?Oc ?hvi ?hvo ?hsi ?hso ?ha ?hb ?hc ?hdd ?hf ?hn ?hpb ?hd ?hu ?_; (case C => exact Cx.next (by assumption) (by assumption) (by assumption) rfl rfl); (case Ox => exact own_of (by assumption) (by assumption) (by k_mem) rfl); (case Od => exact own_of (by assumption) (by assumption) (by k_mem) rfl); (case Os => exact own_of (by assumption) (by assumption) (by k_mem) rfl); (case hvi => with_reducible assumption); (case hvo => with_reducible assumption); (case Oc => ((with_reducible rename News _ _ _ _ => kN); intro q9q hm9q; exact own_of (a := q9q.1) (o := q9q.2) (by assumption) kN (by repeat (first | exact hm9q | exact List.mem_append_left _ hm9q | exact List.mem_append_right _ hm9q | refine List.Mem.tail _ ?_ | refine List.mem_append_right _ ?_)) rfl)); (case hsi => assumption); (case hso => assumption); (case ha => assumption); (case hb => assumption); (case hc => assumption); (case hdd => assumption); (case hf => omega); (case hn => omega); (case hpb => first | exact .inl (by omega) | exact .inr ⟨by omega, by omega⟩); (case hd => ktr_room); (case hu => ktr_units); k_whole; intro eq h'q tk'q hTq))) | (with_reducible (k_here; (with_reducible show wpAny _ _ (call (Value.ref 221) _) _ _ _); k_dflt (refine' mkPart _ _ _ _ _ _ _ _ _ _ _ _ _ _ _ _ _ _ _ _ _ _ ?C ?a ?b ?_; (case C => exact Cx.next (by assumption) (by assumption) (by assumption) rfl rfl); (case a => ktr_room); (case b => ktr_units); k_whole; unfold RetPart; intro xq dxq e1q e2q e3q e4q e5q k1q k2q k3q k4q k5q tgq tfq tsq h'q tk'q hKq hxq hdxq hxdq h1q h2q; (with_reducible rename Fr _ _ _ _ => kF); (with_reducible rename News _ _ _ _ => kN); have F'q := fr_kp0 kF hKq; have N'q := news_kp0 kN hKq; have N2q := news_new kF N'q hdxq h2q; have N3q := news_new kF N2q hxq h1q; have hne1q := neAll xq kN hxq; have hne2q := neAll dxq kN hdxq; replace hxdq : NeA _ _ := hxdq; clear N'q N2q hKq hxq hdxq h1q h2q; (try k_sweep))))) | ((with_reducible show wpAny _ _ (call (Value.builtin _) _) _ _ _); first | (with_reducible (k_here; (with_reducible show wpAny _ _ (call (Value.builtin _) [Value.ref _]) _ _ _); (with_unfolding_all refine' my_len ?k1 ?k2 ?_; (case k1 => is_list); (case k2 => assumption); k_whole)))) | walk1 | (dsimp only; (with_reducible show wpAny _ _ _ _ _ _)) | (leave1; walk_say "STEP leave1"; try dsimp only) | fail "no step"))
      (with_reducible rename Thrown _ _ _ _ _ => hTh)
      (with_reducible rename Fr _ _ _ _ => kF); (with_reducible rename News _ _ _ _ => kN)
      (try dsimp only)
      refine leave_next (S' := []) rfl rfl hL9 (kp_ofS hg9 kF ((acons (.inr ⟨hall _ (by k_mem), kN.get (by k_mem)⟩) ((acons (.inr ⟨hall _ (by k_mem), kN.get (by k_mem)⟩) ((acons (.inr ⟨hall _ (by k_mem), kN.get (by k_mem)⟩) ((acons (.inr ⟨hall _ (by k_mem), kN.get (by k_mem)⟩) ((acons (.inr ⟨hall _ (by k_mem), kN.get (by k_mem)⟩) ((acons (.inr ⟨hall _ (by k_mem), kN.get (by k_mem)⟩) ((acons (.inr ⟨hall _ (by k_mem), kN.get (by k_mem)⟩) (fun q9 hm9 => .inr ⟨hall _ (by repeat (first | exact hm9 | exact List.mem_append_left _ hm9 | exact List.mem_append_right _ hm9 | refine List.Mem.tail _ ?_ | refine List.mem_append_right _ ?_)), (kN q9 (by repeat (first | exact hm9 | exact List.mem_append_left _ hm9 | exact List.mem_append_right _ hm9 | refine List.Mem.tail _ ?_ | refine List.mem_append_right _ ?_))).1⟩)))))))))))))))) hTh (fun b hb => nomatch hb) fun h'' hT' => hret9 _ _ _ hT'
    · (with_reducible rename Fr _ _ _ _ => kF); (with_reducible rename News _ _ _ _ => kN); (with_reducible rename Below _ _ _ _ => kB)
      k_dflt (refine' refuse_goN 16 120 kB kF kN rfl ((L' + 1 + 1 + 1 + 1, _) :: (L' + 1 + 1 + 1 + 1 + 1 + 1, _) :: (L' + 1 + 1 + 1 + 1 + 1 + 1 + 1, _) :: (L' + 1 + 1 + 1 + 1 + 1 + 1 + 1 + 1, _) :: (L' + 1, _) :: (clo, listOf wsl.toArray nl) :: (ts, tup [.int a ta, .int b tb, .int c tc, .int d td]) :: cods) ?ho ?hc ?hd ?hv ?hS ?hdp ?hun ?hb ?c2 ?c3 ?c4 ?c5 ?_; (case ho => k_mem); (case hc => k_mem); (case hd => assumption); (case hv => assumption); (case hS => exact (acons (by k_mem) ((acons (by k_mem) ((acons (by k_mem) ((acons (by k_mem) ((acons (by k_mem) ((acons (by k_mem) ((acons (by k_mem) (fun q9 hm9 => (by repeat (first | exact hm9 | exact List.mem_append_left _ hm9 | exact List.mem_append_right _ hm9 | refine List.Mem.tail _ ?_ | refine List.mem_append_right _ ?_))))))))))))))))); (case hdp => ktr_room); (case hun => ktr_units); (case hb => exact rfl); (case c2 => exact rfl); (case c3 => exact rfl); (case c4 => exact rfl); (case c5 => decide))
      intro l9 dp9 un9 s9 Q9 E9 g9 L9 h1 tk1 hd9 hu9 hC9 hall hL9 hg9 F9 N9 B9 X9 T9 hret9
      clear kF kN kB
      (repeat' (first | (k_unfold; (try dsimp only)) | (k_end; wrow_close) | ((with_reducible show wpAny _ _ (call (Value.ref _) _) _ _ _); first | (with_reducible (k_here; (with_reducible show wpAny _ _ (call (Value.ref 328) [Value.ref _]) _ _ _); k_dflt ((with_reducible rename Fr _ _ _ _ => kF); (with_reducible rename News _ _ _ _ => kN); (with_reducible rename Below _ _ _ _ => kB); (with_reducible rename Frag.In _ _ => kX); (with_reducible rename Top _ _ _ _ _ _ => kT); (with_reducible rename Cx _ _ _ _ _ _ _ _ _ => kC); refine' refused_use kC kB kF kN rfl rfl ?fn ?_ ?hd ?hu ?_; (case fn => exact ⟨_, _, _, _, News.get kN (by k_mem)⟩); (case hd => ktr_room); (case hu => ktr_units); (any_goals (intro g2q h2q tk2q F'q N'q B'q X'q T'q hKGq hNGq; clear kF kN kB kX kT))))) | (with_reducible (k_here; (with_reducible show wpAny _ _ (call (Value.ref 253) [Value.ref _, Value.ref _, Value.ref _]) _ _ _); k_dflt ( refine' placed_x _ _ _ _ _ _ _ _ _ _ _ _ _ _ _ _ _ _ _ _ _ _ _ _ _ _ _ _ _ _ _ _ _ _ _ _ _ _ _ _ _ _ _ _ _ _ ?C ?Ox ?Od ?Os ?Oc ?hvi ?hvo ?hsi ?hso ?ha ?hb ?hc ?hdd ?hf ?hn ?hpb ?hd ?hu ?_; (case C => exact Cx.next (by assumption) (by assumption) (by assumption) rfl rfl); (case Ox => exact own_of (by assumption) (by assumption) (by k_mem) rfl); (case Od => exact own_of (by assumption) (by assumption) (by k_mem) rfl); (case Os => exact own_of (by assumption) (by assumption) (by k_mem) rfl); (case hvi => with_reducible assumption); (case hvo => with_reducible assumption); (case Oc => ((with_reducible rename News _ _ _ _ => kN); intro q9q hm9q; exact own_of (a := q9q.1) (o := q9q.2) (by assumption) kN (by repeat (first | exact hm9q | exact List.mem_append_left _ hm9q | exact List.mem_append_right _ hm9q | refine List.Mem.tail _ ?_ | refine List.mem_append_right _ ?_)) rfl)); (case hsi => assumption); (case hso => assumption); (case ha => assumption); (case hb => assumption); (case hc => assumption); (case hdd => assumption); (case hf => omega); (case hn => omega); (case hpb => first | exact .inl (by omega) | exact .inr ⟨by omega, by omega⟩); (case hd => ktr_room); (case hu => ktr_units); k_whole; intro eq h'q tk'q hTq))) | (with_reducible (k_here; (with_reducible show wpAny _ _ (call (Value.ref 221) _) _ _ _); k_dflt (refine' mkPart _ _ _ _ _ _ _ _ _ _ _ _ _ _ _ _ _ _ _ _ _ _ ?C ?a ?b ?_; (case C => exact Cx.next (by assumption) (by assumption) (by assumption) rfl rfl); (case a => ktr_room); (case b => ktr_units); k_whole; unfold RetPart; intro xq dxq e1q e2q e3q e4q e5q k1q k2q k3q k4q k5q tgq tfq tsq h'q tk'q hKq hxq hdxq hxdq h1q h2q; (with_reducible rename Fr _ _ _ _ => kF); (with_reducible rename News _ _ _ _ => kN); have F'q := fr_kp0 kF hKq; have N'q := news_kp0 kN hKq; have N2q := news_new kF N'q hdxq h2q; have N3q := news_new kF N2q hxq h1q; have hne1q := neAll xq kN hxq; have hne2q := neAll dxq kN hdxq; replace hxdq : NeA _ _ := hxdq; clear N'q N2q hKq hxq hdxq h1q h2q; (try k_sweep))))) | ((with_reducible show wpAny _ _ (call (Value.builtin _) _) _ _ _); first | (with_reducible (k_here; (with_reducible show wpAny _ _ (call (Value.builtin _) [Value.ref _]) _ _ _); (with_unfolding_all refine' my_len ?k1 ?k2 ?_; (case k1 => is_list); (case k2 => assumption); k_whole)))) | walk1 | (dsimp only; (with_reducible show wpAny _ _ _ _ _ _)) | (leave1; walk_say "STEP leave1"; try dsimp only) | fail "no step"))
      (with_reducible rename Thrown _ _ _ _ _ => hTh)
      (with_reducible rename Fr _ _ _ _ => kF); (with_reducible rename News _ _ _ _ => kN)
      (try dsimp only)
      refine leave_next (S' := []) rfl rfl hL9 (kp_ofS hg9 kF ((acons (.inr ⟨hall _ (by k_mem), kN.get (by k_mem)⟩) ((acons (.inr ⟨hall _ (by k_mem), kN.get (by k_mem)⟩) ((acons (.inr ⟨hall _ (by k_mem), kN.get (by k_mem)⟩) ((acons (.inr ⟨hall _ (by k_mem), kN.get (by k_mem)⟩) ((acons (.inr ⟨hall _ (by k_mem), kN.get (by k_mem)⟩) ((acons (.inr ⟨hall _ (by k_mem), kN.get (by k_mem)⟩) ((acons (.inr ⟨hall _ (by k_mem), kN.get (by k_mem)⟩) (fun q9 hm9 => .inr ⟨hall _ (by repeat (first | exact hm9 | exact List.mem_append_left _ hm9 | exact List.mem_append_right _ hm9 | refine List.Mem.tail _ ?_ | refine List.mem_append_right _ ?_)), (kN q9 (by repeat (first | exact hm9 | exact List.mem_append_left _ hm9 | exact List.mem_append_right _ hm9 | refine List.Mem.tail _ ?_ | refine List.mem_append_right _ ?_))).1⟩)))))))))))))))) hTh (fun b hb => nomatch hb) fun h'' hT' => hret9 _ _ _ hT'
    · (with_reducible rename Fr _ _ _ _ => kF); (with_reducible rename News _ _ _ _ => kN)
      have hkg : KpF l g _ [] := KpF.trans (by assumption) (by assumption)
      exact hret _ _ _ cods _ _ kF hkg ((acons (kN _ (by k_mem)) ((acons (kN _ (by k_mem)) ((acons (kN _ (by k_mem)) (fun q9 hm9 => kN q9 (by repeat (first | exact hm9 | exact List.mem_append_left _ hm9 | exact List.mem_append_right _ hm9 | refine List.Mem.tail _ ?_ | refine List.mem_append_right _ ?_))))))))) (.inr ⟨a1, a2, p1, p2, vs1, vs2, t1, t2, rfl, m1, m2, q1, q2, q3, q4⟩) (fun _ z => z) (fun _ z => .inl z)
end
section
open PySem PySem.Spec PySem.Calls PySem.W PyProof.Rows
theorem neAll_at {rest news : List (Addr × Obj)} {c : Addr} {o : Obj} (h : Off rest news) (hm : (c, o) ∈ rest) : NeAll c news := neAll_of fun q hq => Ne.symm (h q hq (c, o) hm)
theorem nameit {α : Type} {o : Option α} {x : α} (_ : o = some x) : ∃ y, y = x := ⟨x, rfl⟩
theorem fr_kpA {g h h' : Heap} {L : Addr} {m m' : Str → Option Value} (F : Fr g L h m) (k : Kp h h' [L]) (n : h'.Ns L m') : Fr g L h' m' :=
  ⟨n, fun b o e => k b o (F.keep b o e) (fun q => by rw [List.mem_singleton.mp q] at e; exact absurd (Nat.lt_of_lt_of_le (Heap.lt_size e) F.above) (Nat.lt_irrefl _)), F.above⟩
theorem pr_b : ∀ (w : World) (p : Program) (loose : List Str) (mean : ExcName → Option Value) (mg mb : Str → Option Value) (H₀ Hc : Heap) (dp un : Nat) (gd : Option (List Code)) (l : List Env) (s : Shared) (Q : Flow → Shared → Prop) (E : Value → Shared → Prop) (g : Heap) (m : Str → Option Value) (L' src ts cown cout cled : Addr) (oS oR oO oL oF oI oY oX oC : Obj) (sn : Nat) (sx sy ix iy : Int) (u1 u2 ta tb tc td ux uy : Tok) (a b c d : Int) (ps : Array Value) (cods : List (Addr × Obj)) (ri ro : List (List Pt)),
  (Cx (Mine.hd.heap_1 w.params) p loose mean mg mb H₀ l Hc) →
  (Fr g L' s.heap m) →
  (News g L' s.heap ((L' + 1 + 1 + 1 + 1 + 1 + 1 + 1 + 1 + 1, oS) :: (L' + 1 + 1 + 1 + 1 + 1 + 1 + 1 + 1, oR) :: (L' + 1 + 1 + 1 + 1 + 1 + 1 + 1, oO) :: (L' + 1 + 1 + 1 + 1 + 1 + 1, oL) :: (L' + 1 + 1 + 1 + 1 + 1, oF) :: (L' + 1 + 1 + 1 + 1, oI) :: (L' + 1 + 1 + 1, oY) :: (L' + 1 + 1, oX) :: (L' + 1, oC) :: (src, listOf #[.int sx u1, .int sy u2] sn) :: (ts, tup [.int a ta, .int b tb, .int c tc, .int d td]) :: (349, tabObj ps) :: cods)) →
  (Below (AA dp un gd l) H₀ l g) →
  ((Mine.hd.heap_1 w.params).In g) →
  (Top p loose mean mg mb g) →
  (CodeHd H₀ 351 349) →
  (m (Str.ofString "source") = some (.ref src)) →
  (m (Str.ofString "led") = some (.ref cled)) →
  (oS.data = Data.cell none) →
  (oR.data = Data.cell (some (.ref cown))) →
  (oO.data = Data.cell (some (.ref cout))) →
  (oL.data = Data.cell none) →
  (oF.data = Data.cell none) →
  (oI.data = Data.cell none) →
  (oY.data = Data.cell (some (.int iy uy))) →
  (oX.data = Data.cell (some (.int ix ux))) →
  (oC.data = Data.cell (some (.ref ts))) →
  (TabSt cods 247 24 249 24 (Str.ofString "_law_placed_right" ++ ".<locals>." ++ "<lambda>") (Str.ofString "_law_placed_right" ++ ".<locals>." ++ "<lambda>") ps) →
  (@LT.lt Nat _ 349 L' ∧ @LT.lt Nat _ src L' ∧ @LT.lt Nat _ ts L') →
  (NeA ts 349) →
  (NeA src 349) →
  (NeA src ts) →
  (Off cods [(L' + 1 + 1 + 1 + 1 + 1 + 1 + 1 + 1 + 1, oS), (L' + 1 + 1 + 1 + 1 + 1 + 1 + 1 + 1, oR), (L' + 1 + 1 + 1 + 1 + 1 + 1 + 1, oO), (L' + 1 + 1 + 1 + 1 + 1 + 1, oL), (L' + 1 + 1 + 1 + 1 + 1, oF), (L' + 1 + 1 + 1 + 1, oI), (L' + 1 + 1 + 1, oY), (L' + 1 + 1, oX), (L' + 1, oC), (src, listOf #[.int sx u1, .int sy u2] sn), (ts, tup [.int a ta, .int b tb, .int c tc, .int d td]), (349, tabObj ps)]) →
  (RowsAt (fun c o => (c, o) ∈ cods) (.ref cown) ri) →
  (RowsAt (fun c o => (c, o) ∈ cods) (.ref cout) ro) →
  (RowsAt (fun c o => (c, o) ∈ cods) (.ref cled) (ri.map (List.map (trPt a b c d)))) →
  (Sm ri) →
  (Sm ro) →
  (0 ≤ sx) →
  (0 ≤ sy) →
  (sy < 2147483647) →
  (-32768 ≤ a ∧ a < 32768) →
  (-32768 ≤ b ∧ b < 32768) →
  (-32768 ≤ c ∧ c < 32768) →
  (-32768 ≤ d ∧ d < 32768) →
  (dp + 40 ≤ 400) →
  (un + 240 ≤ 400) →
  (∀ g₂ m' ps' cods' sx' sy' u1' u2' h' tk', Fr g₂ L' h' m' → KpF l g g₂ [] → News g₂ L' h' ((src, listOf #[.int sx' u1', .int sy' u2'] sn) :: (ts, tup [.int a ta, .int b tb, .int c tc, .int d td]) :: (349, tabObj ps') :: cods') → 0 ≤ sx' → 0 ≤ sy' → sy' < 2147483647 → TabSt cods' 247 24 249 24 (Str.ofString "_law_placed_right" ++ ".<locals>." ++ "<lambda>") (Str.ofString "_law_placed_right" ++ ".<locals>." ++ "<lambda>") ps' → (∀ q ∈ cods, q ∈ cods') → (∀ q ∈ cods', q ∈ cods ∨ (g.get? q.1 = none ∧ @LT.lt Nat _ L' q.1)) → Q (.ret (.bool true)) {s with heap := h', toks := tk'}) →
  CutR (wpAny (model PySem.Challenge.rw_on0238_01.row.prog w) ((AA dp un gd l).deeper (envOfC (Str.ofString "_law_placed_right") (scopeOf w 352) L' 352 (.ref 351))) (execs ((bodyOf w 352).drop 5) (envOfC (Str.ofString "_law_placed_right") (scopeOf w 352) L' 352 (.ref 351))) Q E s) := by
  k_fill
  w_top off
  intro w p loose mean mg mb H₀ Hc dp un gd l s Q E g m L' src ts cown cout cled oS oR oO oL oF oI oY oX oC sn sx sy ix iy u1 u2 ta tb tc td ux uy a b c d ps cods ri ro C F' N' B' X' T' hcd hms hml dS dR dO dL dF dI dY dX dC hT l1 n3 n4 n6 hoff hvi hvo hvl hsi hso hx hy hy2 haa hbb hcc hdd hd hu hret
  refine ⟨?_⟩
  have eb : ((bodyOf w 352).drop 5) = [_, _, _, _, _, _, _] := rfl
  have es : scopeOf w 352 = { kind := _, names := _, isGenerator := _, isCoroutine := _, more := _ } := rfl
  rw [eb, es]
  clear eb es
  have zq1 : NeAll 349 [(L' + 1 + 1 + 1 + 1 + 1 + 1 + 1 + 1 + 1, oS), (L' + 1 + 1 + 1 + 1 + 1 + 1 + 1 + 1, oR), (L' + 1 + 1 + 1 + 1 + 1 + 1 + 1, oO), (L' + 1 + 1 + 1 + 1 + 1 + 1, oL), (L' + 1 + 1 + 1 + 1 + 1, oF), (L' + 1 + 1 + 1 + 1, oI), (L' + 1 + 1 + 1, oY), (L' + 1 + 1, oX), (L' + 1, oC)] := cells9 l1.1
  have zq2 : NeAll src [(L' + 1 + 1 + 1 + 1 + 1 + 1 + 1 + 1 + 1, oS), (L' + 1 + 1 + 1 + 1 + 1 + 1 + 1 + 1, oR), (L' + 1 + 1 + 1 + 1 + 1 + 1 + 1, oO), (L' + 1 + 1 + 1 + 1 + 1 + 1, oL), (L' + 1 + 1 + 1 + 1 + 1, oF), (L' + 1 + 1 + 1 + 1, oI), (L' + 1 + 1 + 1, oY), (L' + 1 + 1, oX), (L' + 1, oC)] := cells9 l1.2.1
  have zq3 : NeAll ts [(L' + 1 + 1 + 1 + 1 + 1 + 1 + 1 + 1 + 1, oS), (L' + 1 + 1 + 1 + 1 + 1 + 1 + 1 + 1, oR), (L' + 1 + 1 + 1 + 1 + 1 + 1 + 1, oO), (L' + 1 + 1 + 1 + 1 + 1 + 1, oL), (L' + 1 + 1 + 1 + 1 + 1, oF), (L' + 1 + 1 + 1 + 1, oI), (L' + 1 + 1 + 1, oY), (L' + 1 + 1, oX), (L' + 1, oC)] := cells9 l1.2.2
  let aq1 : Addr := L' + 1
  let aq2 : Addr := aq1 + 1
  let aq3 : Addr := aq2 + 1
  let aq4 : Addr := aq3 + 1
  let aq5 : Addr := aq4 + 1
  let aq6 : Addr := aq5 + 1
  let aq7 : Addr := aq6 + 1
  let aq8 : Addr := aq7 + 1
  let aq9 : Addr := aq8 + 1
  let oq9 : Obj := listOf #[.int sx u1, .int sy u2] sn
  let oq10 : Obj := tup [.int a ta, .int b tb, .int c tc, .int d td]
  replace N' : News g L' s.heap ((aq9, oS) :: (aq8, oR) :: (aq7, oO) :: (aq6, oL) :: (aq5, oF) :: (aq4, oI) :: (aq3, oY) :: (aq2, oX) :: (aq1, oC) :: (src, oq9) :: (ts, oq10) :: (349, tabObj ps) :: cods) := N'
  (try k_fold)
  (try (refine foldL ?_; intro eV aV))
  (repeat' (first | (k_unfold; (try dsimp only)) | (k_end; wrow_close) | ((with_reducible show wpAny _ _ (execs (_ :: _) _) _ _ _); first | (with_reducible ((with_reducible show wpAny _ _ (execs (Stmt.If (Expr.UnaryOp _ _ _) _ _ _ :: _) _) _ _ _); refine CutR.out ?_)) | (((with_reducible show wpAny _ _ (execs (Stmt.If (Expr.UnaryOp _ _ _) _ _ _ :: _) _) _ _ _); refine CutR.out ?_))) | ((with_reducible show wpAny _ _ (eval (Expr.ListComp _ _ _ _) _) _ _ _); first | (with_reducible (k_here; k_dflt (refine' comp_flat ?hh ?cl ?cell ?kind ?names ?x1 ?x2 ?d1 ?d2 ?_; (case hh => exact rfl); (case cl => exact rfl); (case cell => decide); (case kind => exact rfl); (case names => decide); (case x1 => exact rfl); (case x2 => exact rfl); (case d1 => decide); (case d2 => decide); k_whole)))) | ((with_reducible show wpAny _ _ (exec (Stmt.Assign _ (Expr.ListComp _ _ _ _) _) _) _ _ _); first | (with_reducible (k_here; (with_reducible rename Fr _ _ _ _ => kF); k_dflt (refine' comp_nestA (fun _ => rule_tuple) ?hh ?hsw ?cl ?cell ?kind ?names ?cl2 ?cell2 ?kind2 ?names2 ?xn ?db (frL kF) ?hLe ?hy ?hp ?_; (case hh => exact rfl); (case hsw => with_unfolding_all rfl); (case cl => exact rfl); (case cell => decide); (case kind => exact rfl); (case names => decide); (case cl2 => intro _; exact rfl); (case cell2 => decide); (case kind2 => exact rfl); (case names2 => decide); (case xn => exact rfl); (case db => decide); (case hLe => exact rfl); (case hy => exact rfl); (case hp => exact rfl); k_whole; (dsimp only [frL])))) | ((k_here; (with_reducible rename Fr _ _ _ _ => kF); k_dflt (refine' comp_nestA (fun _ => rule_tuple) ?hh ?hsw ?cl ?cell ?kind ?names ?cl2 ?cell2 ?kind2 ?names2 ?xn ?db (frL kF) ?hLe ?hy ?hp ?_; (case hh => exact rfl); (case hsw => with_unfolding_all rfl); (case cl => exact rfl); (case cell => decide); (case kind => exact rfl); (case names => decide); (case cl2 => intro _; exact rfl); (case cell2 => decide); (case kind2 => exact rfl); (case names2 => decide); (case xn => exact rfl); (case db => decide); (case hLe => exact rfl); (case hy => exact rfl); (case hp => exact rfl); k_whole; (dsimp only [frL]))))) | ((with_reducible show wpAny _ _ (subscriptTail _ _ _ _) _ _ _); first | (with_reducible (k_here; (with_reducible show wpAny _ _ (subscriptTail _ _ (Value.ref _) (Value.int _ _)) _ _ _); k_dflt ((with_unfolding_all refine' my_item2 ?k1 ?k2 ?k3 ?k4 ?_; (case k1 => is_list); (case k2 => assumption); (case k3 => omega); (case k4 => assumption); k_whole); intro vq hvq; (first | (have hp9q := All2.get (by assumption) hvq (by with_reducible assumption); (obtain ⟨c9, t9, u9, he9, hm9⟩ := hp9q)) | (have hp9q := All2.at (by assumption) hvq; (obtain ⟨pt9, hpt9, c9, t9, u9, he9, hm9⟩ := hp9q))); subst he9; (have hne9q := neAll_at (by with_reducible assumption) hm9); (with_reducible rename News _ _ _ _ => kN); (have N'q := news_more (q := (c9, ptObj _ t9 u9)) kN (by repeat (first | exact hm9 | exact List.mem_append_left _ hm9 | exact List.mem_append_right _ hm9 | refine List.Mem.tail _ ?_ | refine List.mem_append_right _ ?_))); clear kN hvq hm9)))) | ((with_reducible show wpAny _ _ (subscriptTail _ _ _ _) _ _ _); first | (with_reducible (k_here; (with_reducible show wpAny _ _ (subscriptTail _ _ (Value.ref _) (Value.int _ _)) _ _ _); k_dflt ((with_unfolding_all refine' my_item2 ?k1 ?k2 ?k3 ?k4 ?_; (case k1 => is_list); (case k2 => assumption); (case k3 => omega); (case k4 => assumption); k_whole); intro vq hvq; (first | (have hp9q := All2.get (by assumption) hvq (by with_reducible assumption); (obtain ⟨c9, t9, u9, he9, hm9⟩ := hp9q)) | (have hp9q := All2.at (by assumption) hvq; (obtain ⟨pt9, hpt9, c9, t9, u9, he9, hm9⟩ := hp9q))); subst he9; (have hne9q := neAll_at (by with_reducible assumption) hm9); (with_reducible rename News _ _ _ _ => kN); (have N'q := news_more (q := (c9, ptObj _ t9 u9)) kN (by repeat (first | exact hm9 | exact List.mem_append_left _ hm9 | exact List.mem_append_right _ hm9 | refine List.Mem.tail _ ?_ | refine List.mem_append_right _ ?_))); clear kN hvq hm9))) | (with_reducible (k_here; (with_reducible show wpAny _ _ (subscriptTail _ _ (Value.ref _) (Value.int _ _)) _ _ _); k_dflt (refine' item_tupleT ?t ?a ?b ?c ?d ?_; (case t => exact News.isTup (by k_asm) (by k_mem)); (case a => decide); (case b => decide); (case c => rfl); (case d => rfl); k_whole)))) | ((with_reducible show wpAny _ _ (compareOp CmpOp.NotEq (Value.ref _) (Value.ref _)) _ _ _); first | (with_reducible (k_here; k_dflt ((with_reducible rename News _ _ _ _ => kN); refine' ne_rows ?h1 ?h2 ?e ?hu ?_; (case h1 => (refine' RowsAt.mono ?_ (by with_reducible assumption); intro c9q o9q hm9q; exact (kN (c9q, o9q) (by repeat (first | exact hm9q | exact List.mem_append_left _ hm9q | exact List.mem_append_right _ hm9q | refine List.Mem.tail _ ?_ | refine List.mem_append_right _ ?_))).1)); (case h2 => (refine' RowsAt.mono ?_ (by with_reducible assumption); intro c9q o9q hm9q; exact (kN (c9q, o9q) (by repeat (first | exact hm9q | exact List.mem_append_left _ hm9q | exact List.mem_append_right _ hm9q | refine List.Mem.tail _ ?_ | refine List.mem_append_right _ ?_))).1)); (case e => first | rfl | (simp only [List.map_map, Function.comp_def]; done)); (case hu => ktr_units); k_whole))) | ((k_here; k_dflt ((with_reducible rename News _ _ _ _ => kN); refine' ne_rows ?h1 ?h2 ?e ?hu ?_; (case h1 => (refine' RowsAt.mono ?_ (by with_reducible assumption); intro c9q o9q hm9q; exact (kN (c9q, o9q) (by repeat (first | exact hm9q | exact List.mem_append_left _ hm9q | exact List.mem_append_right _ hm9q | refine List.Mem.tail _ ?_ | refine List.mem_append_right _ ?_))).1)); (case h2 => (refine' RowsAt.mono ?_ (by with_reducible assumption); intro c9q o9q hm9q; exact (kN (c9q, o9q) (by repeat (first | exact hm9q | exact List.mem_append_left _ hm9q | exact List.mem_append_right _ hm9q | refine List.Mem.tail _ ?_ | refine List.mem_append_right _ ?_))).1)); (case e => first | rfl | (simp only [List.map_map, Function.comp_def]; done)); (case hu => ktr_units); k_whole)))) | ((with_reducible show wpAny _ _ (call (Value.ref _) _) _ _ _); first | (with_reducible (k_here; (with_reducible show wpAny _ _ (call (Value.ref 253) [Value.ref _, Value.ref _, Value.ref _]) _ _ _); k_dflt ( refine' placed_p _ _ _ _ _ _ _ _ _ _ _ _ _ _ _ _ _ _ _ _ _ _ _ _ _ _ _ _ _ _ _ _ _ _ _ _ _ _ _ _ _ _ _ _ _ _ _ _ ?C ?Ox ?Od ?Os ?Oc ?hvi ?hvo ?hsi ?hso ?ha ?hb ?hc ?hdd ?hf ?hn ?hpa ?hpb ?hd ?hu ?_; (case C => exact Cx.next (by assumption) (by assumption) (by assumption) rfl rfl); (case Ox => exact own_of (by assumption) (by assumption) (by k_mem) rfl); (case Od => exact own_of (by assumption) (by assumption) (by k_mem) rfl); (case Os => exact own_of (by assumption) (by assumption) (by k_mem) rfl); (case hvi => with_reducible assumption); (case hvo => with_reducible assumption); (case Oc => ((with_reducible rename News _ _ _ _ => kN); intro q9q hm9q; exact own_of (a := q9q.1) (o := q9q.2) (by assumption) kN (by repeat (first | exact hm9q | exact List.mem_append_left _ hm9q | exact List.mem_append_right _ hm9q | refine List.Mem.tail _ ?_ | refine List.mem_append_right _ ?_)) rfl)); (case hsi => assumption); (case hso => assumption); (case ha => assumption); (case hb => assumption); (case hc => assumption); (case hdd => assumption); (case hf => omega); (case hn => omega); (case hpa => with_reducible assumption); (case hpb => with_reducible assumption); (case hd => ktr_room); (case hu => ktr_units); k_whole; intro v'q h'q tk'q hKq hRq; (obtain ⟨cv9, hcv9⟩ := rows_ref hRq); subst hcv9; (with_reducible rename Fr _ _ _ _ => kF); (with_reducible rename News _ _ _ _ => kN); have F'q := fr_kp0 kF hKq; obtain ⟨rest9, N', hoff9, hR9⟩ := news_rows0 kF kN hKq hRq; ((try dsimp only [List.cons_append, List.nil_append] at N'); (try simp only [List.append_assoc, List.cons_append] at N')); clear hKq hRq; (try k_sweep)))) | (with_reducible (k_here; (with_reducible show wpAny _ _ (call (Value.ref 221) _) _ _ _); k_dflt (refine' mkPart _ _ _ _ _ _ _ _ _ _ _ _ _ _ _ _ _ _ _ _ _ _ ?C ?a ?b ?_; (case C => exact Cx.next (by assumption) (by assumption) (by assumption) rfl rfl); (case a => ktr_room); (case b => ktr_units); k_whole; unfold RetPart; intro xq dxq e1q e2q e3q e4q e5q k1q k2q k3q k4q k5q tgq tfq tsq h'q tk'q hKq hxq hdxq hxdq h1q h2q; (with_reducible rename Fr _ _ _ _ => kF); (with_reducible rename News _ _ _ _ => kN); have F'q := fr_kp0 kF hKq; have N'q := news_kp0 kN hKq; have N2q := news_new kF N'q hdxq h2q; have N3q := news_new kF N2q hxq h1q; have hne1q := neAll xq kN hxq; have hne2q := neAll dxq kN hdxq; replace hxdq : NeA _ _ := hxdq; clear N'q N2q hKq hxq hdxq h1q h2q; (try k_sweep)))) | (with_reducible (k_here; k_dflt ( (with_reducible show wpAny _ _ (call (Value.ref 281) _) _ _ _); refine' take_ok _ _ _ _ _ _ _ _ _ _ _ _ _ _ _ _ _ _ _ _ _ _ ?C ?O ?hx ?hy ?hy2 ?ht ?ht2 ?hd ?hu ?_; (case C => exact Cx.next (by assumption) (by assumption) (by assumption) rfl rfl); (case O => exact own_of (by assumption) (by assumption) (by k_mem) rfl); (case hx => assumption); (case hy => assumption); (case hy2 => assumption); (case ht => first | decide | omega | (push_cast; omega)); (case ht2 => first | decide | omega); (case hd => ktr_room); (case hu => ktr_units); k_whole; intro rq x'q y'q tq t1q t2q h'q tk'q hr0q hr1q hx'q hy'q hy2'q hKq hsq; (with_reducible rename Fr _ _ _ _ => kF); (with_reducible rename News _ _ _ _ => kN); have F'q := fr_kp1 kF kN (by k_mem) hKq; have N'q := news_upd kN hKq (by k_upd) hsq; clear hKq hsq; (try k_sweep))))) | ((with_reducible show wpAny _ _ (call (Value.builtin _) _) _ _ _); first | (with_reducible (k_here; (with_reducible show wpAny _ _ (call (Value.builtin _) [Value.ref _]) _ _ _); (with_unfolding_all refine' my_len ?k1 ?k2 ?_; (case k1 => is_list); (case k2 => assumption); k_whole)))) | ((with_reducible show wpAny _ _ (eval (Expr.Name _ _) _) _ _ _); first | (with_reducible (k_here; k_dflt (refine' nameX_L ?F ?v ?_ ?a ?b; (case F => k_asm); (case a => rfl); (case b => rfl); (case v => first | with_reducible assumption | exact (if_neg (by decide)).trans (by with_reducible assumption)); k_whole)))) | (with_reducible (k_here; first | ((with_reducible refine ite_pos ?h ?_); (case h => omega)) | ((with_reducible refine ite_neg ?h ?_); (case h => omega)))) | ((k_here; first | ((with_reducible refine ite_pos ?h ?_); (case h => omega)) | ((with_reducible refine ite_neg ?h ?_); (case h => omega)))) | walk1 | (dsimp only; (with_reducible show wpAny _ _ _ _ _ _)) | (leave1; walk_say "STEP leave1"; try dsimp only) | fail "no step"))
  (with_reducible rename Fr _ _ _ _ => kF); (with_reducible rename News _ _ _ _ => kN)
  refine flat_src hvo (fun c9 o9 hm9 => (kN (c9, o9) (by repeat (first | exact hm9 | exact List.mem_append_left _ hm9 | exact List.mem_append_right _ hm9 | refine List.Mem.tail _ ?_ | refine List.mem_append_right _ ?_))).1) hso fun D ws h9 tk9 hD hK hr hA hwl hw4 hw0 => ?_
  have F9 := fr_kp0 kF hK
  have N9 := news_new kF (news_kp0 kN hK) hD hr
  have hne := neAll D kN hD
  clear kF kN hK hD hr
  (try k_unfold); (try dsimp only)
  (repeat' (first | (k_unfold; (try dsimp only)) | (k_end; wrow_close) | ((with_reducible show wpAny _ _ (execs (_ :: _) _) _ _ _); first | (with_reducible ((with_reducible show wpAny _ _ (execs (Stmt.If (Expr.UnaryOp _ _ _) _ _ _ :: _) _) _ _ _); refine CutR.out ?_)) | (((with_reducible show wpAny _ _ (execs (Stmt.If (Expr.UnaryOp _ _ _) _ _ _ :: _) _) _ _ _); refine CutR.out ?_))) | ((with_reducible show wpAny _ _ (eval (Expr.ListComp _ _ _ _) _) _ _ _); first | (with_reducible (k_here; k_dflt (refine' comp_flat ?hh ?cl ?cell ?kind ?names ?x1 ?x2 ?d1 ?d2 ?_; (case hh => exact rfl); (case cl => exact rfl); (case cell => decide); (case kind => exact rfl); (case names => decide); (case x1 => exact rfl); (case x2 => exact rfl); (case d1 => decide); (case d2 => decide); k_whole)))) | ((with_reducible show wpAny _ _ (exec (Stmt.Assign _ (Expr.ListComp _ _ _ _) _) _) _ _ _); first | (with_reducible (k_here; (with_reducible rename Fr _ _ _ _ => kF); k_dflt (refine' comp_nestA (fun _ => rule_tuple) ?hh ?hsw ?cl ?cell ?kind ?names ?cl2 ?cell2 ?kind2 ?names2 ?xn ?db (frL kF) ?hLe ?hy ?hp ?_; (case hh => exact rfl); (case hsw => with_unfolding_all rfl); (case cl => exact rfl); (case cell => decide); (case kind => exact rfl); (case names => decide); (case cl2 => intro _; exact rfl); (case cell2 => decide); (case kind2 => exact rfl); (case names2 => decide); (case xn => exact rfl); (case db => decide); (case hLe => exact rfl); (case hy => exact rfl); (case hp => exact rfl); k_whole; (dsimp only [frL])))) | ((k_here; (with_reducible rename Fr _ _ _ _ => kF); k_dflt (refine' comp_nestA (fun _ => rule_tuple) ?hh ?hsw ?cl ?cell ?kind ?names ?cl2 ?cell2 ?kind2 ?names2 ?xn ?db (frL kF) ?hLe ?hy ?hp ?_; (case hh => exact rfl); (case hsw => with_unfolding_all rfl); (case cl => exact rfl); (case cell => decide); (case kind => exact rfl); (case names => decide); (case cl2 => intro _; exact rfl); (case cell2 => decide); (case kind2 => exact rfl); (case names2 => decide); (case xn => exact rfl); (case db => decide); (case hLe => exact rfl); (case hy => exact rfl); (case hp => exact rfl); k_whole; (dsimp only [frL]))))) | ((with_reducible show wpAny _ _ (subscriptTail _ _ _ _) _ _ _); first | (with_reducible (k_here; (with_reducible show wpAny _ _ (subscriptTail _ _ (Value.ref _) (Value.int _ _)) _ _ _); k_dflt ((with_unfolding_all refine' my_item2 ?k1 ?k2 ?k3 ?k4 ?_; (case k1 => is_list); (case k2 => assumption); (case k3 => omega); (case k4 => assumption); k_whole); intro vq hvq; (first | (have hp9q := All2.get (by assumption) hvq (by with_reducible assumption); (obtain ⟨c9, t9, u9, he9, hm9⟩ := hp9q)) | (have hp9q := All2.at (by assumption) hvq; (obtain ⟨pt9, hpt9, c9, t9, u9, he9, hm9⟩ := hp9q))); subst he9; (have hne9q := neAll_at (by with_reducible assumption) hm9); (with_reducible rename News _ _ _ _ => kN); (have N'q := news_more (q := (c9, ptObj _ t9 u9)) kN (by repeat (first | exact hm9 | exact List.mem_append_left _ hm9 | exact List.mem_append_right _ hm9 | refine List.Mem.tail _ ?_ | refine List.mem_append_right _ ?_))); clear kN hvq hm9)))) | ((with_reducible show wpAny _ _ (subscriptTail _ _ _ _) _ _ _); first | (with_reducible (k_here; (with_reducible show wpAny _ _ (subscriptTail _ _ (Value.ref _) (Value.int _ _)) _ _ _); k_dflt ((with_unfolding_all refine' my_item2 ?k1 ?k2 ?k3 ?k4 ?_; (case k1 => is_list); (case k2 => assumption); (case k3 => omega); (case k4 => assumption); k_whole); intro vq hvq; (first | (have hp9q := All2.get (by assumption) hvq (by with_reducible assumption); (obtain ⟨c9, t9, u9, he9, hm9⟩ := hp9q)) | (have hp9q := All2.at (by assumption) hvq; (obtain ⟨pt9, hpt9, c9, t9, u9, he9, hm9⟩ := hp9q))); subst he9; (have hne9q := neAll_at (by with_reducible assumption) hm9); (with_reducible rename News _ _ _ _ => kN); (have N'q := news_more (q := (c9, ptObj _ t9 u9)) kN (by repeat (first | exact hm9 | exact List.mem_append_left _ hm9 | exact List.mem_append_right _ hm9 | refine List.Mem.tail _ ?_ | refine List.mem_append_right _ ?_))); clear kN hvq hm9))) | (with_reducible (k_here; (with_reducible show wpAny _ _ (subscriptTail _ _ (Value.ref _) (Value.int _ _)) _ _ _); k_dflt (refine' item_tupleT ?t ?a ?b ?c ?d ?_; (case t => exact News.isTup (by k_asm) (by k_mem)); (case a => decide); (case b => decide); (case c => rfl); (case d => rfl); k_whole)))) | ((with_reducible show wpAny _ _ (compareOp CmpOp.NotEq (Value.ref _) (Value.ref _)) _ _ _); first | (with_reducible (k_here; k_dflt ((with_reducible rename News _ _ _ _ => kN); refine' ne_rows ?h1 ?h2 ?e ?hu ?_; (case h1 => (refine' RowsAt.mono ?_ (by with_reducible assumption); intro c9q o9q hm9q; exact (kN (c9q, o9q) (by repeat (first | exact hm9q | exact List.mem_append_left _ hm9q | exact List.mem_append_right _ hm9q | refine List.Mem.tail _ ?_ | refine List.mem_append_right _ ?_))).1)); (case h2 => (refine' RowsAt.mono ?_ (by with_reducible assumption); intro c9q o9q hm9q; exact (kN (c9q, o9q) (by repeat (first | exact hm9q | exact List.mem_append_left _ hm9q | exact List.mem_append_right _ hm9q | refine List.Mem.tail _ ?_ | refine List.mem_append_right _ ?_))).1)); (case e => first | rfl | (simp only [List.map_map, Function.comp_def]; done)); (case hu => ktr_units); k_whole))) | ((k_here; k_dflt ((with_reducible rename News _ _ _ _ => kN); refine' ne_rows ?h1 ?h2 ?e ?hu ?_; (case h1 => (refine' RowsAt.mono ?_ (by with_reducible assumption); intro c9q o9q hm9q; exact (kN (c9q, o9q) (by repeat (first | exact hm9q | exact List.mem_append_left _ hm9q | exact List.mem_append_right _ hm9q | refine List.Mem.tail _ ?_ | refine List.mem_append_right _ ?_))).1)); (case h2 => (refine' RowsAt.mono ?_ (by with_reducible assumption); intro c9q o9q hm9q; exact (kN (c9q, o9q) (by repeat (first | exact hm9q | exact List.mem_append_left _ hm9q | exact List.mem_append_right _ hm9q | refine List.Mem.tail _ ?_ | refine List.mem_append_right _ ?_))).1)); (case e => first | rfl | (simp only [List.map_map, Function.comp_def]; done)); (case hu => ktr_units); k_whole)))) | ((with_reducible show wpAny _ _ (call (Value.ref _) _) _ _ _); first | (with_reducible (k_here; (with_reducible show wpAny _ _ (call (Value.ref 253) [Value.ref _, Value.ref _, Value.ref _]) _ _ _); k_dflt ( refine' placed_p _ _ _ _ _ _ _ _ _ _ _ _ _ _ _ _ _ _ _ _ _ _ _ _ _ _ _ _ _ _ _ _ _ _ _ _ _ _ _ _ _ _ _ _ _ _ _ _ ?C ?Ox ?Od ?Os ?Oc ?hvi ?hvo ?hsi ?hso ?ha ?hb ?hc ?hdd ?hf ?hn ?hpa ?hpb ?hd ?hu ?_; (case C => exact Cx.next (by assumption) (by assumption) (by assumption) rfl rfl); (case Ox => exact own_of (by assumption) (by assumption) (by k_mem) rfl); (case Od => exact own_of (by assumption) (by assumption) (by k_mem) rfl); (case Os => exact own_of (by assumption) (by assumption) (by k_mem) rfl); (case hvi => with_reducible assumption); (case hvo => with_reducible assumption); (case Oc => ((with_reducible rename News _ _ _ _ => kN); intro q9q hm9q; exact own_of (a := q9q.1) (o := q9q.2) (by assumption) kN (by repeat (first | exact hm9q | exact List.mem_append_left _ hm9q | exact List.mem_append_right _ hm9q | refine List.Mem.tail _ ?_ | refine List.mem_append_right _ ?_)) rfl)); (case hsi => assumption); (case hso => assumption); (case ha => assumption); (case hb => assumption); (case hc => assumption); (case hdd => assumption); (case hf => omega); (case hn => omega); (case hpa => with_reducible assumption); (case hpb => with_reducible assumption); (case hd => ktr_room); (case hu => ktr_units); k_whole; intro v'q h'q tk'q hKq hRq; (obtain ⟨cv9, hcv9⟩ := rows_ref hRq); subst hcv9; (with_reducible rename Fr _ _ _ _ => kF); (with_reducible rename News _ _ _ _ => kN); have F'q := fr_kp0 kF hKq; obtain ⟨rest9, N', hoff9, hR9⟩ := news_rows0 kF kN hKq hRq; ((try dsimp only [List.cons_append, List.nil_append] at N'); (try simp only [List.append_assoc, List.cons_append] at N')); clear hKq hRq; (try k_sweep)))) | (with_reducible (k_here; (with_reducible show wpAny _ _ (call (Value.ref 221) _) _ _ _); k_dflt (refine' mkPart _ _ _ _ _ _ _ _ _ _ _ _ _ _ _ _ _ _ _ _ _ _ ?C ?a ?b ?_; (case C => exact Cx.next (by assumption) (by assumption) (by assumption) rfl rfl); (case a => ktr_room); (case b => ktr_units); k_whole; unfold RetPart; intro xq dxq e1q e2q e3q e4q e5q k1q k2q k3q k4q k5q tgq tfq tsq h'q tk'q hKq hxq hdxq hxdq h1q h2q; (with_reducible rename Fr _ _ _ _ => kF); (with_reducible rename News _ _ _ _ => kN); have F'q := fr_kp0 kF hKq; have N'q := news_kp0 kN hKq; have N2q := news_new kF N'q hdxq h2q; have N3q := news_new kF N2q hxq h1q; have hne1q := neAll xq kN hxq; have hne2q := neAll dxq kN hdxq; replace hxdq : NeA _ _ := hxdq; clear N'q N2q hKq hxq hdxq h1q h2q; (try k_sweep)))) | (with_reducible (k_here; k_dflt ( (with_reducible show wpAny _ _ (call (Value.ref 281) _) _ _ _); refine' take_ok _ _ _ _ _ _ _ _ _ _ _ _ _ _ _ _ _ _ _ _ _ _ ?C ?O ?hx ?hy ?hy2 ?ht ?ht2 ?hd ?hu ?_; (case C => exact Cx.next (by assumption) (by assumption) (by assumption) rfl rfl); (case O => exact own_of (by assumption) (by assumption) (by k_mem) rfl); (case hx => assumption); (case hy => assumption); (case hy2 => assumption); (case ht => first | decide | omega | (push_cast; omega)); (case ht2 => first | decide | omega); (case hd => ktr_room); (case hu => ktr_units); k_whole; intro rq x'q y'q tq t1q t2q h'q tk'q hr0q hr1q hx'q hy'q hy2'q hKq hsq; (with_reducible rename Fr _ _ _ _ => kF); (with_reducible rename News _ _ _ _ => kN); have F'q := fr_kp1 kF kN (by k_mem) hKq; have N'q := news_upd kN hKq (by k_upd) hsq; clear hKq hsq; (try k_sweep))))) | ((with_reducible show wpAny _ _ (call (Value.builtin _) _) _ _ _); first | (with_reducible (k_here; (with_reducible show wpAny _ _ (call (Value.builtin _) [Value.ref _]) _ _ _); (with_unfolding_all refine' my_len ?k1 ?k2 ?_; (case k1 => is_list); (case k2 => assumption); k_whole)))) | ((with_reducible show wpAny _ _ (eval (Expr.Name _ _) _) _ _ _); first | (with_reducible (k_here; k_dflt (refine' nameX_L ?F ?v ?_ ?a ?b; (case F => k_asm); (case a => rfl); (case b => rfl); (case v => first | with_reducible assumption | exact (if_neg (by decide)).trans (by with_reducible assumption)); k_whole)))) | (with_reducible (k_here; first | ((with_reducible refine ite_pos ?h ?_); (case h => omega)) | ((with_reducible refine ite_neg ?h ?_); (case h => omega)))) | ((k_here; first | ((with_reducible refine ite_pos ?h ?_); (case h => omega)) | ((with_reducible refine ite_neg ?h ?_); (case h => omega)))) | walk1 | (dsimp only; (with_reducible show wpAny _ _ _ _ _ _)) | (leave1; walk_say "STEP leave1"; try dsimp only) | fail "no step"))
  (with_reducible rename Fr _ _ _ _ => kF); (with_reducible rename News _ _ _ _ => kN)
  refine flat_src hvl (fun c9 o9 hm9 => (kN (c9, o9) (by repeat (first | exact hm9 | exact List.mem_append_left _ hm9 | exact List.mem_append_right _ hm9 | refine List.Mem.tail _ ?_ | refine List.mem_append_right _ ?_))).1) (Sm.map hsi) fun D ws h9 tk9 hD hK hr hA hwl hw4 hw0 => ?_
  have F9 := fr_kp0 kF hK
  have N9 := news_new kF (news_kp0 kN hK) hD hr
  have hne := neAll D kN hD
  clear kF kN hK hD hr
  (try k_unfold); (try dsimp only)
  (repeat' (first | (k_unfold; (try dsimp only)) | (k_end; wrow_close) | ((with_reducible show wpAny _ _ (execs (_ :: _) _) _ _ _); first | (with_reducible ((with_reducible show wpAny _ _ (execs (Stmt.If (Expr.UnaryOp _ _ _) _ _ _ :: _) _) _ _ _); refine CutR.out ?_)) | (((with_reducible show wpAny _ _ (execs (Stmt.If (Expr.UnaryOp _ _ _) _ _ _ :: _) _) _ _ _); refine CutR.out ?_))) | ((with_reducible show wpAny _ _ (eval (Expr.ListComp _ _ _ _) _) _ _ _); first | (with_reducible (k_here; k_dflt (refine' comp_flat ?hh ?cl ?cell ?kind ?names ?x1 ?x2 ?d1 ?d2 ?_; (case hh => exact rfl); (case cl => exact rfl); (case cell => decide); (case kind => exact rfl); (case names => decide); (case x1 => exact rfl); (case x2 => exact rfl); (case d1 => decide); (case d2 => decide); k_whole)))) | ((with_reducible show wpAny _ _ (exec (Stmt.Assign _ (Expr.ListComp _ _ _ _) _) _) _ _ _); first | (with_reducible (k_here; (with_reducible rename Fr _ _ _ _ => kF); k_dflt (refine' comp_nestA (fun _ => rule_tuple) ?hh ?hsw ?cl ?cell ?kind ?names ?cl2 ?cell2 ?kind2 ?names2 ?xn ?db (frL kF) ?hLe ?hy ?hp ?_; (case hh => exact rfl); (case hsw => with_unfolding_all rfl); (case cl => exact rfl); (case cell => decide); (case kind => exact rfl); (case names => decide); (case cl2 => intro _; exact rfl); (case cell2 => decide); (case kind2 => exact rfl); (case names2 => decide); (case xn => exact rfl); (case db => decide); (case hLe => exact rfl); (case hy => exact rfl); (case hp => exact rfl); k_whole; (dsimp only [frL])))) | ((k_here; (with_reducible rename Fr _ _ _ _ => kF); k_dflt (refine' comp_nestA (fun _ => rule_tuple) ?hh ?hsw ?cl ?cell ?kind ?names ?cl2 ?cell2 ?kind2 ?names2 ?xn ?db (frL kF) ?hLe ?hy ?hp ?_; (case hh => exact rfl); (case hsw => with_unfolding_all rfl); (case cl => exact rfl); (case cell => decide); (case kind => exact rfl); (case names => decide); (case cl2 => intro _; exact rfl); (case cell2 => decide); (case kind2 => exact rfl); (case names2 => decide); (case xn => exact rfl); (case db => decide); (case hLe => exact rfl); (case hy => exact rfl); (case hp => exact rfl); k_whole; (dsimp only [frL]))))) | ((with_reducible show wpAny _ _ (subscriptTail _ _ _ _) _ _ _); first | (with_reducible (k_here; (with_reducible show wpAny _ _ (subscriptTail _ _ (Value.ref _) (Value.int _ _)) _ _ _); k_dflt ((with_unfolding_all refine' my_item2 ?k1 ?k2 ?k3 ?k4 ?_; (case k1 => is_list); (case k2 => assumption); (case k3 => omega); (case k4 => assumption); k_whole); intro vq hvq; (first | (have hp9q := All2.get (by assumption) hvq (by with_reducible assumption); (obtain ⟨c9, t9, u9, he9, hm9⟩ := hp9q)) | (have hp9q := All2.at (by assumption) hvq; (obtain ⟨pt9, hpt9, c9, t9, u9, he9, hm9⟩ := hp9q))); subst he9; (have hne9q := neAll_at (by with_reducible assumption) hm9); (with_reducible rename News _ _ _ _ => kN); (have N'q := news_more (q := (c9, ptObj _ t9 u9)) kN (by repeat (first | exact hm9 | exact List.mem_append_left _ hm9 | exact List.mem_append_right _ hm9 | refine List.Mem.tail _ ?_ | refine List.mem_append_right _ ?_))); clear kN hvq hm9)))) | ((with_reducible show wpAny _ _ (subscriptTail _ _ _ _) _ _ _); first | (with_reducible (k_here; (with_reducible show wpAny _ _ (subscriptTail _ _ (Value.ref _) (Value.int _ _)) _ _ _); k_dflt ((with_unfolding_all refine' my_item2 ?k1 ?k2 ?k3 ?k4 ?_; (case k1 => is_list); (case k2 => assumption); (case k3 => omega); (case k4 => assumption); k_whole); intro vq hvq; (first | (have hp9q := All2.get (by assumption) hvq (by with_reducible assumption); (obtain ⟨c9, t9, u9, he9, hm9⟩ := hp9q)) | (have hp9q := All2.at (by assumption) hvq; (obtain ⟨pt9, hpt9, c9, t9, u9, he9, hm9⟩ := hp9q))); subst he9; (have hne9q := neAll_at (by with_reducible assumption) hm9); (with_reducible rename News _ _ _ _ => kN); (have N'q := news_more (q := (c9, ptObj _ t9 u9)) kN (by repeat (first | exact hm9 | exact List.mem_append_left _ hm9 | exact List.mem_append_right _ hm9 | refine List.Mem.tail _ ?_ | refine List.mem_append_right _ ?_))); clear kN hvq hm9))) | (with_reducible (k_here; (with_reducible show wpAny _ _ (subscriptTail _ _ (Value.ref _) (Value.int _ _)) _ _ _); k_dflt (refine' item_tupleT ?t ?a ?b ?c ?d ?_; (case t => exact News.isTup (by k_asm) (by k_mem)); (case a => decide); (case b => decide); (case c => rfl); (case d => rfl); k_whole)))) | ((with_reducible show wpAny _ _ (compareOp CmpOp.NotEq (Value.ref _) (Value.ref _)) _ _ _); first | (with_reducible (k_here; k_dflt ((with_reducible rename News _ _ _ _ => kN); refine' ne_rows ?h1 ?h2 ?e ?hu ?_; (case h1 => (refine' RowsAt.mono ?_ (by with_reducible assumption); intro c9q o9q hm9q; exact (kN (c9q, o9q) (by repeat (first | exact hm9q | exact List.mem_append_left _ hm9q | exact List.mem_append_right _ hm9q | refine List.Mem.tail _ ?_ | refine List.mem_append_right _ ?_))).1)); (case h2 => (refine' RowsAt.mono ?_ (by with_reducible assumption); intro c9q o9q hm9q; exact (kN (c9q, o9q) (by repeat (first | exact hm9q | exact List.mem_append_left _ hm9q | exact List.mem_append_right _ hm9q | refine List.Mem.tail _ ?_ | refine List.mem_append_right _ ?_))).1)); (case e => first | rfl | (simp only [List.map_map, Function.comp_def]; done)); (case hu => ktr_units); k_whole))) | ((k_here; k_dflt ((with_reducible rename News _ _ _ _ => kN); refine' ne_rows ?h1 ?h2 ?e ?hu ?_; (case h1 => (refine' RowsAt.mono ?_ (by with_reducible assumption); intro c9q o9q hm9q; exact (kN (c9q, o9q) (by repeat (first | exact hm9q | exact List.mem_append_left _ hm9q | exact List.mem_append_right _ hm9q | refine List.Mem.tail _ ?_ | refine List.mem_append_right _ ?_))).1)); (case h2 => (refine' RowsAt.mono ?_ (by with_reducible assumption); intro c9q o9q hm9q; exact (kN (c9q, o9q) (by repeat (first | exact hm9q | exact List.mem_append_left _ hm9q | exact List.mem_append_right _ hm9q | refine List.Mem.tail _ ?_ | refine List.mem_append_right _ ?_))).1)); (case e => first | rfl | (simp only [List.map_map, Function.comp_def]; done)); (case hu => ktr_units); k_whole)))) | ((with_reducible show wpAny _ _ (call (Value.ref _) _) _ _ _); first | (with_reducible (k_here; (with_reducible show wpAny _ _ (call (Value.ref 253) [Value.ref _, Value.ref _, Value.ref _]) _ _ _); k_dflt ( refine' placed_p _ _ _ _ _ _ _ _ _ _ _ _ _ _ _ _ _ _ _ _ _ _ _ _ _ _ _ _ _ _ _ _ _ _ _ _ _ _ _ _ _ _ _ _ _ _ _ _ ?C ?Ox ?Od ?Os ?Oc ?hvi ?hvo ?hsi ?hso ?ha ?hb ?hc ?hdd ?hf ?hn ?hpa ?hpb ?hd ?hu ?_; (case C => exact Cx.next (by assumption) (by assumption) (by assumption) rfl rfl); (case Ox => exact own_of (by assumption) (by assumption) (by k_mem) rfl); (case Od => exact own_of (by assumption) (by assumption) (by k_mem) rfl); (case Os => exact own_of (by assumption) (by assumption) (by k_mem) rfl); (case hvi => with_reducible assumption); (case hvo => with_reducible assumption); (case Oc => ((with_reducible rename News _ _ _ _ => kN); intro q9q hm9q; exact own_of (a := q9q.1) (o := q9q.2) (by assumption) kN (by repeat (first | exact hm9q | exact List.mem_append_left _ hm9q | exact List.mem_append_right _ hm9q | refine List.Mem.tail _ ?_ | refine List.mem_append_right _ ?_)) rfl)); (case hsi => assumption); (case hso => assumption); (case ha => assumption); (case hb => assumption); (case hc => assumption); (case hdd => assumption); (case hf => omega); (case hn => omega); (case hpa => with_reducible assumption); (case hpb => with_reducible assumption); (case hd => ktr_room); (case hu => ktr_units); k_whole; intro v'q h'q tk'q hKq hRq; (obtain ⟨cv9, hcv9⟩ := rows_ref hRq); subst hcv9; (with_reducible rename Fr _ _ _ _ => kF); (with_reducible rename News _ _ _ _ => kN); have F'q := fr_kp0 kF hKq; obtain ⟨rest9, N', hoff9, hR9⟩ := news_rows0 kF kN hKq hRq; ((try dsimp only [List.cons_append, List.nil_append] at N'); (try simp only [List.append_assoc, List.cons_append] at N')); clear hKq hRq; (try k_sweep)))) | (with_reducible (k_here; (with_reducible show wpAny _ _ (call (Value.ref 221) _) _ _ _); k_dflt (refine' mkPart _ _ _ _ _ _ _ _ _ _ _ _ _ _ _ _ _ _ _ _ _ _ ?C ?a ?b ?_; (case C => exact Cx.next (by assumption) (by assumption) (by assumption) rfl rfl); (case a => ktr_room); (case b => ktr_units); k_whole; unfold RetPart; intro xq dxq e1q e2q e3q e4q e5q k1q k2q k3q k4q k5q tgq tfq tsq h'q tk'q hKq hxq hdxq hxdq h1q h2q; (with_reducible rename Fr _ _ _ _ => kF); (with_reducible rename News _ _ _ _ => kN); have F'q := fr_kp0 kF hKq; have N'q := news_kp0 kN hKq; have N2q := news_new kF N'q hdxq h2q; have N3q := news_new kF N2q hxq h1q; have hne1q := neAll xq kN hxq; have hne2q := neAll dxq kN hdxq; replace hxdq : NeA _ _ := hxdq; clear N'q N2q hKq hxq hdxq h1q h2q; (try k_sweep)))) | (with_reducible (k_here; k_dflt ( (with_reducible show wpAny _ _ (call (Value.ref 281) _) _ _ _); refine' take_ok _ _ _ _ _ _ _ _ _ _ _ _ _ _ _ _ _ _ _ _ _ _ ?C ?O ?hx ?hy ?hy2 ?ht ?ht2 ?hd ?hu ?_; (case C => exact Cx.next (by assumption) (by assumption) (by assumption) rfl rfl); (case O => exact own_of (by assumption) (by assumption) (by k_mem) rfl); (case hx => assumption); (case hy => assumption); (case hy2 => assumption); (case ht => first | decide | omega | (push_cast; omega)); (case ht2 => first | decide | omega); (case hd => ktr_room); (case hu => ktr_units); k_whole; intro rq x'q y'q tq t1q t2q h'q tk'q hr0q hr1q hx'q hy'q hy2'q hKq hsq; (with_reducible rename Fr _ _ _ _ => kF); (with_reducible rename News _ _ _ _ => kN); have F'q := fr_kp1 kF kN (by k_mem) hKq; have N'q := news_upd kN hKq (by k_upd) hsq; clear hKq hsq; (try k_sweep))))) | ((with_reducible show wpAny _ _ (call (Value.builtin _) _) _ _ _); first | (with_reducible (k_here; (with_reducible show wpAny _ _ (call (Value.builtin _) [Value.ref _]) _ _ _); (with_unfolding_all refine' my_len ?k1 ?k2 ?_; (case k1 => is_list); (case k2 => assumption); k_whole)))) | ((with_reducible show wpAny _ _ (eval (Expr.Name _ _) _) _ _ _); first | (with_reducible (k_here; k_dflt (refine' nameX_L ?F ?v ?_ ?a ?b; (case F => k_asm); (case a => rfl); (case b => rfl); (case v => first | with_reducible assumption | exact (if_neg (by decide)).trans (by with_reducible assumption)); k_whole)))) | (with_reducible (k_here; first | ((with_reducible refine ite_pos ?h ?_); (case h => omega)) | ((with_reducible refine ite_neg ?h ?_); (case h => omega)))) | ((k_here; first | ((with_reducible refine ite_pos ?h ?_); (case h => omega)) | ((with_reducible refine ite_neg ?h ?_); (case h => omega)))) | walk1 | (dsimp only; (with_reducible show wpAny _ _ _ _ _ _)) | (leave1; walk_say "STEP leave1"; try dsimp only) | fail "no step"))
  (with_reducible rename Fr _ _ _ _ => kF); (with_reducible rename News _ _ _ _ => kN)
  (with_reducible rename ro.flatten[_]? = some _ => hpa)
  (with_reducible rename (List.map (List.map (trPt a b c d)) ri).flatten[_]? = some _ => hpb)
  obtain ⟨pa, epa⟩ := nameit hpa
  subst epa
  obtain ⟨po, epo⟩ := nameit hpb
  subst epo
  refine' ⟨mvPt (pa.1 - po.1) (pa.2.1 - po.2.1), fun c o => (c, o) ∈ cods, ri.map (List.map (trPt a b c d)), _, kF.ns, hvl, ?hM, ?q1, ?q2, ?turn, ?fin⟩
  case hM => exact fun c9 o9 hm9 => ⟨(kN (c9, o9) (by repeat (first | exact hm9 | exact List.mem_append_left _ hm9 | exact List.mem_append_right _ hm9 | refine List.Mem.tail _ ?_ | refine List.mem_append_right _ ?_))).1, (kN (c9, o9) (by repeat (first | exact hm9 | exact List.mem_append_left _ hm9 | exact List.mem_append_right _ hm9 | refine List.Mem.tail _ ?_ | refine List.mem_append_right _ ?_))).2.1⟩
  case q1 => exact (Sm.map hsi).small.1
  case q2 => exact (Sm.map hsi).small.2
  case turn =>
    intro C1 C2 v2 x2 s₃ oC m₃ E' hP hM3 eC hoC hC hk hkL hs₃
    obtain ⟨c2, t1, t2, rfl, hm2⟩ := hP
    obtain ⟨h3, tk3, rfl⟩ := hs₃
    refine assign3 rfl ⟨_, (hM3 _ _ hm2).1, rfl, _, rfl⟩ rfl rfl rfl (by decide) (by decide) (by decide) rfl eC hoC fun h4 tk4 oC4 m4 eC4 hoC4 hx1 hx2 hx3 hk4 => ?_
    obtain ⟨F4, hneC, rest, N4, hr⟩ := turn_in2 kF kN hC hk hkL hk4 eC4
    (try dsimp only [List.cons_append, List.nil_append] at N4)
    have hmm : ∀ m', h3.Ns _ m' → m' = _ := fun m' hm' => ns_unique (fr_kpL kF hk hkL).ns hm'
    clear kN eC hoC eC4 hk hkL
    (repeat' (first | (k_unfold; (try dsimp only)) | (k_end; wrow_close) | ((with_reducible show wpAny _ _ (execs (_ :: _) _) _ _ _); first | (with_reducible ((with_reducible show wpAny _ _ (execs (Stmt.If (Expr.UnaryOp _ _ _) _ _ _ :: _) _) _ _ _); refine CutR.out ?_)) | (((with_reducible show wpAny _ _ (execs (Stmt.If (Expr.UnaryOp _ _ _) _ _ _ :: _) _) _ _ _); refine CutR.out ?_))) | ((with_reducible show wpAny _ _ (eval (Expr.ListComp _ _ _ _) _) _ _ _); first | (with_reducible (k_here; k_dflt (refine' comp_flat ?hh ?cl ?cell ?kind ?names ?x1 ?x2 ?d1 ?d2 ?_; (case hh => exact rfl); (case cl => exact rfl); (case cell => decide); (case kind => exact rfl); (case names => decide); (case x1 => exact rfl); (case x2 => exact rfl); (case d1 => decide); (case d2 => decide); k_whole)))) | ((with_reducible show wpAny _ _ (exec (Stmt.Assign _ (Expr.ListComp _ _ _ _) _) _) _ _ _); first | (with_reducible (k_here; (with_reducible rename Fr _ _ _ _ => kF); k_dflt (refine' comp_nestA (fun _ => rule_tuple) ?hh ?hsw ?cl ?cell ?kind ?names ?cl2 ?cell2 ?kind2 ?names2 ?xn ?db (frL kF) ?hLe ?hy ?hp ?_; (case hh => exact rfl); (case hsw => with_unfolding_all rfl); (case cl => exact rfl); (case cell => decide); (case kind => exact rfl); (case names => decide); (case cl2 => intro _; exact rfl); (case cell2 => decide); (case kind2 => exact rfl); (case names2 => decide); (case xn => exact rfl); (case db => decide); (case hLe => exact rfl); (case hy => exact rfl); (case hp => exact rfl); k_whole; (dsimp only [frL])))) | ((k_here; (with_reducible rename Fr _ _ _ _ => kF); k_dflt (refine' comp_nestA (fun _ => rule_tuple) ?hh ?hsw ?cl ?cell ?kind ?names ?cl2 ?cell2 ?kind2 ?names2 ?xn ?db (frL kF) ?hLe ?hy ?hp ?_; (case hh => exact rfl); (case hsw => with_unfolding_all rfl); (case cl => exact rfl); (case cell => decide); (case kind => exact rfl); (case names => decide); (case cl2 => intro _; exact rfl); (case cell2 => decide); (case kind2 => exact rfl); (case names2 => decide); (case xn => exact rfl); (case db => decide); (case hLe => exact rfl); (case hy => exact rfl); (case hp => exact rfl); k_whole; (dsimp only [frL]))))) | ((with_reducible show wpAny _ _ (subscriptTail _ _ _ _) _ _ _); first | (with_reducible (k_here; (with_reducible show wpAny _ _ (subscriptTail _ _ (Value.ref _) (Value.int _ _)) _ _ _); k_dflt ((with_unfolding_all refine' my_item2 ?k1 ?k2 ?k3 ?k4 ?_; (case k1 => is_list); (case k2 => assumption); (case k3 => omega); (case k4 => assumption); k_whole); intro vq hvq; (first | (have hp9q := All2.get (by assumption) hvq (by with_reducible assumption); (obtain ⟨c9, t9, u9, he9, hm9⟩ := hp9q)) | (have hp9q := All2.at (by assumption) hvq; (obtain ⟨pt9, hpt9, c9, t9, u9, he9, hm9⟩ := hp9q))); subst he9; (have hne9q := neAll_at (by with_reducible assumption) hm9); (with_reducible rename News _ _ _ _ => kN); (have N'q := news_more (q := (c9, ptObj _ t9 u9)) kN (by repeat (first | exact hm9 | exact List.mem_append_left _ hm9 | exact List.mem_append_right _ hm9 | refine List.Mem.tail _ ?_ | refine List.mem_append_right _ ?_))); clear kN hvq hm9)))) | ((with_reducible show wpAny _ _ (subscriptTail _ _ _ _) _ _ _); first | (with_reducible (k_here; (with_reducible show wpAny _ _ (subscriptTail _ _ (Value.ref _) (Value.int _ _)) _ _ _); k_dflt ((with_unfolding_all refine' my_item2 ?k1 ?k2 ?k3 ?k4 ?_; (case k1 => is_list); (case k2 => assumption); (case k3 => omega); (case k4 => assumption); k_whole); intro vq hvq; (first | (have hp9q := All2.get (by assumption) hvq (by with_reducible assumption); (obtain ⟨c9, t9, u9, he9, hm9⟩ := hp9q)) | (have hp9q := All2.at (by assumption) hvq; (obtain ⟨pt9, hpt9, c9, t9, u9, he9, hm9⟩ := hp9q))); subst he9; (have hne9q := neAll_at (by with_reducible assumption) hm9); (with_reducible rename News _ _ _ _ => kN); (have N'q := news_more (q := (c9, ptObj _ t9 u9)) kN (by repeat (first | exact hm9 | exact List.mem_append_left _ hm9 | exact List.mem_append_right _ hm9 | refine List.Mem.tail _ ?_ | refine List.mem_append_right _ ?_))); clear kN hvq hm9))) | (with_reducible (k_here; (with_reducible show wpAny _ _ (subscriptTail _ _ (Value.ref _) (Value.int _ _)) _ _ _); k_dflt (refine' item_tupleT ?t ?a ?b ?c ?d ?_; (case t => exact News.isTup (by k_asm) (by k_mem)); (case a => decide); (case b => decide); (case c => rfl); (case d => rfl); k_whole)))) | ((with_reducible show wpAny _ _ (compareOp CmpOp.NotEq (Value.ref _) (Value.ref _)) _ _ _); first | (with_reducible (k_here; k_dflt ((with_reducible rename News _ _ _ _ => kN); refine' ne_rows ?h1 ?h2 ?e ?hu ?_; (case h1 => (refine' RowsAt.mono ?_ (by with_reducible assumption); intro c9q o9q hm9q; exact (kN (c9q, o9q) (by repeat (first | exact hm9q | exact List.mem_append_left _ hm9q | exact List.mem_append_right _ hm9q | refine List.Mem.tail _ ?_ | refine List.mem_append_right _ ?_))).1)); (case h2 => (refine' RowsAt.mono ?_ (by with_reducible assumption); intro c9q o9q hm9q; exact (kN (c9q, o9q) (by repeat (first | exact hm9q | exact List.mem_append_left _ hm9q | exact List.mem_append_right _ hm9q | refine List.Mem.tail _ ?_ | refine List.mem_append_right _ ?_))).1)); (case e => first | rfl | (simp only [List.map_map, Function.comp_def]; done)); (case hu => ktr_units); k_whole))) | ((k_here; k_dflt ((with_reducible rename News _ _ _ _ => kN); refine' ne_rows ?h1 ?h2 ?e ?hu ?_; (case h1 => (refine' RowsAt.mono ?_ (by with_reducible assumption); intro c9q o9q hm9q; exact (kN (c9q, o9q) (by repeat (first | exact hm9q | exact List.mem_append_left _ hm9q | exact List.mem_append_right _ hm9q | refine List.Mem.tail _ ?_ | refine List.mem_append_right _ ?_))).1)); (case h2 => (refine' RowsAt.mono ?_ (by with_reducible assumption); intro c9q o9q hm9q; exact (kN (c9q, o9q) (by repeat (first | exact hm9q | exact List.mem_append_left _ hm9q | exact List.mem_append_right _ hm9q | refine List.Mem.tail _ ?_ | refine List.mem_append_right _ ?_))).1)); (case e => first | rfl | (simp only [List.map_map, Function.comp_def]; done)); (case hu => ktr_units); k_whole)))) | ((with_reducible show wpAny _ _ (call (Value.ref _) _) _ _ _); first | (with_reducible (k_here; (with_reducible show wpAny _ _ (call (Value.ref 253) [Value.ref _, Value.ref _, Value.ref _]) _ _ _); k_dflt ( refine' placed_p _ _ _ _ _ _ _ _ _ _ _ _ _ _ _ _ _ _ _ _ _ _ _ _ _ _ _ _ _ _ _ _ _ _ _ _ _ _ _ _ _ _ _ _ _ _ _ _ ?C ?Ox ?Od ?Os ?Oc ?hvi ?hvo ?hsi ?hso ?ha ?hb ?hc ?hdd ?hf ?hn ?hpa ?hpb ?hd ?hu ?_; (case C => exact Cx.next (by assumption) (by assumption) (by assumption) rfl rfl); (case Ox => exact own_of (by assumption) (by assumption) (by k_mem) rfl); (case Od => exact own_of (by assumption) (by assumption) (by k_mem) rfl); (case Os => exact own_of (by assumption) (by assumption) (by k_mem) rfl); (case hvi => with_reducible assumption); (case hvo => with_reducible assumption); (case Oc => ((with_reducible rename News _ _ _ _ => kN); intro q9q hm9q; exact own_of (a := q9q.1) (o := q9q.2) (by assumption) kN (by repeat (first | exact hm9q | exact List.mem_append_left _ hm9q | exact List.mem_append_right _ hm9q | refine List.Mem.tail _ ?_ | refine List.mem_append_right _ ?_)) rfl)); (case hsi => assumption); (case hso => assumption); (case ha => assumption); (case hb => assumption); (case hc => assumption); (case hdd => assumption); (case hf => omega); (case hn => omega); (case hpa => with_reducible assumption); (case hpb => with_reducible assumption); (case hd => ktr_room); (case hu => ktr_units); k_whole; intro v'q h'q tk'q hKq hRq; (obtain ⟨cv9, hcv9⟩ := rows_ref hRq); subst hcv9; (with_reducible rename Fr _ _ _ _ => kF); (with_reducible rename News _ _ _ _ => kN); have F'q := fr_kp0 kF hKq; obtain ⟨rest9, N', hoff9, hR9⟩ := news_rows0 kF kN hKq hRq; ((try dsimp only [List.cons_append, List.nil_append] at N'); (try simp only [List.append_assoc, List.cons_append] at N')); clear hKq hRq; (try k_sweep)))) | (with_reducible (k_here; (with_reducible show wpAny _ _ (call (Value.ref 221) _) _ _ _); k_dflt (refine' mkPart _ _ _ _ _ _ _ _ _ _ _ _ _ _ _ _ _ _ _ _ _ _ ?C ?a ?b ?_; (case C => exact Cx.next (by assumption) (by assumption) (by assumption) rfl rfl); (case a => ktr_room); (case b => ktr_units); k_whole; unfold RetPart; intro xq dxq e1q e2q e3q e4q e5q k1q k2q k3q k4q k5q tgq tfq tsq h'q tk'q hKq hxq hdxq hxdq h1q h2q; (with_reducible rename Fr _ _ _ _ => kF); (with_reducible rename News _ _ _ _ => kN); have F'q := fr_kp0 kF hKq; have N'q := news_kp0 kN hKq; have N2q := news_new kF N'q hdxq h2q; have N3q := news_new kF N2q hxq h1q; have hne1q := neAll xq kN hxq; have hne2q := neAll dxq kN hdxq; replace hxdq : NeA _ _ := hxdq; clear N'q N2q hKq hxq hdxq h1q h2q; (try k_sweep)))) | (with_reducible (k_here; k_dflt ( (with_reducible show wpAny _ _ (call (Value.ref 281) _) _ _ _); refine' take_ok _ _ _ _ _ _ _ _ _ _ _ _ _ _ _ _ _ _ _ _ _ _ ?C ?O ?hx ?hy ?hy2 ?ht ?ht2 ?hd ?hu ?_; (case C => exact Cx.next (by assumption) (by assumption) (by assumption) rfl rfl); (case O => exact own_of (by assumption) (by assumption) (by k_mem) rfl); (case hx => assumption); (case hy => assumption); (case hy2 => assumption); (case ht => first | decide | omega | (push_cast; omega)); (case ht2 => first | decide | omega); (case hd => ktr_room); (case hu => ktr_units); k_whole; intro rq x'q y'q tq t1q t2q h'q tk'q hr0q hr1q hx'q hy'q hy2'q hKq hsq; (with_reducible rename Fr _ _ _ _ => kF); (with_reducible rename News _ _ _ _ => kN); have F'q := fr_kp1 kF kN (by k_mem) hKq; have N'q := news_upd kN hKq (by k_upd) hsq; clear hKq hsq; (try k_sweep))))) | ((with_reducible show wpAny _ _ (call (Value.builtin _) _) _ _ _); first | (with_reducible (k_here; (with_reducible show wpAny _ _ (call (Value.builtin _) [Value.ref _]) _ _ _); (with_unfolding_all refine' my_len ?k1 ?k2 ?_; (case k1 => is_list); (case k2 => assumption); k_whole)))) | ((with_reducible show wpAny _ _ (eval (Expr.Name _ _) _) _ _ _); first | (with_reducible (k_here; k_dflt (refine' nameX_L ?F ?v ?_ ?a ?b; (case F => k_asm); (case a => rfl); (case b => rfl); (case v => first | with_reducible assumption | exact (if_neg (by decide)).trans (by with_reducible assumption)); k_whole)))) | (with_reducible (k_here; first | ((with_reducible refine ite_pos ?h ?_); (case h => omega)) | ((with_reducible refine ite_neg ?h ?_); (case h => omega)))) | ((k_here; first | ((with_reducible refine ite_pos ?h ?_); (case h => omega)) | ((with_reducible refine ite_neg ?h ?_); (case h => omega)))) | walk1 | (dsimp only; (with_reducible show wpAny _ _ _ _ _ _)) | (leave1; walk_say "STEP leave1"; try dsimp only) | fail "no step"))
    (with_reducible rename Fr _ _ _ _ => kF9)
    (with_reducible rename News _ _ _ _ => kN9)
    (with_reducible rename AllLt _ _ => l9)
    exact turn_out2 rfl hr hk4 hoC4 hmm kF9 kN9 (by k_mem) (by intro p hp; repeat (first | exact hp | exact List.mem_append_right _ hp | refine List.Mem.tail _ ?_)) (.head _) (by clear hret; repeat (first | exact l9 | exact allLt_right l9 | replace l9 := l9.2)) (Nat.ne_of_gt l9.1) (fun nm => ⟨_, _, _, rfl, nm⟩)
  case fin =>
    intro D9 h9 tk9 hD hk hkL hR
    have kF9 := fr_kpA kF hk (hkL _ kF.ns)
    obtain ⟨rest9, N9, hoff9, _, hR9⟩ := news_rows kF kN hk hR
    ((try dsimp only [List.cons_append, List.nil_append] at N9); (try simp only [List.append_assoc, List.cons_append] at N9))
    clear kF kN hk hkL hR
    (try k_unfold); (try dsimp only)
    (repeat' (first | (k_unfold; (try dsimp only)) | (k_end; wrow_close) | ((with_reducible show wpAny _ _ (execs (_ :: _) _) _ _ _); first | (with_reducible ((with_reducible show wpAny _ _ (execs (Stmt.If (Expr.UnaryOp _ _ _) _ _ _ :: _) _) _ _ _); refine CutR.out ?_)) | (((with_reducible show wpAny _ _ (execs (Stmt.If (Expr.UnaryOp _ _ _) _ _ _ :: _) _) _ _ _); refine CutR.out ?_))) | ((with_reducible show wpAny _ _ (eval (Expr.ListComp _ _ _ _) _) _ _ _); first | (with_reducible (k_here; k_dflt (refine' comp_flat ?hh ?cl ?cell ?kind ?names ?x1 ?x2 ?d1 ?d2 ?_; (case hh => exact rfl); (case cl => exact rfl); (case cell => decide); (case kind => exact rfl); (case names => decide); (case x1 => exact rfl); (case x2 => exact rfl); (case d1 => decide); (case d2 => decide); k_whole)))) | ((with_reducible show wpAny _ _ (exec (Stmt.Assign _ (Expr.ListComp _ _ _ _) _) _) _ _ _); first | (with_reducible (k_here; (with_reducible rename Fr _ _ _ _ => kF); k_dflt (refine' comp_nestA (fun _ => rule_tuple) ?hh ?hsw ?cl ?cell ?kind ?names ?cl2 ?cell2 ?kind2 ?names2 ?xn ?db (frL kF) ?hLe ?hy ?hp ?_; (case hh => exact rfl); (case hsw => with_unfolding_all rfl); (case cl => exact rfl); (case cell => decide); (case kind => exact rfl); (case names => decide); (case cl2 => intro _; exact rfl); (case cell2 => decide); (case kind2 => exact rfl); (case names2 => decide); (case xn => exact rfl); (case db => decide); (case hLe => exact rfl); (case hy => exact rfl); (case hp => exact rfl); k_whole; (dsimp only [frL])))) | ((k_here; (with_reducible rename Fr _ _ _ _ => kF); k_dflt (refine' comp_nestA (fun _ => rule_tuple) ?hh ?hsw ?cl ?cell ?kind ?names ?cl2 ?cell2 ?kind2 ?names2 ?xn ?db (frL kF) ?hLe ?hy ?hp ?_; (case hh => exact rfl); (case hsw => with_unfolding_all rfl); (case cl => exact rfl); (case cell => decide); (case kind => exact rfl); (case names => decide); (case cl2 => intro _; exact rfl); (case cell2 => decide); (case kind2 => exact rfl); (case names2 => decide); (case xn => exact rfl); (case db => decide); (case hLe => exact rfl); (case hy => exact rfl); (case hp => exact rfl); k_whole; (dsimp only [frL]))))) | ((with_reducible show wpAny _ _ (subscriptTail _ _ _ _) _ _ _); first | (with_reducible (k_here; (with_reducible show wpAny _ _ (subscriptTail _ _ (Value.ref _) (Value.int _ _)) _ _ _); k_dflt ((with_unfolding_all refine' my_item2 ?k1 ?k2 ?k3 ?k4 ?_; (case k1 => is_list); (case k2 => assumption); (case k3 => omega); (case k4 => assumption); k_whole); intro vq hvq; (first | (have hp9q := All2.get (by assumption) hvq (by with_reducible assumption); (obtain ⟨c9, t9, u9, he9, hm9⟩ := hp9q)) | (have hp9q := All2.at (by assumption) hvq; (obtain ⟨pt9, hpt9, c9, t9, u9, he9, hm9⟩ := hp9q))); subst he9; (have hne9q := neAll_at (by with_reducible assumption) hm9); (with_reducible rename News _ _ _ _ => kN); (have N'q := news_more (q := (c9, ptObj _ t9 u9)) kN (by repeat (first | exact hm9 | exact List.mem_append_left _ hm9 | exact List.mem_append_right _ hm9 | refine List.Mem.tail _ ?_ | refine List.mem_append_right _ ?_))); clear kN hvq hm9)))) | ((with_reducible show wpAny _ _ (subscriptTail _ _ _ _) _ _ _); first | (with_reducible (k_here; (with_reducible show wpAny _ _ (subscriptTail _ _ (Value.ref _) (Value.int _ _)) _ _ _); k_dflt ((with_unfolding_all refine' my_item2 ?k1 ?k2 ?k3 ?k4 ?_; (case k1 => is_list); (case k2 => assumption); (case k3 => omega); (case k4 => assumption); k_whole); intro vq hvq; (first | (have hp9q := All2.get (by assumption) hvq (by with_reducible assumption); (obtain ⟨c9, t9, u9, he9, hm9⟩ := hp9q)) | (have hp9q := All2.at (by assumption) hvq; (obtain ⟨pt9, hpt9, c9, t9, u9, he9, hm9⟩ := hp9q))); subst he9; (have hne9q := neAll_at (by with_reducible assumption) hm9); (with_reducible rename News _ _ _ _ => kN); (have N'q := news_more (q := (c9, ptObj _ t9 u9)) kN (by repeat (first | exact hm9 | exact List.mem_append_left _ hm9 | exact List.mem_append_right _ hm9 | refine List.Mem.tail _ ?_ | refine List.mem_append_right _ ?_))); clear kN hvq hm9))) | (with_reducible (k_here; (with_reducible show wpAny _ _ (subscriptTail _ _ (Value.ref _) (Value.int _ _)) _ _ _); k_dflt (refine' item_tupleT ?t ?a ?b ?c ?d ?_; (case t => exact News.isTup (by k_asm) (by k_mem)); (case a => decide); (case b => decide); (case c => rfl); (case d => rfl); k_whole)))) | ((with_reducible show wpAny _ _ (compareOp CmpOp.NotEq (Value.ref _) (Value.ref _)) _ _ _); first | (with_reducible (k_here; k_dflt ((with_reducible rename News _ _ _ _ => kN); refine' ne_rows ?h1 ?h2 ?e ?hu ?_; (case h1 => (refine' RowsAt.mono ?_ (by with_reducible assumption); intro c9q o9q hm9q; exact (kN (c9q, o9q) (by repeat (first | exact hm9q | exact List.mem_append_left _ hm9q | exact List.mem_append_right _ hm9q | refine List.Mem.tail _ ?_ | refine List.mem_append_right _ ?_))).1)); (case h2 => (refine' RowsAt.mono ?_ (by with_reducible assumption); intro c9q o9q hm9q; exact (kN (c9q, o9q) (by repeat (first | exact hm9q | exact List.mem_append_left _ hm9q | exact List.mem_append_right _ hm9q | refine List.Mem.tail _ ?_ | refine List.mem_append_right _ ?_))).1)); (case e => first | rfl | (simp only [List.map_map, Function.comp_def]; done)); (case hu => ktr_units); k_whole))) | ((k_here; k_dflt ((with_reducible rename News _ _ _ _ => kN); refine' ne_rows ?h1 ?h2 ?e ?hu ?_; (case h1 => (refine' RowsAt.mono ?_ (by with_reducible assumption); intro c9q o9q hm9q; exact (kN (c9q, o9q) (by repeat (first | exact hm9q | exact List.mem_append_left _ hm9q | exact List.mem_append_right _ hm9q | refine List.Mem.tail _ ?_ | refine List.mem_append_right _ ?_))).1)); (case h2 => (refine' RowsAt.mono ?_ (by with_reducible assumption); intro c9q o9q hm9q; exact (kN (c9q, o9q) (by repeat (first | exact hm9q | exact List.mem_append_left _ hm9q | exact List.mem_append_right _ hm9q | refine List.Mem.tail _ ?_ | refine List.mem_append_right _ ?_))).1)); (case e => first | rfl | (simp only [List.map_map, Function.comp_def]; done)); (case hu => ktr_units); k_whole)))) | ((with_reducible show wpAny _ _ (call (Value.ref _) _) _ _ _); first | (with_reducible (k_here; (with_reducible show wpAny _ _ (call (Value.ref 253) [Value.ref _, Value.ref _, Value.ref _]) _ _ _); k_dflt ( refine' placed_p _ _ _ _ _ _ _ _ _ _ _ _ _ _ _ _ _ _ _ _ _ _ _ _ _ _ _ _ _ _ _ _ _ _ _ _ _ _ _ _ _ _ _ _ _ _ _ _ ?C ?Ox ?Od ?Os ?Oc ?hvi ?hvo ?hsi ?hso ?ha ?hb ?hc ?hdd ?hf ?hn ?hpa ?hpb ?hd ?hu ?_; (case C => exact Cx.next (by assumption) (by assumption) (by assumption) rfl rfl); (case Ox => exact own_of (by assumption) (by assumption) (by k_mem) rfl); (case Od => exact own_of (by assumption) (by assumption) (by k_mem) rfl); (case Os => exact own_of (by assumption) (by assumption) (by k_mem) rfl); (case hvi => with_reducible assumption); (case hvo => with_reducible assumption); (case Oc => ((with_reducible rename News _ _ _ _ => kN); intro q9q hm9q; exact own_of (a := q9q.1) (o := q9q.2) (by assumption) kN (by repeat (first | exact hm9q | exact List.mem_append_left _ hm9q | exact List.mem_append_right _ hm9q | refine List.Mem.tail _ ?_ | refine List.mem_append_right _ ?_)) rfl)); (case hsi => assumption); (case hso => assumption); (case ha => assumption); (case hb => assumption); (case hc => assumption); (case hdd => assumption); (case hf => omega); (case hn => omega); (case hpa => with_reducible assumption); (case hpb => with_reducible assumption); (case hd => ktr_room); (case hu => ktr_units); k_whole; intro v'q h'q tk'q hKq hRq; (obtain ⟨cv9, hcv9⟩ := rows_ref hRq); subst hcv9; (with_reducible rename Fr _ _ _ _ => kF); (with_reducible rename News _ _ _ _ => kN); have F'q := fr_kp0 kF hKq; obtain ⟨rest9, N', hoff9, hR9⟩ := news_rows0 kF kN hKq hRq; ((try dsimp only [List.cons_append, List.nil_append] at N'); (try simp only [List.append_assoc, List.cons_append] at N')); clear hKq hRq; (try k_sweep)))) | (with_reducible (k_here; (with_reducible show wpAny _ _ (call (Value.ref 221) _) _ _ _); k_dflt (refine' mkPart _ _ _ _ _ _ _ _ _ _ _ _ _ _ _ _ _ _ _ _ _ _ ?C ?a ?b ?_; (case C => exact Cx.next (by assumption) (by assumption) (by assumption) rfl rfl); (case a => ktr_room); (case b => ktr_units); k_whole; unfold RetPart; intro xq dxq e1q e2q e3q e4q e5q k1q k2q k3q k4q k5q tgq tfq tsq h'q tk'q hKq hxq hdxq hxdq h1q h2q; (with_reducible rename Fr _ _ _ _ => kF); (with_reducible rename News _ _ _ _ => kN); have F'q := fr_kp0 kF hKq; have N'q := news_kp0 kN hKq; have N2q := news_new kF N'q hdxq h2q; have N3q := news_new kF N2q hxq h1q; have hne1q := neAll xq kN hxq; have hne2q := neAll dxq kN hdxq; replace hxdq : NeA _ _ := hxdq; clear N'q N2q hKq hxq hdxq h1q h2q; (try k_sweep)))) | (with_reducible (k_here; k_dflt ( (with_reducible show wpAny _ _ (call (Value.ref 281) _) _ _ _); refine' take_ok _ _ _ _ _ _ _ _ _ _ _ _ _ _ _ _ _ _ _ _ _ _ ?C ?O ?hx ?hy ?hy2 ?ht ?ht2 ?hd ?hu ?_; (case C => exact Cx.next (by assumption) (by assumption) (by assumption) rfl rfl); (case O => exact own_of (by assumption) (by assumption) (by k_mem) rfl); (case hx => assumption); (case hy => assumption); (case hy2 => assumption); (case ht => first | decide | omega | (push_cast; omega)); (case ht2 => first | decide | omega); (case hd => ktr_room); (case hu => ktr_units); k_whole; intro rq x'q y'q tq t1q t2q h'q tk'q hr0q hr1q hx'q hy'q hy2'q hKq hsq; (with_reducible rename Fr _ _ _ _ => kF); (with_reducible rename News _ _ _ _ => kN); have F'q := fr_kp1 kF kN (by k_mem) hKq; have N'q := news_upd kN hKq (by k_upd) hsq; clear hKq hsq; (try k_sweep))))) | ((with_reducible show wpAny _ _ (call (Value.builtin _) _) _ _ _); first | (with_reducible (k_here; (with_reducible show wpAny _ _ (call (Value.builtin _) [Value.ref _]) _ _ _); (with_unfolding_all refine' my_len ?k1 ?k2 ?_; (case k1 => is_list); (case k2 => assumption); k_whole)))) | ((with_reducible show wpAny _ _ (eval (Expr.Name _ _) _) _ _ _); first | (with_reducible (k_here; k_dflt (refine' nameX_L ?F ?v ?_ ?a ?b; (case F => k_asm); (case a => rfl); (case b => rfl); (case v => first | with_reducible assumption | exact (if_neg (by decide)).trans (by with_reducible assumption)); k_whole)))) | (with_reducible (k_here; first | ((with_reducible refine ite_pos ?h ?_); (case h => omega)) | ((with_reducible refine ite_neg ?h ?_); (case h => omega)))) | ((k_here; first | ((with_reducible refine ite_pos ?h ?_); (case h => omega)) | ((with_reducible refine ite_neg ?h ?_); (case h => omega)))) | walk1 | (dsimp only; (with_reducible show wpAny _ _ _ _ _ _)) | (leave1; walk_say "STEP leave1"; try dsimp only) | fail "no step"))
    (with_reducible rename Fr _ _ _ _ => kF); (with_reducible rename News _ _ _ _ => kN)
    refine' pr_c w p loose mean mg mb H₀ _ dp un gd l _ _ _ g _ L' _ _ src ts cown cout _ _ _ _ _ _ _ _ _ _ _ _ _ sn _ _ _ _ ta tb tc td _ _ a b c d _ _ ps cods ri ro C kF ?N B' X' T' hcd ?dS ?dR ?dO ?dL ?dF ?dI ?dC hT l1.1 ?n1 ?n2 n3 n4 ?n5 hvi hvo hsi hso ?wf ?wl ?f4 ?l4 ?f0 ?f1 ?s0 haa hbb hcc hdd hd hu ?_
    case' N =>
      refine' (acons (kN _ (by k_mem)) ((acons (kN _ (by k_mem)) ((acons (kN _ (by k_mem)) ((acons (kN _ (by k_mem)) ((acons (kN _ (by k_mem)) ((acons (kN _ (by k_mem)) ((acons (kN _ (by k_mem)) ((acons (kN _ (by k_mem)) ((acons (kN _ (by k_mem)) (?N2))))))))))))))))))
    case dS => assumption
    case dR => assumption
    case dO => assumption
    case dL => assumption
    case dF => assumption
    case dI => assumption
    case dC => assumption
    case N => exact (acons (kN _ (by k_mem)) ((acons (kN _ (by k_mem)) ((acons (kN _ (by k_mem)) ((acons (kN _ (by k_mem)) ((acons (kN _ (by k_mem)) (fun q9 hm9 => kN q9 (by repeat (first | exact hm9 | exact List.mem_append_left _ hm9 | exact List.mem_append_right _ hm9 | refine List.Mem.tail _ ?_ | refine List.mem_append_right _ ?_))))))))))))
    case wf => assumption
    case wl => assumption
    case f4 => assumption
    case l4 => assumption
    case f0 => assumption
    case f1 => omega
    case s0 => assumption
    case n1 => exact (show _ ≠ _ from by k_ne)
    case n2 => exact (show _ ≠ _ from by k_ne)
    case n5 => exact off_get hoff (by k_mem)
    intro g2 m2 ps' cods' h9 tk9 F9 K9 N9 T9 S9 R9
    exact hret _ _ _ _ _ _ _ _ _ _ F9 K9 N9 (by assumption) (by assumption) (by assumption) T9 S9 R9
end
section
open PySem PySem.Spec PySem.Calls PySem.W PyProof.Rows
theorem Off.addr {rest news news' : List (Addr × Obj)} (h : Off rest news) (x : ∀ q ∈ news', ∃ o, (q.1, o) ∈ news) : Off rest news' := fun q hq p hp => by
  obtain ⟨o, ho⟩ := x q hq
  exact h _ ho p hp
theorem Off.app {a b n : List (Addr × Obj)} (x : Off a n) (y : Off b n) : Off (a ++ b) n := fun q hq p hp => (List.mem_append.mp hp).elim (x q hq p) (y q hq p)
theorem none_rest {g h0 : Heap} {S rest : List (Addr × Obj)} (hg : ∀ b o, h0.get? b = some o → b ∉ List.map (fun q : Addr × Obj => q.1) S → g.get? b = some o) (hn : ∀ q ∈ rest, g.get? q.1 = none) (ho : Off rest S) : ∀ q ∈ rest, h0.get? q.1 = none := fun q hq => by
  cases y : h0.get? q.1 with
  | none => rfl
  | some o =>
    have := hg q.1 o y fun hm => by
      obtain ⟨p, hp, e⟩ := List.mem_map.mp hm
      exact ho p hp q hq e.symm
    rw [hn q hq] at this; cases this
theorem CellsAre.nine {cm : Str → Option Value} {n1 n2 n3 n4 n5 n6 n7 n8 n9 : Str} {c1 c2 c3 c4 c5 c6 c7 c8 c9 : Addr} {cells : List (Addr × Obj)} (x : CellsAre cm [(n1, c1), (n2, c2), (n3, c3), (n4, c4), (n5, c5), (n6, c6), (n7, c7), (n8, c8), (n9, c9)] cells) :
    ∃ o1 o2 o3 o4 o5 o6 o7 o8 o9, cells = [(c1, o1), (c2, o2), (c3, o3), (c4, o4), (c5, o5), (c6, o6), (c7, o7), (c8, o8), (c9, o9)] ∧ o1.data = .cell (cm n1) ∧ o2.data = .cell (cm n2) ∧ o3.data = .cell (cm n3) ∧ o4.data = .cell (cm n4) ∧ o5.data = .cell (cm n5) ∧ o6.data = .cell (cm n6) ∧ o7.data = .cell (cm n7) ∧ o8.data = .cell (cm n8) ∧ o9.data = .cell (cm n9) := by
  cases x with | cons h1 r => cases r with | cons h2 r => cases r with | cons h3 r => cases r with | cons h4 r => cases r with | cons h5 r =>
    obtain ⟨o6, o7, o8, o9, rfl, h6, h7, h8, h9⟩ := r.four
    exact ⟨_, _, _, _, _, o6, o7, o8, o9, rfl, h1, h2, h3, h4, h5, h6, h7, h8, h9⟩
theorem news_rows1 {g h h9 : Heap} {L : Addr} {m : Str → Option Value} {news news' : List (Addr × Obj)} {v : Value} {rows : List (List Pt)} (F : Fr g L h m) (N : News g L h news) (N9 : News g L h9 news') (hR : RowsAt (NM h h9) v rows) :
    ∃ rest, News g L h9 (news' ++ rest) ∧ Off rest news ∧ RowsAt (fun c o => (c, o) ∈ rest) v rows := by
  obtain ⟨rest, hp, hr⟩ := RowsAt.lay (P := fun q => NM h h9 q.1 q.2) hR
  refine ⟨rest, fun q hq => ?_, off_of (h9 := h9) N fun p hq => (hp p hq).2, hr⟩
  rcases List.mem_append.mp hq with hq | hq
  · exact N9 q hq
  · refine ⟨(hp q hq).1, fun z => ?_, ?_⟩
    · obtain ⟨o, _, _, e, _⟩ := F.ns
      have e2 : h.get? q.1 = none := (hp q hq).2
      rw [show q.1 = L from z, e] at e2; cases e2
    · cases z : g.get? q.1 with
      | none => rfl
      | some o => have := F.keep _ _ z; rw [(hp q hq).2] at this; cases this
theorem namelt {r k : Int} (_ : r < k) : ∃ y, y = r := ⟨r, rfl⟩
theorem drop_of {g h : Heap} {L : Addr} {news : List (Addr × Obj)} (_ : News g L h news) (n : Nat) : ∃ T, T = news.drop n := ⟨_, rfl⟩
theorem TabSt.mono {c c' : List (Addr × Obj)} {l1 k1 l2 k2 : Nat} {q1 q2 : Str} {ps : Array Value} (h : ∀ q ∈ c, q ∈ c') (a : TabSt c l1 k1 l2 k2 q1 q2 ps) : TabSt c' l1 k1 l2 k2 q1 q2 ps := by
  rcases a with e | ⟨a1, a2, o1, o2, vs1, vs2, t1, t2, e, m1, m2, r⟩
  · exact .inl e
  · exact .inr ⟨a1, a2, o1, o2, vs1, vs2, t1, t2, e, h _ m1, h _ m2, r⟩
theorem pr_ok : ∀ (w : World) (p : Program) (loose : List Str) (mean : ExcName → Option Value) (mg mb : Str → Option Value) (H₀ : Heap)
  (dp un : Nat) (gd : Option (List Code)) (l : List Env) (s : Shared) (Q E : Value → Shared → Prop) (src ts : Addr) (sx sy : Int) (u1 u2 ta tb tc td : Tok) (sn : Nat) (a b c d : Int) (ps : Array Value) (cods : List (Addr × Obj)),
  Cx (Mine.hd.heap_1 w.params) p loose mean mg mb H₀ l s.heap → (Own H₀ l s.heap src (listOf #[.int sx u1, .int sy u2] sn)) → (Own H₀ l s.heap ts (tup [.int a ta, .int b tb, .int c tc, .int d td])) → (Own H₀ l s.heap 349 (tabObj ps)) → (∀ q ∈ cods, Own H₀ l s.heap q.1 q.2) → (CodeHd H₀ 351 349) → (TabSt cods 247 24 249 24 (Str.ofString "_law_placed_right" ++ ".<locals>." ++ "<lambda>") (Str.ofString "_law_placed_right" ++ ".<locals>." ++ "<lambda>") ps) → (NeA ts 349) → (NeA src 349) → (NeA src ts) → (∀ p ∈ cods, p.1 ≠ 349) → (∀ p ∈ cods, p.1 ≠ src) → (∀ p ∈ cods, p.1 ≠ ts) → (0 ≤ sx) → (0 ≤ sy) → (sy < 2147483647) → (-32768 ≤ a ∧ a < 32768) → (-32768 ≤ b ∧ b < 32768) → (-32768 ≤ c ∧ c < 32768) → (-32768 ≤ d ∧ d < 32768) →
  dp + 44 ≤ 400 → un + 250 ≤ 400 →
  (∀ ps' cods' sx' sy' u1' u2' h' tk', KpF l s.heap h' [src, 349] → h'.get? src = some (listOf #[.int sx' u1', .int sy' u2'] sn) → h'.get? 349 = some (tabObj ps') → (∀ q ∈ cods', h'.get? q.1 = some q.2) → TabSt cods' 247 24 249 24 (Str.ofString "_law_placed_right" ++ ".<locals>." ++ "<lambda>") (Str.ofString "_law_placed_right" ++ ".<locals>." ++ "<lambda>") ps' → (∀ q ∈ cods, q ∈ cods') → (∀ q ∈ cods', q ∈ cods ∨ s.heap.get? q.1 = none) → 0 ≤ sx' → 0 ≤ sy' → sy' < 2147483647 → Q (.bool true) {s with heap := h', toks := tk'}) →
  wpAny (model PySem.Challenge.rw_on0238_01.row.prog w) (AA dp un gd l) (call (.ref 352) [.ref src, .ref ts]) Q E s := by
  k_fill
  w_top off
  intro w p loose mean mg mb H₀ dp un gd l s Q E src ts sx sy u1 u2 ta tb tc td sn a b c d ps cods C O Os Ot Oc hcd hT n3 n4 n6 n5 n7 n8 hx hy hy2 haa hbb hcc hdd hd hu hret
  refine wpAny_call ?_
  let oq0 : Obj := listOf #[.int sx u1, .int sy u2] sn; let oq1 : Obj := tup [.int a ta, .int b tb, .int c tc, .int d td]; k_dflt (refine' enterC C ((src, oq0) :: (ts, oq1) :: (349, tabObj ps) :: cods) ?O ?kA ?k6 ?k7 ?k8 ?k9 ?kB ?kD ?_ ?c2 ?c3 ?c4; (case O => exact (acons (O) ((acons (Os) ((acons (Ot) (Oc))))))); (case kA => exact rfl); (case k6 => k_is); (case k7 => k_is); (case k8 => ktr_room); (case k9 => exact BindsTo.of_eq rfl); (case kB => exact rfl); (case kD => decide +kernel); (case c2 => exact rfl); (case c3 => exact rfl); (case c4 => exact rfl); k_whole; intro g L' h₁ tk' cells hL hcl hg F' N' Y' B' X' T' l1; have lraw := l1; (try k_lt l1); obtain ⟨o1, o2, o3, o4, o5, o6, o7, o8, o9, hE, d1, d2, d3, d4, d5, d6, d7, d8, d9⟩ := CellsAre.nine Y'; subst hE; clear Y'; replace d1 : o1.data = Data.cell none := d1; replace d2 : o2.data = Data.cell none := d2; replace d3 : o3.data = Data.cell none := d3; replace d4 : o4.data = Data.cell none := d4; replace d5 : o5.data = Data.cell none := d5; replace d6 : o6.data = Data.cell none := d6; replace d7 : o7.data = Data.cell none := d7; replace d8 : o8.data = Data.cell none := d8; replace d9 : o9.data = Data.cell (some (.ref ts)) := d9; replace F' : Fr g L' h₁ (fun y => if y = (Str.ofString "source") then some (.ref src) else none) := F'; (dsimp only [List.cons_append, List.nil_append] at N'); (try dsimp only); (try k_fold); (try (refine foldL ?_; intro eV aV)))
  have hcod := And.intro l1.2.2.2 True.intro
  (repeat' (first | (k_unfold; (try dsimp only)) | (k_end; wrow_close) | ((with_reducible show wpAny _ _ (execs (_ :: _) _) _ _ _); first | (with_reducible ((with_reducible show wpAny _ _ (execs (Stmt.Assign [Expr.Tuple (Expr.Name (Str.ofString "fixed") _ :: _) _ _] _ _ :: _) _) _ _ _); refine CutR.out ?_)) | (((with_reducible show wpAny _ _ (execs (Stmt.Assign [Expr.Tuple (Expr.Name (Str.ofString "fixed") _ :: _) _ _] _ _ :: _) _) _ _ _); refine CutR.out ?_))) | ((with_reducible show wpAny _ _ (call (Value.ref _) _) _ _ _); first | (with_reducible (k_here; (with_reducible show wpAny _ _ (call (Value.ref 340) _) _ _ _); k_dflt ( refine' contours_ok _ _ _ _ _ _ _ _ _ _ _ _ _ _ _ _ _ _ _ _ _ _ ?C ?O ?hx ?hy ?hy2 ?hm ?hd ?hu ?_; (case C => exact Cx.next (by assumption) (by assumption) (by assumption) rfl rfl); (case O => exact own_of (by assumption) (by assumption) (by k_mem) rfl); (case hx => assumption); (case hy => assumption); (case hy2 => assumption); (case hm => omega); (case hd => ktr_room); (case hu => ktr_units); k_whole; intro cq rowsq x'q y'q t1'q t2'q h'q tk'q hrnq hKq hsq hRq hSmq hx'q hy'q hy2'q; (with_reducible rename Fr _ _ _ _ => kF); (with_reducible rename News _ _ _ _ => kN); have F'q := fr_kp1 kF kN (by k_mem) hKq; have N1q := news_upd kN hKq (by k_upd) hsq; obtain ⟨rest9, N', hoff9, hR9⟩ := news_rows1 kF kN N1q hRq; ((try dsimp only [List.cons_append, List.nil_append] at N'); (try simp only [List.append_assoc, List.cons_append] at N')); clear N1q hKq hsq hRq hrnq; (try k_sweep)))) | (with_reducible (k_here; (with_reducible show wpAny _ _ (call (Value.ref 347) _) _ _ _); k_dflt ( refine' led_ok _ _ _ _ _ _ _ _ _ _ _ _ _ _ _ _ _ _ _ _ _ _ _ _ _ _ _ ?C ?Ot ?Op ?ha ?hb ?hc ?hdd ?hd ?hu ?_; (case C => exact Cx.next (by assumption) (by assumption) (by assumption) rfl rfl); (case Ot => exact own_of (by assumption) (by assumption) (by k_mem) rfl); (case Op => exact own_of (by assumption) (by assumption) (by repeat (first | with_reducible assumption | exact List.mem_append_left _ (by with_reducible assumption) | exact List.mem_append_right _ (by with_reducible assumption) | refine List.Mem.tail _ ?_ | refine List.mem_append_right _ ?_)) rfl); (case ha => assumption); (case hb => assumption); (case hc => assumption); (case hdd => assumption); (case hd => ktr_room); (case hu => ktr_units); k_whole; intro rq u1q u2q h'q tk'q hrnq hKq hrq; (with_reducible rename Fr _ _ _ _ => kF); (with_reducible rename News _ _ _ _ => kN); have F'q := fr_kp0 kF hKq; have N'q := news_kp0 kN hKq; have N''q := news_new kF N'q hrnq hrq; have hneq := neAll rq kN hrnq; clear N'q hrnq hrq hKq; (try k_sweep)))) | (with_reducible (k_here; (with_reducible show wpAny _ _ (call (Value.ref 253) [Value.ref _, Value.ref _, Value.ref _]) _ _ _); k_dflt ( refine' placed_m _ _ _ _ _ _ _ _ _ _ _ _ _ _ _ _ _ _ _ _ _ _ _ _ _ _ _ _ _ _ _ _ _ _ _ _ _ _ _ _ _ _ _ _ _ ?C ?Ox ?Od ?Os ?hvi ?hvo ?hsi ?hso ?ha ?hb ?hc ?hdd ?hd ?hu ?_; (case C => exact Cx.next (by assumption) (by assumption) (by assumption) rfl rfl); (case Ox => exact own_of (by assumption) (by assumption) (by k_mem) rfl); (case Od => exact own_of (by assumption) (by assumption) (by k_mem) rfl); (case Os => exact own_of (by assumption) (by assumption) (by k_mem) rfl); (case hvi => ((with_reducible rename News _ _ _ _ => kN); refine' RowsAt.mono ?_ (by with_reducible assumption); intro c9q o9q hm9q; exact own_of (o := o9q) (by assumption) kN (by repeat (first | exact hm9q | exact List.mem_append_left _ hm9q | exact List.mem_append_right _ hm9q | refine List.Mem.tail _ ?_ | refine List.mem_append_right _ ?_)) rfl)); (case hvo => ((with_reducible rename News _ _ _ _ => kN); refine' RowsAt.mono ?_ (by with_reducible assumption); intro c9q o9q hm9q; exact own_of (o := o9q) (by assumption) kN (by repeat (first | exact hm9q | exact List.mem_append_left _ hm9q | exact List.mem_append_right _ hm9q | refine List.Mem.tail _ ?_ | refine List.mem_append_right _ ?_)) rfl)); (case hsi => assumption); (case hso => assumption); (case ha => assumption); (case hb => assumption); (case hc => assumption); (case hdd => assumption); (case hd => ktr_room); (case hu => ktr_units); k_whole; intro v'q h'q tk'q hKq hRq; (obtain ⟨cv9, hcv9⟩ := rows_ref hRq); subst hcv9; (with_reducible rename Fr _ _ _ _ => kF); (with_reducible rename News _ _ _ _ => kN); have F'q := fr_kp0 kF hKq; obtain ⟨rest9, N', hoff9, hR9⟩ := news_rows0 kF kN hKq hRq; ((try dsimp only [List.cons_append, List.nil_append] at N'); (try simp only [List.append_assoc, List.cons_append] at N')); clear hKq hRq; (try k_sweep)))) | (with_reducible (k_here; (with_reducible show wpAny _ _ (call (Value.ref 221) _) _ _ _); k_dflt (refine' mkPart _ _ _ _ _ _ _ _ _ _ _ _ _ _ _ _ _ _ _ _ _ _ ?C ?a ?b ?_; (case C => exact Cx.next (by assumption) (by assumption) (by assumption) rfl rfl); (case a => ktr_room); (case b => ktr_units); k_whole; unfold RetPart; intro xq dxq e1q e2q e3q e4q e5q k1q k2q k3q k4q k5q tgq tfq tsq h'q tk'q hKq hxq hdxq hxdq h1q h2q; (with_reducible rename Fr _ _ _ _ => kF); (with_reducible rename News _ _ _ _ => kN); have F'q := fr_kp0 kF hKq; have N'q := news_kp0 kN hKq; have N2q := news_new kF N'q hdxq h2q; have N3q := news_new kF N2q hxq h1q; have hne1q := neAll xq kN hxq; have hne2q := neAll dxq kN hdxq; replace hxdq : NeA _ _ := hxdq; clear N'q N2q hKq hxq hdxq h1q h2q; (try k_sweep)))) | (with_reducible (k_here; k_dflt ( (with_reducible show wpAny _ _ (call (Value.ref 281) _) _ _ _); refine' take_ok _ _ _ _ _ _ _ _ _ _ _ _ _ _ _ _ _ _ _ _ _ _ ?C ?O ?hx ?hy ?hy2 ?ht ?ht2 ?hd ?hu ?_; (case C => exact Cx.next (by assumption) (by assumption) (by assumption) rfl rfl); (case O => exact own_of (by assumption) (by assumption) (by k_mem) rfl); (case hx => assumption); (case hy => assumption); (case hy2 => assumption); (case ht => first | decide | omega | (push_cast; omega)); (case ht2 => first | decide | omega); (case hd => ktr_room); (case hu => ktr_units); k_whole; intro rq x'q y'q tq t1q t2q h'q tk'q hr0q hr1q hx'q hy'q hy2'q hKq hsq; (with_reducible rename Fr _ _ _ _ => kF); (with_reducible rename News _ _ _ _ => kN); have F'q := fr_kp1 kF kN (by k_mem) hKq; have N'q := news_upd kN hKq (by k_upd) hsq; clear hKq hsq; (try k_sweep))))) | ((with_reducible show wpAny _ _ (exec (Stmt.Assign _ (Expr.ListComp _ _ _ _) _) _) _ _ _); first | (with_reducible (k_here; (with_reducible rename Fr _ _ _ _ => kF); k_dflt (refine' comp_nestA (fun _ => rule_name) ?hh ?hsw ?cl ?cell ?kind ?names ?cl2 ?cell2 ?kind2 ?names2 ?xn ?db (frL kF) ?hLe ?hy ?hp ?_; (case hh => exact rfl); (case hsw => with_unfolding_all rfl); (case cl => exact rfl); (case cell => decide); (case kind => exact rfl); (case names => decide); (case cl2 => intro _; exact rfl); (case cell2 => decide); (case kind2 => exact rfl); (case names2 => decide); (case xn => exact rfl); (case db => decide); (case hLe => exact rfl); (case hy => exact rfl); (case hp => exact rfl); k_whole; (dsimp only [frL])))) | (with_reducible (k_here; (with_reducible rename Fr _ _ _ _ => kF); k_dflt (refine' comp_nestA (fun _ => rule_tuple) ?hh ?hsw ?cl ?cell ?kind ?names ?cl2 ?cell2 ?kind2 ?names2 ?xn ?db (frL kF) ?hLe ?hy ?hp ?_; (case hh => exact rfl); (case hsw => with_unfolding_all rfl); (case cl => exact rfl); (case cell => decide); (case kind => exact rfl); (case names => decide); (case cl2 => intro _; exact rfl); (case cell2 => decide); (case kind2 => exact rfl); (case names2 => decide); (case xn => exact rfl); (case db => decide); (case hLe => exact rfl); (case hy => exact rfl); (case hp => exact rfl); k_whole; (dsimp only [frL])))) | ((k_here; (with_reducible rename Fr _ _ _ _ => kF); k_dflt (refine' comp_nestA (fun _ => rule_name) ?hh ?hsw ?cl ?cell ?kind ?names ?cl2 ?cell2 ?kind2 ?names2 ?xn ?db (frL kF) ?hLe ?hy ?hp ?_; (case hh => exact rfl); (case hsw => with_unfolding_all rfl); (case cl => exact rfl); (case cell => decide); (case kind => exact rfl); (case names => decide); (case cl2 => intro _; exact rfl); (case cell2 => decide); (case kind2 => exact rfl); (case names2 => decide); (case xn => exact rfl); (case db => decide); (case hLe => exact rfl); (case hy => exact rfl); (case hp => exact rfl); k_whole; (dsimp only [frL])))) | ((k_here; (with_reducible rename Fr _ _ _ _ => kF); k_dflt (refine' comp_nestA (fun _ => rule_tuple) ?hh ?hsw ?cl ?cell ?kind ?names ?cl2 ?cell2 ?kind2 ?names2 ?xn ?db (frL kF) ?hLe ?hy ?hp ?_; (case hh => exact rfl); (case hsw => with_unfolding_all rfl); (case cl => exact rfl); (case cell => decide); (case kind => exact rfl); (case names => decide); (case cl2 => intro _; exact rfl); (case cell2 => decide); (case kind2 => exact rfl); (case names2 => decide); (case xn => exact rfl); (case db => decide); (case hLe => exact rfl); (case hy => exact rfl); (case hp => exact rfl); k_whole; (dsimp only [frL]))))) | ((with_reducible show wpAny _ _ (compareOp CmpOp.NotEq (Value.ref _) (Value.ref _)) _ _ _); first | (with_reducible (k_here; k_dflt ((with_reducible rename News _ _ _ _ => kN); refine' ne_rows ?h1 ?h2 ?e ?hu ?_; (case h1 => (refine' RowsAt.mono ?_ (by with_reducible assumption); intro c9q o9q hm9q; exact (kN (c9q, o9q) (by repeat (first | exact hm9q | exact List.mem_append_left _ hm9q | exact List.mem_append_right _ hm9q | refine List.Mem.tail _ ?_ | refine List.mem_append_right _ ?_))).1)); (case h2 => (refine' RowsAt.mono ?_ (by with_reducible assumption); intro c9q o9q hm9q; exact (kN (c9q, o9q) (by repeat (first | exact hm9q | exact List.mem_append_left _ hm9q | exact List.mem_append_right _ hm9q | refine List.Mem.tail _ ?_ | refine List.mem_append_right _ ?_))).1)); (case e => first | rfl | (simp only [List.map_map, Function.comp_def]; done)); (case hu => ktr_units); k_whole))) | ((k_here; k_dflt ((with_reducible rename News _ _ _ _ => kN); refine' ne_rows ?h1 ?h2 ?e ?hu ?_; (case h1 => (refine' RowsAt.mono ?_ (by with_reducible assumption); intro c9q o9q hm9q; exact (kN (c9q, o9q) (by repeat (first | exact hm9q | exact List.mem_append_left _ hm9q | exact List.mem_append_right _ hm9q | refine List.Mem.tail _ ?_ | refine List.mem_append_right _ ?_))).1)); (case h2 => (refine' RowsAt.mono ?_ (by with_reducible assumption); intro c9q o9q hm9q; exact (kN (c9q, o9q) (by repeat (first | exact hm9q | exact List.mem_append_left _ hm9q | exact List.mem_append_right _ hm9q | refine List.Mem.tail _ ?_ | refine List.mem_append_right _ ?_))).1)); (case e => first | rfl | (simp only [List.map_map, Function.comp_def]; done)); (case hu => ktr_units); k_whole)))) | walk1 | (dsimp only; (with_reducible show wpAny _ _ _ _ _ _)) | (leave1; walk_say "STEP leave1"; try dsimp only) | fail "no step"))
  (with_reducible rename Fr _ _ _ _ => kF); (with_reducible rename News _ _ _ _ => kN)
  refine' ⟨trPt a b c d, _, _, _, kF.ns, (by with_reducible assumption), ?hM, ?q1, ?q2, ?turn, ?fin⟩
  case hM => exact fun c9 o9 hm9 => ⟨(kN (c9, o9) (by repeat (first | exact hm9 | exact List.mem_append_left _ hm9 | exact List.mem_append_right _ hm9 | refine List.Mem.tail _ ?_ | refine List.mem_append_right _ ?_))).1, (kN (c9, o9) (by repeat (first | exact hm9 | exact List.mem_append_left _ hm9 | exact List.mem_append_right _ hm9 | refine List.Mem.tail _ ?_ | refine List.mem_append_right _ ?_))).2.1⟩
  case q1 => exact (Sm.small (by first | assumption | exact Sm.map (by assumption))).1
  case q2 => exact (Sm.small (by first | assumption | exact Sm.map (by assumption))).2
  case turn =>
    intro C1 C2 v2 x2 s₃ oC m₃ E' hP hM3 eC hoC hC hk hkL hs₃
    obtain ⟨c2, t1, t2, rfl, hm2⟩ := hP
    obtain ⟨h3, tk3, rfl⟩ := hs₃
    refine assign1 rfl rfl eC hoC fun h4 tk4 oC4 m4 eC4 hoC4 hx4 hk4 => ?_
    obtain ⟨F4, hneC, rest, N4, hr⟩ := turn_in2 kF kN hC hk hkL hk4 eC4
    ((try dsimp only [List.cons_append, List.nil_append] at N4); (try simp only [List.append_assoc, List.cons_append] at N4))
    have hmm : ∀ m', h3.Ns _ m' → m' = _ := fun m' hm' => ns_unique (fr_kpL kF hk hkL).ns hm'
    clear kN eC hoC eC4 hk hkL
    (repeat' (first | (k_unfold; (try dsimp only)) | (k_end; wrow_close) | ((with_reducible show wpAny _ _ (execs (_ :: _) _) _ _ _); first | (with_reducible ((with_reducible show wpAny _ _ (execs (Stmt.Assign [Expr.Tuple (Expr.Name (Str.ofString "fixed") _ :: _) _ _] _ _ :: _) _) _ _ _); refine CutR.out ?_)) | (((with_reducible show wpAny _ _ (execs (Stmt.Assign [Expr.Tuple (Expr.Name (Str.ofString "fixed") _ :: _) _ _] _ _ :: _) _) _ _ _); refine CutR.out ?_))) | ((with_reducible show wpAny _ _ (call (Value.ref _) _) _ _ _); first | (with_reducible (k_here; (with_reducible show wpAny _ _ (call (Value.ref 340) _) _ _ _); k_dflt ( refine' contours_ok _ _ _ _ _ _ _ _ _ _ _ _ _ _ _ _ _ _ _ _ _ _ ?C ?O ?hx ?hy ?hy2 ?hm ?hd ?hu ?_; (case C => exact Cx.next (by assumption) (by assumption) (by assumption) rfl rfl); (case O => exact own_of (by assumption) (by assumption) (by k_mem) rfl); (case hx => assumption); (case hy => assumption); (case hy2 => assumption); (case hm => omega); (case hd => ktr_room); (case hu => ktr_units); k_whole; intro cq rowsq x'q y'q t1'q t2'q h'q tk'q hrnq hKq hsq hRq hSmq hx'q hy'q hy2'q; (with_reducible rename Fr _ _ _ _ => kF); (with_reducible rename News _ _ _ _ => kN); have F'q := fr_kp1 kF kN (by k_mem) hKq; have N1q := news_upd kN hKq (by k_upd) hsq; obtain ⟨rest9, N', hoff9, hR9⟩ := news_rows1 kF kN N1q hRq; ((try dsimp only [List.cons_append, List.nil_append] at N'); (try simp only [List.append_assoc, List.cons_append] at N')); clear N1q hKq hsq hRq hrnq; (try k_sweep)))) | (with_reducible (k_here; (with_reducible show wpAny _ _ (call (Value.ref 347) _) _ _ _); k_dflt ( refine' led_ok _ _ _ _ _ _ _ _ _ _ _ _ _ _ _ _ _ _ _ _ _ _ _ _ _ _ _ ?C ?Ot ?Op ?ha ?hb ?hc ?hdd ?hd ?hu ?_; (case C => exact Cx.next (by assumption) (by assumption) (by assumption) rfl rfl); (case Ot => exact own_of (by assumption) (by assumption) (by k_mem) rfl); (case Op => exact own_of (by assumption) (by assumption) (by repeat (first | with_reducible assumption | exact List.mem_append_left _ (by with_reducible assumption) | exact List.mem_append_right _ (by with_reducible assumption) | refine List.Mem.tail _ ?_ | refine List.mem_append_right _ ?_)) rfl); (case ha => assumption); (case hb => assumption); (case hc => assumption); (case hdd => assumption); (case hd => ktr_room); (case hu => ktr_units); k_whole; intro rq u1q u2q h'q tk'q hrnq hKq hrq; (with_reducible rename Fr _ _ _ _ => kF); (with_reducible rename News _ _ _ _ => kN); have F'q := fr_kp0 kF hKq; have N'q := news_kp0 kN hKq; have N''q := news_new kF N'q hrnq hrq; have hneq := neAll rq kN hrnq; clear N'q hrnq hrq hKq; (try k_sweep)))) | (with_reducible (k_here; (with_reducible show wpAny _ _ (call (Value.ref 253) [Value.ref _, Value.ref _, Value.ref _]) _ _ _); k_dflt ( refine' placed_m _ _ _ _ _ _ _ _ _ _ _ _ _ _ _ _ _ _ _ _ _ _ _ _ _ _ _ _ _ _ _ _ _ _ _ _ _ _ _ _ _ _ _ _ _ ?C ?Ox ?Od ?Os ?hvi ?hvo ?hsi ?hso ?ha ?hb ?hc ?hdd ?hd ?hu ?_; (case C => exact Cx.next (by assumption) (by assumption) (by assumption) rfl rfl); (case Ox => exact own_of (by assumption) (by assumption) (by k_mem) rfl); (case Od => exact own_of (by assumption) (by assumption) (by k_mem) rfl); (case Os => exact own_of (by assumption) (by assumption) (by k_mem) rfl); (case hvi => ((with_reducible rename News _ _ _ _ => kN); refine' RowsAt.mono ?_ (by with_reducible assumption); intro c9q o9q hm9q; exact own_of (o := o9q) (by assumption) kN (by repeat (first | exact hm9q | exact List.mem_append_left _ hm9q | exact List.mem_append_right _ hm9q | refine List.Mem.tail _ ?_ | refine List.mem_append_right _ ?_)) rfl)); (case hvo => ((with_reducible rename News _ _ _ _ => kN); refine' RowsAt.mono ?_ (by with_reducible assumption); intro c9q o9q hm9q; exact own_of (o := o9q) (by assumption) kN (by repeat (first | exact hm9q | exact List.mem_append_left _ hm9q | exact List.mem_append_right _ hm9q | refine List.Mem.tail _ ?_ | refine List.mem_append_right _ ?_)) rfl)); (case hsi => assumption); (case hso => assumption); (case ha => assumption); (case hb => assumption); (case hc => assumption); (case hdd => assumption); (case hd => ktr_room); (case hu => ktr_units); k_whole; intro v'q h'q tk'q hKq hRq; (obtain ⟨cv9, hcv9⟩ := rows_ref hRq); subst hcv9; (with_reducible rename Fr _ _ _ _ => kF); (with_reducible rename News _ _ _ _ => kN); have F'q := fr_kp0 kF hKq; obtain ⟨rest9, N', hoff9, hR9⟩ := news_rows0 kF kN hKq hRq; ((try dsimp only [List.cons_append, List.nil_append] at N'); (try simp only [List.append_assoc, List.cons_append] at N')); clear hKq hRq; (try k_sweep)))) | (with_reducible (k_here; (with_reducible show wpAny _ _ (call (Value.ref 221) _) _ _ _); k_dflt (refine' mkPart _ _ _ _ _ _ _ _ _ _ _ _ _ _ _ _ _ _ _ _ _ _ ?C ?a ?b ?_; (case C => exact Cx.next (by assumption) (by assumption) (by assumption) rfl rfl); (case a => ktr_room); (case b => ktr_units); k_whole; unfold RetPart; intro xq dxq e1q e2q e3q e4q e5q k1q k2q k3q k4q k5q tgq tfq tsq h'q tk'q hKq hxq hdxq hxdq h1q h2q; (with_reducible rename Fr _ _ _ _ => kF); (with_reducible rename News _ _ _ _ => kN); have F'q := fr_kp0 kF hKq; have N'q := news_kp0 kN hKq; have N2q := news_new kF N'q hdxq h2q; have N3q := news_new kF N2q hxq h1q; have hne1q := neAll xq kN hxq; have hne2q := neAll dxq kN hdxq; replace hxdq : NeA _ _ := hxdq; clear N'q N2q hKq hxq hdxq h1q h2q; (try k_sweep)))) | (with_reducible (k_here; k_dflt ( (with_reducible show wpAny _ _ (call (Value.ref 281) _) _ _ _); refine' take_ok _ _ _ _ _ _ _ _ _ _ _ _ _ _ _ _ _ _ _ _ _ _ ?C ?O ?hx ?hy ?hy2 ?ht ?ht2 ?hd ?hu ?_; (case C => exact Cx.next (by assumption) (by assumption) (by assumption) rfl rfl); (case O => exact own_of (by assumption) (by assumption) (by k_mem) rfl); (case hx => assumption); (case hy => assumption); (case hy2 => assumption); (case ht => first | decide | omega | (push_cast; omega)); (case ht2 => first | decide | omega); (case hd => ktr_room); (case hu => ktr_units); k_whole; intro rq x'q y'q tq t1q t2q h'q tk'q hr0q hr1q hx'q hy'q hy2'q hKq hsq; (with_reducible rename Fr _ _ _ _ => kF); (with_reducible rename News _ _ _ _ => kN); have F'q := fr_kp1 kF kN (by k_mem) hKq; have N'q := news_upd kN hKq (by k_upd) hsq; clear hKq hsq; (try k_sweep))))) | ((with_reducible show wpAny _ _ (exec (Stmt.Assign _ (Expr.ListComp _ _ _ _) _) _) _ _ _); first | (with_reducible (k_here; (with_reducible rename Fr _ _ _ _ => kF); k_dflt (refine' comp_nestA (fun _ => rule_name) ?hh ?hsw ?cl ?cell ?kind ?names ?cl2 ?cell2 ?kind2 ?names2 ?xn ?db (frL kF) ?hLe ?hy ?hp ?_; (case hh => exact rfl); (case hsw => with_unfolding_all rfl); (case cl => exact rfl); (case cell => decide); (case kind => exact rfl); (case names => decide); (case cl2 => intro _; exact rfl); (case cell2 => decide); (case kind2 => exact rfl); (case names2 => decide); (case xn => exact rfl); (case db => decide); (case hLe => exact rfl); (case hy => exact rfl); (case hp => exact rfl); k_whole; (dsimp only [frL])))) | (with_reducible (k_here; (with_reducible rename Fr _ _ _ _ => kF); k_dflt (refine' comp_nestA (fun _ => rule_tuple) ?hh ?hsw ?cl ?cell ?kind ?names ?cl2 ?cell2 ?kind2 ?names2 ?xn ?db (frL kF) ?hLe ?hy ?hp ?_; (case hh => exact rfl); (case hsw => with_unfolding_all rfl); (case cl => exact rfl); (case cell => decide); (case kind => exact rfl); (case names => decide); (case cl2 => intro _; exact rfl); (case cell2 => decide); (case kind2 => exact rfl); (case names2 => decide); (case xn => exact rfl); (case db => decide); (case hLe => exact rfl); (case hy => exact rfl); (case hp => exact rfl); k_whole; (dsimp only [frL])))) | ((k_here; (with_reducible rename Fr _ _ _ _ => kF); k_dflt (refine' comp_nestA (fun _ => rule_name) ?hh ?hsw ?cl ?cell ?kind ?names ?cl2 ?cell2 ?kind2 ?names2 ?xn ?db (frL kF) ?hLe ?hy ?hp ?_; (case hh => exact rfl); (case hsw => with_unfolding_all rfl); (case cl => exact rfl); (case cell => decide); (case kind => exact rfl); (case names => decide); (case cl2 => intro _; exact rfl); (case cell2 => decide); (case kind2 => exact rfl); (case names2 => decide); (case xn => exact rfl); (case db => decide); (case hLe => exact rfl); (case hy => exact rfl); (case hp => exact rfl); k_whole; (dsimp only [frL])))) | ((k_here; (with_reducible rename Fr _ _ _ _ => kF); k_dflt (refine' comp_nestA (fun _ => rule_tuple) ?hh ?hsw ?cl ?cell ?kind ?names ?cl2 ?cell2 ?kind2 ?names2 ?xn ?db (frL kF) ?hLe ?hy ?hp ?_; (case hh => exact rfl); (case hsw => with_unfolding_all rfl); (case cl => exact rfl); (case cell => decide); (case kind => exact rfl); (case names => decide); (case cl2 => intro _; exact rfl); (case cell2 => decide); (case kind2 => exact rfl); (case names2 => decide); (case xn => exact rfl); (case db => decide); (case hLe => exact rfl); (case hy => exact rfl); (case hp => exact rfl); k_whole; (dsimp only [frL]))))) | ((with_reducible show wpAny _ _ (compareOp CmpOp.NotEq (Value.ref _) (Value.ref _)) _ _ _); first | (with_reducible (k_here; k_dflt ((with_reducible rename News _ _ _ _ => kN); refine' ne_rows ?h1 ?h2 ?e ?hu ?_; (case h1 => (refine' RowsAt.mono ?_ (by with_reducible assumption); intro c9q o9q hm9q; exact (kN (c9q, o9q) (by repeat (first | exact hm9q | exact List.mem_append_left _ hm9q | exact List.mem_append_right _ hm9q | refine List.Mem.tail _ ?_ | refine List.mem_append_right _ ?_))).1)); (case h2 => (refine' RowsAt.mono ?_ (by with_reducible assumption); intro c9q o9q hm9q; exact (kN (c9q, o9q) (by repeat (first | exact hm9q | exact List.mem_append_left _ hm9q | exact List.mem_append_right _ hm9q | refine List.Mem.tail _ ?_ | refine List.mem_append_right _ ?_))).1)); (case e => first | rfl | (simp only [List.map_map, Function.comp_def]; done)); (case hu => ktr_units); k_whole))) | ((k_here; k_dflt ((with_reducible rename News _ _ _ _ => kN); refine' ne_rows ?h1 ?h2 ?e ?hu ?_; (case h1 => (refine' RowsAt.mono ?_ (by with_reducible assumption); intro c9q o9q hm9q; exact (kN (c9q, o9q) (by repeat (first | exact hm9q | exact List.mem_append_left _ hm9q | exact List.mem_append_right _ hm9q | refine List.Mem.tail _ ?_ | refine List.mem_append_right _ ?_))).1)); (case h2 => (refine' RowsAt.mono ?_ (by with_reducible assumption); intro c9q o9q hm9q; exact (kN (c9q, o9q) (by repeat (first | exact hm9q | exact List.mem_append_left _ hm9q | exact List.mem_append_right _ hm9q | refine List.Mem.tail _ ?_ | refine List.mem_append_right _ ?_))).1)); (case e => first | rfl | (simp only [List.map_map, Function.comp_def]; done)); (case hu => ktr_units); k_whole)))) | walk1 | (dsimp only; (with_reducible show wpAny _ _ _ _ _ _)) | (leave1; walk_say "STEP leave1"; try dsimp only) | fail "no step"))
    (with_reducible rename Fr _ _ _ _ => kF9)
    (with_reducible rename News _ _ _ _ => kN9)
    (with_reducible rename NeAll _ _ => hn9)
    exact turn_out3 rfl hr hk4 hoC4 hmm kF9 kN9 (by k_mem) (fun q9 hm9 => (by repeat (first | exact hm9 | exact List.mem_append_left _ hm9 | exact List.mem_append_right _ hm9 | refine List.Mem.tail _ ?_ | refine List.mem_append_right _ ?_))) (.head _) (fun q9 hm9 => ne_all2 hn9 (by repeat (first | exact hm9 | exact List.mem_append_left _ hm9 | exact List.mem_append_right _ hm9 | refine List.Mem.tail _ ?_ | refine List.mem_append_right _ ?_))) (Ne.symm (ne_all hn9 (by k_mem))) (fun nm => ⟨_, _, _, rfl, nm⟩)
  case fin =>
    intro D9 h9 tk9 hD hk hkL hR
    have kF9 := fr_kpA kF hk (hkL _ kF.ns)
    obtain ⟨rest9, N9, hoff9, _, hR9⟩ := news_rows kF kN hk hR
    ((try dsimp only [List.cons_append, List.nil_append] at N9); (try simp only [List.append_assoc, List.cons_append] at N9))
    clear kF kN hk hkL hR
    (try k_unfold); (try dsimp only)
    (repeat' (first | (k_unfold; (try dsimp only)) | (k_end; wrow_close) | ((with_reducible show wpAny _ _ (execs (_ :: _) _) _ _ _); first | (with_reducible ((with_reducible show wpAny _ _ (execs (Stmt.Assign [Expr.Tuple (Expr.Name (Str.ofString "fixed") _ :: _) _ _] _ _ :: _) _) _ _ _); refine CutR.out ?_)) | (((with_reducible show wpAny _ _ (execs (Stmt.Assign [Expr.Tuple (Expr.Name (Str.ofString "fixed") _ :: _) _ _] _ _ :: _) _) _ _ _); refine CutR.out ?_))) | ((with_reducible show wpAny _ _ (call (Value.ref _) _) _ _ _); first | (with_reducible (k_here; (with_reducible show wpAny _ _ (call (Value.ref 340) _) _ _ _); k_dflt ( refine' contours_ok _ _ _ _ _ _ _ _ _ _ _ _ _ _ _ _ _ _ _ _ _ _ ?C ?O ?hx ?hy ?hy2 ?hm ?hd ?hu ?_; (case C => exact Cx.next (by assumption) (by assumption) (by assumption) rfl rfl); (case O => exact own_of (by assumption) (by assumption) (by k_mem) rfl); (case hx => assumption); (case hy => assumption); (case hy2 => assumption); (case hm => omega); (case hd => ktr_room); (case hu => ktr_units); k_whole; intro cq rowsq x'q y'q t1'q t2'q h'q tk'q hrnq hKq hsq hRq hSmq hx'q hy'q hy2'q; (with_reducible rename Fr _ _ _ _ => kF); (with_reducible rename News _ _ _ _ => kN); have F'q := fr_kp1 kF kN (by k_mem) hKq; have N1q := news_upd kN hKq (by k_upd) hsq; obtain ⟨rest9, N', hoff9, hR9⟩ := news_rows1 kF kN N1q hRq; ((try dsimp only [List.cons_append, List.nil_append] at N'); (try simp only [List.append_assoc, List.cons_append] at N')); clear N1q hKq hsq hRq hrnq; (try k_sweep)))) | (with_reducible (k_here; (with_reducible show wpAny _ _ (call (Value.ref 347) _) _ _ _); k_dflt ( refine' led_ok _ _ _ _ _ _ _ _ _ _ _ _ _ _ _ _ _ _ _ _ _ _ _ _ _ _ _ ?C ?Ot ?Op ?ha ?hb ?hc ?hdd ?hd ?hu ?_; (case C => exact Cx.next (by assumption) (by assumption) (by assumption) rfl rfl); (case Ot => exact own_of (by assumption) (by assumption) (by k_mem) rfl); (case Op => exact own_of (by assumption) (by assumption) (by repeat (first | with_reducible assumption | exact List.mem_append_left _ (by with_reducible assumption) | exact List.mem_append_right _ (by with_reducible assumption) | refine List.Mem.tail _ ?_ | refine List.mem_append_right _ ?_)) rfl); (case ha => assumption); (case hb => assumption); (case hc => assumption); (case hdd => assumption); (case hd => ktr_room); (case hu => ktr_units); k_whole; intro rq u1q u2q h'q tk'q hrnq hKq hrq; (with_reducible rename Fr _ _ _ _ => kF); (with_reducible rename News _ _ _ _ => kN); have F'q := fr_kp0 kF hKq; have N'q := news_kp0 kN hKq; have N''q := news_new kF N'q hrnq hrq; have hneq := neAll rq kN hrnq; clear N'q hrnq hrq hKq; (try k_sweep)))) | (with_reducible (k_here; (with_reducible show wpAny _ _ (call (Value.ref 253) [Value.ref _, Value.ref _, Value.ref _]) _ _ _); k_dflt ( refine' placed_m _ _ _ _ _ _ _ _ _ _ _ _ _ _ _ _ _ _ _ _ _ _ _ _ _ _ _ _ _ _ _ _ _ _ _ _ _ _ _ _ _ _ _ _ _ ?C ?Ox ?Od ?Os ?hvi ?hvo ?hsi ?hso ?ha ?hb ?hc ?hdd ?hd ?hu ?_; (case C => exact Cx.next (by assumption) (by assumption) (by assumption) rfl rfl); (case Ox => exact own_of (by assumption) (by assumption) (by k_mem) rfl); (case Od => exact own_of (by assumption) (by assumption) (by k_mem) rfl); (case Os => exact own_of (by assumption) (by assumption) (by k_mem) rfl); (case hvi => ((with_reducible rename News _ _ _ _ => kN); refine' RowsAt.mono ?_ (by with_reducible assumption); intro c9q o9q hm9q; exact own_of (o := o9q) (by assumption) kN (by repeat (first | exact hm9q | exact List.mem_append_left _ hm9q | exact List.mem_append_right _ hm9q | refine List.Mem.tail _ ?_ | refine List.mem_append_right _ ?_)) rfl)); (case hvo => ((with_reducible rename News _ _ _ _ => kN); refine' RowsAt.mono ?_ (by with_reducible assumption); intro c9q o9q hm9q; exact own_of (o := o9q) (by assumption) kN (by repeat (first | exact hm9q | exact List.mem_append_left _ hm9q | exact List.mem_append_right _ hm9q | refine List.Mem.tail _ ?_ | refine List.mem_append_right _ ?_)) rfl)); (case hsi => assumption); (case hso => assumption); (case ha => assumption); (case hb => assumption); (case hc => assumption); (case hdd => assumption); (case hd => ktr_room); (case hu => ktr_units); k_whole; intro v'q h'q tk'q hKq hRq; (obtain ⟨cv9, hcv9⟩ := rows_ref hRq); subst hcv9; (with_reducible rename Fr _ _ _ _ => kF); (with_reducible rename News _ _ _ _ => kN); have F'q := fr_kp0 kF hKq; obtain ⟨rest9, N', hoff9, hR9⟩ := news_rows0 kF kN hKq hRq; ((try dsimp only [List.cons_append, List.nil_append] at N'); (try simp only [List.append_assoc, List.cons_append] at N')); clear hKq hRq; (try k_sweep)))) | (with_reducible (k_here; (with_reducible show wpAny _ _ (call (Value.ref 221) _) _ _ _); k_dflt (refine' mkPart _ _ _ _ _ _ _ _ _ _ _ _ _ _ _ _ _ _ _ _ _ _ ?C ?a ?b ?_; (case C => exact Cx.next (by assumption) (by assumption) (by assumption) rfl rfl); (case a => ktr_room); (case b => ktr_units); k_whole; unfold RetPart; intro xq dxq e1q e2q e3q e4q e5q k1q k2q k3q k4q k5q tgq tfq tsq h'q tk'q hKq hxq hdxq hxdq h1q h2q; (with_reducible rename Fr _ _ _ _ => kF); (with_reducible rename News _ _ _ _ => kN); have F'q := fr_kp0 kF hKq; have N'q := news_kp0 kN hKq; have N2q := news_new kF N'q hdxq h2q; have N3q := news_new kF N2q hxq h1q; have hne1q := neAll xq kN hxq; have hne2q := neAll dxq kN hdxq; replace hxdq : NeA _ _ := hxdq; clear N'q N2q hKq hxq hdxq h1q h2q; (try k_sweep)))) | (with_reducible (k_here; k_dflt ( (with_reducible show wpAny _ _ (call (Value.ref 281) _) _ _ _); refine' take_ok _ _ _ _ _ _ _ _ _ _ _ _ _ _ _ _ _ _ _ _ _ _ ?C ?O ?hx ?hy ?hy2 ?ht ?ht2 ?hd ?hu ?_; (case C => exact Cx.next (by assumption) (by assumption) (by assumption) rfl rfl); (case O => exact own_of (by assumption) (by assumption) (by k_mem) rfl); (case hx => assumption); (case hy => assumption); (case hy2 => assumption); (case ht => first | decide | omega | (push_cast; omega)); (case ht2 => first | decide | omega); (case hd => ktr_room); (case hu => ktr_units); k_whole; intro rq x'q y'q tq t1q t2q h'q tk'q hr0q hr1q hx'q hy'q hy2'q hKq hsq; (with_reducible rename Fr _ _ _ _ => kF); (with_reducible rename News _ _ _ _ => kN); have F'q := fr_kp1 kF kN (by k_mem) hKq; have N'q := news_upd kN hKq (by k_upd) hsq; clear hKq hsq; (try k_sweep))))) | ((with_reducible show wpAny _ _ (exec (Stmt.Assign _ (Expr.ListComp _ _ _ _) _) _) _ _ _); first | (with_reducible (k_here; (with_reducible rename Fr _ _ _ _ => kF); k_dflt (refine' comp_nestA (fun _ => rule_name) ?hh ?hsw ?cl ?cell ?kind ?names ?cl2 ?cell2 ?kind2 ?names2 ?xn ?db (frL kF) ?hLe ?hy ?hp ?_; (case hh => exact rfl); (case hsw => with_unfolding_all rfl); (case cl => exact rfl); (case cell => decide); (case kind => exact rfl); (case names => decide); (case cl2 => intro _; exact rfl); (case cell2 => decide); (case kind2 => exact rfl); (case names2 => decide); (case xn => exact rfl); (case db => decide); (case hLe => exact rfl); (case hy => exact rfl); (case hp => exact rfl); k_whole; (dsimp only [frL])))) | (with_reducible (k_here; (with_reducible rename Fr _ _ _ _ => kF); k_dflt (refine' comp_nestA (fun _ => rule_tuple) ?hh ?hsw ?cl ?cell ?kind ?names ?cl2 ?cell2 ?kind2 ?names2 ?xn ?db (frL kF) ?hLe ?hy ?hp ?_; (case hh => exact rfl); (case hsw => with_unfolding_all rfl); (case cl => exact rfl); (case cell => decide); (case kind => exact rfl); (case names => decide); (case cl2 => intro _; exact rfl); (case cell2 => decide); (case kind2 => exact rfl); (case names2 => decide); (case xn => exact rfl); (case db => decide); (case hLe => exact rfl); (case hy => exact rfl); (case hp => exact rfl); k_whole; (dsimp only [frL])))) | ((k_here; (with_reducible rename Fr _ _ _ _ => kF); k_dflt (refine' comp_nestA (fun _ => rule_name) ?hh ?hsw ?cl ?cell ?kind ?names ?cl2 ?cell2 ?kind2 ?names2 ?xn ?db (frL kF) ?hLe ?hy ?hp ?_; (case hh => exact rfl); (case hsw => with_unfolding_all rfl); (case cl => exact rfl); (case cell => decide); (case kind => exact rfl); (case names => decide); (case cl2 => intro _; exact rfl); (case cell2 => decide); (case kind2 => exact rfl); (case names2 => decide); (case xn => exact rfl); (case db => decide); (case hLe => exact rfl); (case hy => exact rfl); (case hp => exact rfl); k_whole; (dsimp only [frL])))) | ((k_here; (with_reducible rename Fr _ _ _ _ => kF); k_dflt (refine' comp_nestA (fun _ => rule_tuple) ?hh ?hsw ?cl ?cell ?kind ?names ?cl2 ?cell2 ?kind2 ?names2 ?xn ?db (frL kF) ?hLe ?hy ?hp ?_; (case hh => exact rfl); (case hsw => with_unfolding_all rfl); (case cl => exact rfl); (case cell => decide); (case kind => exact rfl); (case names => decide); (case cl2 => intro _; exact rfl); (case cell2 => decide); (case kind2 => exact rfl); (case names2 => decide); (case xn => exact rfl); (case db => decide); (case hLe => exact rfl); (case hy => exact rfl); (case hp => exact rfl); k_whole; (dsimp only [frL]))))) | ((with_reducible show wpAny _ _ (compareOp CmpOp.NotEq (Value.ref _) (Value.ref _)) _ _ _); first | (with_reducible (k_here; k_dflt ((with_reducible rename News _ _ _ _ => kN); refine' ne_rows ?h1 ?h2 ?e ?hu ?_; (case h1 => (refine' RowsAt.mono ?_ (by with_reducible assumption); intro c9q o9q hm9q; exact (kN (c9q, o9q) (by repeat (first | exact hm9q | exact List.mem_append_left _ hm9q | exact List.mem_append_right _ hm9q | refine List.Mem.tail _ ?_ | refine List.mem_append_right _ ?_))).1)); (case h2 => (refine' RowsAt.mono ?_ (by with_reducible assumption); intro c9q o9q hm9q; exact (kN (c9q, o9q) (by repeat (first | exact hm9q | exact List.mem_append_left _ hm9q | exact List.mem_append_right _ hm9q | refine List.Mem.tail _ ?_ | refine List.mem_append_right _ ?_))).1)); (case e => first | rfl | (simp only [List.map_map, Function.comp_def]; done)); (case hu => ktr_units); k_whole))) | ((k_here; k_dflt ((with_reducible rename News _ _ _ _ => kN); refine' ne_rows ?h1 ?h2 ?e ?hu ?_; (case h1 => (refine' RowsAt.mono ?_ (by with_reducible assumption); intro c9q o9q hm9q; exact (kN (c9q, o9q) (by repeat (first | exact hm9q | exact List.mem_append_left _ hm9q | exact List.mem_append_right _ hm9q | refine List.Mem.tail _ ?_ | refine List.mem_append_right _ ?_))).1)); (case h2 => (refine' RowsAt.mono ?_ (by with_reducible assumption); intro c9q o9q hm9q; exact (kN (c9q, o9q) (by repeat (first | exact hm9q | exact List.mem_append_left _ hm9q | exact List.mem_append_right _ hm9q | refine List.Mem.tail _ ?_ | refine List.mem_append_right _ ?_))).1)); (case e => first | rfl | (simp only [List.map_map, Function.comp_def]; done)); (case hu => ktr_units); k_whole)))) | walk1 | (dsimp only; (with_reducible show wpAny _ _ _ _ _ _)) | (leave1; walk_say "STEP leave1"; try dsimp only) | fail "no step"))
    (with_reducible rename Fr _ _ _ _ => kF); (with_reducible rename News _ _ _ _ => kN)
    (with_reducible rename _ < (99 : Int) => hry)
    obtain ⟨ry, ey⟩ := namelt hry
    subst ey
    clear hry
    (with_reducible rename _ < (99 : Int) => hrx)
    obtain ⟨rx, ex⟩ := namelt hrx
    subst ex
    clear hrx
    refine' ⟨mvPt (rx - 50) (ry - 50), _, _, _, kF.ns, (by with_reducible assumption), ?hM, ?q1, ?q2, ?turn, ?fin⟩
    case hM => exact fun c9 o9 hm9 => ⟨(kN (c9, o9) (by repeat (first | exact hm9 | exact List.mem_append_left _ hm9 | exact List.mem_append_right _ hm9 | refine List.Mem.tail _ ?_ | refine List.mem_append_right _ ?_))).1, (kN (c9, o9) (by repeat (first | exact hm9 | exact List.mem_append_left _ hm9 | exact List.mem_append_right _ hm9 | refine List.Mem.tail _ ?_ | refine List.mem_append_right _ ?_))).2.1⟩
    case q1 => exact (Sm.small (by first | assumption | exact Sm.map (by assumption))).1
    case q2 => exact (Sm.small (by first | assumption | exact Sm.map (by assumption))).2
    case turn =>
      intro C1 C2 v2 x2 s₃ oC m₃ E' hP hM3 eC hoC hC hk hkL hs₃
      obtain ⟨c2, t1, t2, rfl, hm2⟩ := hP
      obtain ⟨h3, tk3, rfl⟩ := hs₃
      refine assign3 rfl ⟨_, (hM3 _ _ hm2).1, rfl, _, rfl⟩ rfl rfl rfl (by decide) (by decide) (by decide) rfl eC hoC fun h4 tk4 oC4 m4 eC4 hoC4 hx1 hx2 hx3 hk4 => ?_
      obtain ⟨F4, hneC, rest, N4, hr⟩ := turn_in2 kF kN hC hk hkL hk4 eC4
      ((try dsimp only [List.cons_append, List.nil_append] at N4); (try simp only [List.append_assoc, List.cons_append] at N4))
      have hmm : ∀ m', h3.Ns _ m' → m' = _ := fun m' hm' => ns_unique (fr_kpL kF hk hkL).ns hm'
      clear kN eC hoC eC4 hk hkL
      (repeat' (first | (k_unfold; (try dsimp only)) | (k_end; wrow_close) | ((with_reducible show wpAny _ _ (execs (_ :: _) _) _ _ _); first | (with_reducible ((with_reducible show wpAny _ _ (execs (Stmt.Assign [Expr.Tuple (Expr.Name (Str.ofString "fixed") _ :: _) _ _] _ _ :: _) _) _ _ _); refine CutR.out ?_)) | (((with_reducible show wpAny _ _ (execs (Stmt.Assign [Expr.Tuple (Expr.Name (Str.ofString "fixed") _ :: _) _ _] _ _ :: _) _) _ _ _); refine CutR.out ?_))) | ((with_reducible show wpAny _ _ (call (Value.ref _) _) _ _ _); first | (with_reducible (k_here; (with_reducible show wpAny _ _ (call (Value.ref 340) _) _ _ _); k_dflt ( refine' contours_ok _ _ _ _ _ _ _ _ _ _ _ _ _ _ _ _ _ _ _ _ _ _ ?C ?O ?hx ?hy ?hy2 ?hm ?hd ?hu ?_; (case C => exact Cx.next (by assumption) (by assumption) (by assumption) rfl rfl); (case O => exact own_of (by assumption) (by assumption) (by k_mem) rfl); (case hx => assumption); (case hy => assumption); (case hy2 => assumption); (case hm => omega); (case hd => ktr_room); (case hu => ktr_units); k_whole; intro cq rowsq x'q y'q t1'q t2'q h'q tk'q hrnq hKq hsq hRq hSmq hx'q hy'q hy2'q; (with_reducible rename Fr _ _ _ _ => kF); (with_reducible rename News _ _ _ _ => kN); have F'q := fr_kp1 kF kN (by k_mem) hKq; have N1q := news_upd kN hKq (by k_upd) hsq; obtain ⟨rest9, N', hoff9, hR9⟩ := news_rows1 kF kN N1q hRq; ((try dsimp only [List.cons_append, List.nil_append] at N'); (try simp only [List.append_assoc, List.cons_append] at N')); clear N1q hKq hsq hRq hrnq; (try k_sweep)))) | (with_reducible (k_here; (with_reducible show wpAny _ _ (call (Value.ref 347) _) _ _ _); k_dflt ( refine' led_ok _ _ _ _ _ _ _ _ _ _ _ _ _ _ _ _ _ _ _ _ _ _ _ _ _ _ _ ?C ?Ot ?Op ?ha ?hb ?hc ?hdd ?hd ?hu ?_; (case C => exact Cx.next (by assumption) (by assumption) (by assumption) rfl rfl); (case Ot => exact own_of (by assumption) (by assumption) (by k_mem) rfl); (case Op => exact own_of (by assumption) (by assumption) (by repeat (first | with_reducible assumption | exact List.mem_append_left _ (by with_reducible assumption) | exact List.mem_append_right _ (by with_reducible assumption) | refine List.Mem.tail _ ?_ | refine List.mem_append_right _ ?_)) rfl); (case ha => assumption); (case hb => assumption); (case hc => assumption); (case hdd => assumption); (case hd => ktr_room); (case hu => ktr_units); k_whole; intro rq u1q u2q h'q tk'q hrnq hKq hrq; (with_reducible rename Fr _ _ _ _ => kF); (with_reducible rename News _ _ _ _ => kN); have F'q := fr_kp0 kF hKq; have N'q := news_kp0 kN hKq; have N''q := news_new kF N'q hrnq hrq; have hneq := neAll rq kN hrnq; clear N'q hrnq hrq hKq; (try k_sweep)))) | (with_reducible (k_here; (with_reducible show wpAny _ _ (call (Value.ref 253) [Value.ref _, Value.ref _, Value.ref _]) _ _ _); k_dflt ( refine' placed_m _ _ _ _ _ _ _ _ _ _ _ _ _ _ _ _ _ _ _ _ _ _ _ _ _ _ _ _ _ _ _ _ _ _ _ _ _ _ _ _ _ _ _ _ _ ?C ?Ox ?Od ?Os ?hvi ?hvo ?hsi ?hso ?ha ?hb ?hc ?hdd ?hd ?hu ?_; (case C => exact Cx.next (by assumption) (by assumption) (by assumption) rfl rfl); (case Ox => exact own_of (by assumption) (by assumption) (by k_mem) rfl); (case Od => exact own_of (by assumption) (by assumption) (by k_mem) rfl); (case Os => exact own_of (by assumption) (by assumption) (by k_mem) rfl); (case hvi => ((with_reducible rename News _ _ _ _ => kN); refine' RowsAt.mono ?_ (by with_reducible assumption); intro c9q o9q hm9q; exact own_of (o := o9q) (by assumption) kN (by repeat (first | exact hm9q | exact List.mem_append_left _ hm9q | exact List.mem_append_right _ hm9q | refine List.Mem.tail _ ?_ | refine List.mem_append_right _ ?_)) rfl)); (case hvo => ((with_reducible rename News _ _ _ _ => kN); refine' RowsAt.mono ?_ (by with_reducible assumption); intro c9q o9q hm9q; exact own_of (o := o9q) (by assumption) kN (by repeat (first | exact hm9q | exact List.mem_append_left _ hm9q | exact List.mem_append_right _ hm9q | refine List.Mem.tail _ ?_ | refine List.mem_append_right _ ?_)) rfl)); (case hsi => assumption); (case hso => assumption); (case ha => assumption); (case hb => assumption); (case hc => assumption); (case hdd => assumption); (case hd => ktr_room); (case hu => ktr_units); k_whole; intro v'q h'q tk'q hKq hRq; (obtain ⟨cv9, hcv9⟩ := rows_ref hRq); subst hcv9; (with_reducible rename Fr _ _ _ _ => kF); (with_reducible rename News _ _ _ _ => kN); have F'q := fr_kp0 kF hKq; obtain ⟨rest9, N', hoff9, hR9⟩ := news_rows0 kF kN hKq hRq; ((try dsimp only [List.cons_append, List.nil_append] at N'); (try simp only [List.append_assoc, List.cons_append] at N')); clear hKq hRq; (try k_sweep)))) | (with_reducible (k_here; (with_reducible show wpAny _ _ (call (Value.ref 221) _) _ _ _); k_dflt (refine' mkPart _ _ _ _ _ _ _ _ _ _ _ _ _ _ _ _ _ _ _ _ _ _ ?C ?a ?b ?_; (case C => exact Cx.next (by assumption) (by assumption) (by assumption) rfl rfl); (case a => ktr_room); (case b => ktr_units); k_whole; unfold RetPart; intro xq dxq e1q e2q e3q e4q e5q k1q k2q k3q k4q k5q tgq tfq tsq h'q tk'q hKq hxq hdxq hxdq h1q h2q; (with_reducible rename Fr _ _ _ _ => kF); (with_reducible rename News _ _ _ _ => kN); have F'q := fr_kp0 kF hKq; have N'q := news_kp0 kN hKq; have N2q := news_new kF N'q hdxq h2q; have N3q := news_new kF N2q hxq h1q; have hne1q := neAll xq kN hxq; have hne2q := neAll dxq kN hdxq; replace hxdq : NeA _ _ := hxdq; clear N'q N2q hKq hxq hdxq h1q h2q; (try k_sweep)))) | (with_reducible (k_here; k_dflt ( (with_reducible show wpAny _ _ (call (Value.ref 281) _) _ _ _); refine' take_ok _ _ _ _ _ _ _ _ _ _ _ _ _ _ _ _ _ _ _ _ _ _ ?C ?O ?hx ?hy ?hy2 ?ht ?ht2 ?hd ?hu ?_; (case C => exact Cx.next (by assumption) (by assumption) (by assumption) rfl rfl); (case O => exact own_of (by assumption) (by assumption) (by k_mem) rfl); (case hx => assumption); (case hy => assumption); (case hy2 => assumption); (case ht => first | decide | omega | (push_cast; omega)); (case ht2 => first | decide | omega); (case hd => ktr_room); (case hu => ktr_units); k_whole; intro rq x'q y'q tq t1q t2q h'q tk'q hr0q hr1q hx'q hy'q hy2'q hKq hsq; (with_reducible rename Fr _ _ _ _ => kF); (with_reducible rename News _ _ _ _ => kN); have F'q := fr_kp1 kF kN (by k_mem) hKq; have N'q := news_upd kN hKq (by k_upd) hsq; clear hKq hsq; (try k_sweep))))) | ((with_reducible show wpAny _ _ (exec (Stmt.Assign _ (Expr.ListComp _ _ _ _) _) _) _ _ _); first | (with_reducible (k_here; (with_reducible rename Fr _ _ _ _ => kF); k_dflt (refine' comp_nestA (fun _ => rule_name) ?hh ?hsw ?cl ?cell ?kind ?names ?cl2 ?cell2 ?kind2 ?names2 ?xn ?db (frL kF) ?hLe ?hy ?hp ?_; (case hh => exact rfl); (case hsw => with_unfolding_all rfl); (case cl => exact rfl); (case cell => decide); (case kind => exact rfl); (case names => decide); (case cl2 => intro _; exact rfl); (case cell2 => decide); (case kind2 => exact rfl); (case names2 => decide); (case xn => exact rfl); (case db => decide); (case hLe => exact rfl); (case hy => exact rfl); (case hp => exact rfl); k_whole; (dsimp only [frL])))) | (with_reducible (k_here; (with_reducible rename Fr _ _ _ _ => kF); k_dflt (refine' comp_nestA (fun _ => rule_tuple) ?hh ?hsw ?cl ?cell ?kind ?names ?cl2 ?cell2 ?kind2 ?names2 ?xn ?db (frL kF) ?hLe ?hy ?hp ?_; (case hh => exact rfl); (case hsw => with_unfolding_all rfl); (case cl => exact rfl); (case cell => decide); (case kind => exact rfl); (case names => decide); (case cl2 => intro _; exact rfl); (case cell2 => decide); (case kind2 => exact rfl); (case names2 => decide); (case xn => exact rfl); (case db => decide); (case hLe => exact rfl); (case hy => exact rfl); (case hp => exact rfl); k_whole; (dsimp only [frL])))) | ((k_here; (with_reducible rename Fr _ _ _ _ => kF); k_dflt (refine' comp_nestA (fun _ => rule_name) ?hh ?hsw ?cl ?cell ?kind ?names ?cl2 ?cell2 ?kind2 ?names2 ?xn ?db (frL kF) ?hLe ?hy ?hp ?_; (case hh => exact rfl); (case hsw => with_unfolding_all rfl); (case cl => exact rfl); (case cell => decide); (case kind => exact rfl); (case names => decide); (case cl2 => intro _; exact rfl); (case cell2 => decide); (case kind2 => exact rfl); (case names2 => decide); (case xn => exact rfl); (case db => decide); (case hLe => exact rfl); (case hy => exact rfl); (case hp => exact rfl); k_whole; (dsimp only [frL])))) | ((k_here; (with_reducible rename Fr _ _ _ _ => kF); k_dflt (refine' comp_nestA (fun _ => rule_tuple) ?hh ?hsw ?cl ?cell ?kind ?names ?cl2 ?cell2 ?kind2 ?names2 ?xn ?db (frL kF) ?hLe ?hy ?hp ?_; (case hh => exact rfl); (case hsw => with_unfolding_all rfl); (case cl => exact rfl); (case cell => decide); (case kind => exact rfl); (case names => decide); (case cl2 => intro _; exact rfl); (case cell2 => decide); (case kind2 => exact rfl); (case names2 => decide); (case xn => exact rfl); (case db => decide); (case hLe => exact rfl); (case hy => exact rfl); (case hp => exact rfl); k_whole; (dsimp only [frL]))))) | ((with_reducible show wpAny _ _ (compareOp CmpOp.NotEq (Value.ref _) (Value.ref _)) _ _ _); first | (with_reducible (k_here; k_dflt ((with_reducible rename News _ _ _ _ => kN); refine' ne_rows ?h1 ?h2 ?e ?hu ?_; (case h1 => (refine' RowsAt.mono ?_ (by with_reducible assumption); intro c9q o9q hm9q; exact (kN (c9q, o9q) (by repeat (first | exact hm9q | exact List.mem_append_left _ hm9q | exact List.mem_append_right _ hm9q | refine List.Mem.tail _ ?_ | refine List.mem_append_right _ ?_))).1)); (case h2 => (refine' RowsAt.mono ?_ (by with_reducible assumption); intro c9q o9q hm9q; exact (kN (c9q, o9q) (by repeat (first | exact hm9q | exact List.mem_append_left _ hm9q | exact List.mem_append_right _ hm9q | refine List.Mem.tail _ ?_ | refine List.mem_append_right _ ?_))).1)); (case e => first | rfl | (simp only [List.map_map, Function.comp_def]; done)); (case hu => ktr_units); k_whole))) | ((k_here; k_dflt ((with_reducible rename News _ _ _ _ => kN); refine' ne_rows ?h1 ?h2 ?e ?hu ?_; (case h1 => (refine' RowsAt.mono ?_ (by with_reducible assumption); intro c9q o9q hm9q; exact (kN (c9q, o9q) (by repeat (first | exact hm9q | exact List.mem_append_left _ hm9q | exact List.mem_append_right _ hm9q | refine List.Mem.tail _ ?_ | refine List.mem_append_right _ ?_))).1)); (case h2 => (refine' RowsAt.mono ?_ (by with_reducible assumption); intro c9q o9q hm9q; exact (kN (c9q, o9q) (by repeat (first | exact hm9q | exact List.mem_append_left _ hm9q | exact List.mem_append_right _ hm9q | refine List.Mem.tail _ ?_ | refine List.mem_append_right _ ?_))).1)); (case e => first | rfl | (simp only [List.map_map, Function.comp_def]; done)); (case hu => ktr_units); k_whole)))) | walk1 | (dsimp only; (with_reducible show wpAny _ _ _ _ _ _)) | (leave1; walk_say "STEP leave1"; try dsimp only) | fail "no step"))
      (with_reducible rename Fr _ _ _ _ => kF9)
      (with_reducible rename News _ _ _ _ => kN9)
      (with_reducible rename AllLt _ _ => l9)
      exact turn_out2 rfl hr hk4 hoC4 hmm kF9 kN9 (by k_mem) (fun q9 hm9 => (by repeat (first | exact hm9 | exact List.mem_append_left _ hm9 | exact List.mem_append_right _ hm9 | refine List.Mem.tail _ ?_ | refine List.mem_append_right _ ?_))) (.head _) (by clear hret; repeat (first | exact l9 | replace l9 := allLt_right l9 | replace l9 := l9.2)) (Nat.ne_of_gt l9.1) (fun nm => ⟨_, _, _, rfl, nm⟩)
    case fin =>
      intro D9 h9 tk9 hD hk hkL hR
      have kF9 := fr_kpA kF hk (hkL _ kF.ns)
      obtain ⟨rest9, N9, hoff9, _, hR9⟩ := news_rows kF kN hk hR
      ((try dsimp only [List.cons_append, List.nil_append] at N9); (try simp only [List.append_assoc, List.cons_append] at N9))
      clear kF kN hk hkL hR
      (try k_unfold); (try dsimp only)
      (repeat' (first | (k_unfold; (try dsimp only)) | (k_end; wrow_close) | ((with_reducible show wpAny _ _ (execs (_ :: _) _) _ _ _); first | (with_reducible ((with_reducible show wpAny _ _ (execs (Stmt.Assign [Expr.Tuple (Expr.Name (Str.ofString "fixed") _ :: _) _ _] _ _ :: _) _) _ _ _); refine CutR.out ?_)) | (((with_reducible show wpAny _ _ (execs (Stmt.Assign [Expr.Tuple (Expr.Name (Str.ofString "fixed") _ :: _) _ _] _ _ :: _) _) _ _ _); refine CutR.out ?_))) | ((with_reducible show wpAny _ _ (call (Value.ref _) _) _ _ _); first | (with_reducible (k_here; (with_reducible show wpAny _ _ (call (Value.ref 340) _) _ _ _); k_dflt ( refine' contours_ok _ _ _ _ _ _ _ _ _ _ _ _ _ _ _ _ _ _ _ _ _ _ ?C ?O ?hx ?hy ?hy2 ?hm ?hd ?hu ?_; (case C => exact Cx.next (by assumption) (by assumption) (by assumption) rfl rfl); (case O => exact own_of (by assumption) (by assumption) (by k_mem) rfl); (case hx => assumption); (case hy => assumption); (case hy2 => assumption); (case hm => omega); (case hd => ktr_room); (case hu => ktr_units); k_whole; intro cq rowsq x'q y'q t1'q t2'q h'q tk'q hrnq hKq hsq hRq hSmq hx'q hy'q hy2'q; (with_reducible rename Fr _ _ _ _ => kF); (with_reducible rename News _ _ _ _ => kN); have F'q := fr_kp1 kF kN (by k_mem) hKq; have N1q := news_upd kN hKq (by k_upd) hsq; obtain ⟨rest9, N', hoff9, hR9⟩ := news_rows1 kF kN N1q hRq; ((try dsimp only [List.cons_append, List.nil_append] at N'); (try simp only [List.append_assoc, List.cons_append] at N')); clear N1q hKq hsq hRq hrnq; (try k_sweep)))) | (with_reducible (k_here; (with_reducible show wpAny _ _ (call (Value.ref 347) _) _ _ _); k_dflt ( refine' led_ok _ _ _ _ _ _ _ _ _ _ _ _ _ _ _ _ _ _ _ _ _ _ _ _ _ _ _ ?C ?Ot ?Op ?ha ?hb ?hc ?hdd ?hd ?hu ?_; (case C => exact Cx.next (by assumption) (by assumption) (by assumption) rfl rfl); (case Ot => exact own_of (by assumption) (by assumption) (by k_mem) rfl); (case Op => exact own_of (by assumption) (by assumption) (by repeat (first | with_reducible assumption | exact List.mem_append_left _ (by with_reducible assumption) | exact List.mem_append_right _ (by with_reducible assumption) | refine List.Mem.tail _ ?_ | refine List.mem_append_right _ ?_)) rfl); (case ha => assumption); (case hb => assumption); (case hc => assumption); (case hdd => assumption); (case hd => ktr_room); (case hu => ktr_units); k_whole; intro rq u1q u2q h'q tk'q hrnq hKq hrq; (with_reducible rename Fr _ _ _ _ => kF); (with_reducible rename News _ _ _ _ => kN); have F'q := fr_kp0 kF hKq; have N'q := news_kp0 kN hKq; have N''q := news_new kF N'q hrnq hrq; have hneq := neAll rq kN hrnq; clear N'q hrnq hrq hKq; (try k_sweep)))) | (with_reducible (k_here; (with_reducible show wpAny _ _ (call (Value.ref 253) [Value.ref _, Value.ref _, Value.ref _]) _ _ _); k_dflt ( refine' placed_m _ _ _ _ _ _ _ _ _ _ _ _ _ _ _ _ _ _ _ _ _ _ _ _ _ _ _ _ _ _ _ _ _ _ _ _ _ _ _ _ _ _ _ _ _ ?C ?Ox ?Od ?Os ?hvi ?hvo ?hsi ?hso ?ha ?hb ?hc ?hdd ?hd ?hu ?_; (case C => exact Cx.next (by assumption) (by assumption) (by assumption) rfl rfl); (case Ox => exact own_of (by assumption) (by assumption) (by k_mem) rfl); (case Od => exact own_of (by assumption) (by assumption) (by k_mem) rfl); (case Os => exact own_of (by assumption) (by assumption) (by k_mem) rfl); (case hvi => ((with_reducible rename News _ _ _ _ => kN); refine' RowsAt.mono ?_ (by with_reducible assumption); intro c9q o9q hm9q; exact own_of (o := o9q) (by assumption) kN (by repeat (first | exact hm9q | exact List.mem_append_left _ hm9q | exact List.mem_append_right _ hm9q | refine List.Mem.tail _ ?_ | refine List.mem_append_right _ ?_)) rfl)); (case hvo => ((with_reducible rename News _ _ _ _ => kN); refine' RowsAt.mono ?_ (by with_reducible assumption); intro c9q o9q hm9q; exact own_of (o := o9q) (by assumption) kN (by repeat (first | exact hm9q | exact List.mem_append_left _ hm9q | exact List.mem_append_right _ hm9q | refine List.Mem.tail _ ?_ | refine List.mem_append_right _ ?_)) rfl)); (case hsi => assumption); (case hso => assumption); (case ha => assumption); (case hb => assumption); (case hc => assumption); (case hdd => assumption); (case hd => ktr_room); (case hu => ktr_units); k_whole; intro v'q h'q tk'q hKq hRq; (obtain ⟨cv9, hcv9⟩ := rows_ref hRq); subst hcv9; (with_reducible rename Fr _ _ _ _ => kF); (with_reducible rename News _ _ _ _ => kN); have F'q := fr_kp0 kF hKq; obtain ⟨rest9, N', hoff9, hR9⟩ := news_rows0 kF kN hKq hRq; ((try dsimp only [List.cons_append, List.nil_append] at N'); (try simp only [List.append_assoc, List.cons_append] at N')); clear hKq hRq; (try k_sweep)))) | (with_reducible (k_here; (with_reducible show wpAny _ _ (call (Value.ref 221) _) _ _ _); k_dflt (refine' mkPart _ _ _ _ _ _ _ _ _ _ _ _ _ _ _ _ _ _ _ _ _ _ ?C ?a ?b ?_; (case C => exact Cx.next (by assumption) (by assumption) (by assumption) rfl rfl); (case a => ktr_room); (case b => ktr_units); k_whole; unfold RetPart; intro xq dxq e1q e2q e3q e4q e5q k1q k2q k3q k4q k5q tgq tfq tsq h'q tk'q hKq hxq hdxq hxdq h1q h2q; (with_reducible rename Fr _ _ _ _ => kF); (with_reducible rename News _ _ _ _ => kN); have F'q := fr_kp0 kF hKq; have N'q := news_kp0 kN hKq; have N2q := news_new kF N'q hdxq h2q; have N3q := news_new kF N2q hxq h1q; have hne1q := neAll xq kN hxq; have hne2q := neAll dxq kN hdxq; replace hxdq : NeA _ _ := hxdq; clear N'q N2q hKq hxq hdxq h1q h2q; (try k_sweep)))) | (with_reducible (k_here; k_dflt ( (with_reducible show wpAny _ _ (call (Value.ref 281) _) _ _ _); refine' take_ok _ _ _ _ _ _ _ _ _ _ _ _ _ _ _ _ _ _ _ _ _ _ ?C ?O ?hx ?hy ?hy2 ?ht ?ht2 ?hd ?hu ?_; (case C => exact Cx.next (by assumption) (by assumption) (by assumption) rfl rfl); (case O => exact own_of (by assumption) (by assumption) (by k_mem) rfl); (case hx => assumption); (case hy => assumption); (case hy2 => assumption); (case ht => first | decide | omega | (push_cast; omega)); (case ht2 => first | decide | omega); (case hd => ktr_room); (case hu => ktr_units); k_whole; intro rq x'q y'q tq t1q t2q h'q tk'q hr0q hr1q hx'q hy'q hy2'q hKq hsq; (with_reducible rename Fr _ _ _ _ => kF); (with_reducible rename News _ _ _ _ => kN); have F'q := fr_kp1 kF kN (by k_mem) hKq; have N'q := news_upd kN hKq (by k_upd) hsq; clear hKq hsq; (try k_sweep))))) | ((with_reducible show wpAny _ _ (exec (Stmt.Assign _ (Expr.ListComp _ _ _ _) _) _) _ _ _); first | (with_reducible (k_here; (with_reducible rename Fr _ _ _ _ => kF); k_dflt (refine' comp_nestA (fun _ => rule_name) ?hh ?hsw ?cl ?cell ?kind ?names ?cl2 ?cell2 ?kind2 ?names2 ?xn ?db (frL kF) ?hLe ?hy ?hp ?_; (case hh => exact rfl); (case hsw => with_unfolding_all rfl); (case cl => exact rfl); (case cell => decide); (case kind => exact rfl); (case names => decide); (case cl2 => intro _; exact rfl); (case cell2 => decide); (case kind2 => exact rfl); (case names2 => decide); (case xn => exact rfl); (case db => decide); (case hLe => exact rfl); (case hy => exact rfl); (case hp => exact rfl); k_whole; (dsimp only [frL])))) | (with_reducible (k_here; (with_reducible rename Fr _ _ _ _ => kF); k_dflt (refine' comp_nestA (fun _ => rule_tuple) ?hh ?hsw ?cl ?cell ?kind ?names ?cl2 ?cell2 ?kind2 ?names2 ?xn ?db (frL kF) ?hLe ?hy ?hp ?_; (case hh => exact rfl); (case hsw => with_unfolding_all rfl); (case cl => exact rfl); (case cell => decide); (case kind => exact rfl); (case names => decide); (case cl2 => intro _; exact rfl); (case cell2 => decide); (case kind2 => exact rfl); (case names2 => decide); (case xn => exact rfl); (case db => decide); (case hLe => exact rfl); (case hy => exact rfl); (case hp => exact rfl); k_whole; (dsimp only [frL])))) | ((k_here; (with_reducible rename Fr _ _ _ _ => kF); k_dflt (refine' comp_nestA (fun _ => rule_name) ?hh ?hsw ?cl ?cell ?kind ?names ?cl2 ?cell2 ?kind2 ?names2 ?xn ?db (frL kF) ?hLe ?hy ?hp ?_; (case hh => exact rfl); (case hsw => with_unfolding_all rfl); (case cl => exact rfl); (case cell => decide); (case kind => exact rfl); (case names => decide); (case cl2 => intro _; exact rfl); (case cell2 => decide); (case kind2 => exact rfl); (case names2 => decide); (case xn => exact rfl); (case db => decide); (case hLe => exact rfl); (case hy => exact rfl); (case hp => exact rfl); k_whole; (dsimp only [frL])))) | ((k_here; (with_reducible rename Fr _ _ _ _ => kF); k_dflt (refine' comp_nestA (fun _ => rule_tuple) ?hh ?hsw ?cl ?cell ?kind ?names ?cl2 ?cell2 ?kind2 ?names2 ?xn ?db (frL kF) ?hLe ?hy ?hp ?_; (case hh => exact rfl); (case hsw => with_unfolding_all rfl); (case cl => exact rfl); (case cell => decide); (case kind => exact rfl); (case names => decide); (case cl2 => intro _; exact rfl); (case cell2 => decide); (case kind2 => exact rfl); (case names2 => decide); (case xn => exact rfl); (case db => decide); (case hLe => exact rfl); (case hy => exact rfl); (case hp => exact rfl); k_whole; (dsimp only [frL]))))) | ((with_reducible show wpAny _ _ (compareOp CmpOp.NotEq (Value.ref _) (Value.ref _)) _ _ _); first | (with_reducible (k_here; k_dflt ((with_reducible rename News _ _ _ _ => kN); refine' ne_rows ?h1 ?h2 ?e ?hu ?_; (case h1 => (refine' RowsAt.mono ?_ (by with_reducible assumption); intro c9q o9q hm9q; exact (kN (c9q, o9q) (by repeat (first | exact hm9q | exact List.mem_append_left _ hm9q | exact List.mem_append_right _ hm9q | refine List.Mem.tail _ ?_ | refine List.mem_append_right _ ?_))).1)); (case h2 => (refine' RowsAt.mono ?_ (by with_reducible assumption); intro c9q o9q hm9q; exact (kN (c9q, o9q) (by repeat (first | exact hm9q | exact List.mem_append_left _ hm9q | exact List.mem_append_right _ hm9q | refine List.Mem.tail _ ?_ | refine List.mem_append_right _ ?_))).1)); (case e => first | rfl | (simp only [List.map_map, Function.comp_def]; done)); (case hu => ktr_units); k_whole))) | ((k_here; k_dflt ((with_reducible rename News _ _ _ _ => kN); refine' ne_rows ?h1 ?h2 ?e ?hu ?_; (case h1 => (refine' RowsAt.mono ?_ (by with_reducible assumption); intro c9q o9q hm9q; exact (kN (c9q, o9q) (by repeat (first | exact hm9q | exact List.mem_append_left _ hm9q | exact List.mem_append_right _ hm9q | refine List.Mem.tail _ ?_ | refine List.mem_append_right _ ?_))).1)); (case h2 => (refine' RowsAt.mono ?_ (by with_reducible assumption); intro c9q o9q hm9q; exact (kN (c9q, o9q) (by repeat (first | exact hm9q | exact List.mem_append_left _ hm9q | exact List.mem_append_right _ hm9q | refine List.Mem.tail _ ?_ | refine List.mem_append_right _ ?_))).1)); (case e => first | rfl | (simp only [List.map_map, Function.comp_def]; done)); (case hu => ktr_units); k_whole)))) | walk1 | (dsimp only; (with_reducible show wpAny _ _ _ _ _ _)) | (leave1; walk_say "STEP leave1"; try dsimp only) | fail "no step"))
      (with_reducible rename Fr _ _ _ _ => kF); (with_reducible rename News _ _ _ _ => kN)
      obtain ⟨T, hT9⟩ := drop_of kN 16
      simp only [List.drop_succ_cons, List.drop_zero] at hT9
      have hTn : ∀ q ∈ T, News g L' _ [q] := fun q hq q' hq' => by
        rw [List.mem_singleton.mp hq']
        exact kN q (.tail _ (.tail _ (.tail _ (.tail _ (.tail _ (.tail _ (.tail _ (.tail _ (.tail _ (.tail _ (.tail _ (.tail _ (.tail _ (.tail _ (.tail _ (.tail _ (hT9 ▸ hq)))))))))))))))))
      have hfree : ∀ q ∈ T, q ∈ cods ∨ s.heap.get? q.1 = none := by
        rw [hT9]
        intro q hq
        rcases List.mem_append.mp hq with hq | hq
        · exact .inl hq
        · exact .inr (none_rest hg (fun q9 hm9 => (kN q9 (by repeat (first | exact hm9 | exact List.mem_append_left _ hm9 | exact List.mem_append_right _ hm9 | refine List.Mem.tail _ ?_ | refine List.mem_append_right _ ?_))).2.2) (Off.app (Off.addr (by with_reducible assumption) ((acons (⟨_, (by repeat (first | exact List.Mem.head _ | refine List.Mem.tail _ ?_))⟩) ((acons (⟨_, (by repeat (first | exact List.Mem.head _ | refine List.Mem.tail _ ?_))⟩) ((acons (⟨_, (by repeat (first | exact List.Mem.head _ | refine List.Mem.tail _ ?_))⟩) (fun q hq => ⟨q.2, (by repeat (first | exact hq | exact List.mem_append_left _ hq | exact List.mem_append_right _ hq | refine List.Mem.tail _ ?_ | refine List.mem_append_right _ ?_))⟩)))))))) (Off.app (Off.addr (by with_reducible assumption) ((acons (⟨_, (by repeat (first | exact List.Mem.head _ | refine List.Mem.tail _ ?_))⟩) ((acons (⟨_, (by repeat (first | exact List.Mem.head _ | refine List.Mem.tail _ ?_))⟩) ((acons (⟨_, (by repeat (first | exact List.Mem.head _ | refine List.Mem.tail _ ?_))⟩) (fun q hq => ⟨q.2, (by repeat (first | exact hq | exact List.mem_append_left _ hq | exact List.mem_append_right _ hq | refine List.Mem.tail _ ?_ | refine List.mem_append_right _ ?_))⟩)))))))) (Off.app (Off.addr (by with_reducible assumption) ((acons (⟨_, (by repeat (first | exact List.Mem.head _ | refine List.Mem.tail _ ?_))⟩) ((acons (⟨_, (by repeat (first | exact List.Mem.head _ | refine List.Mem.tail _ ?_))⟩) ((acons (⟨_, (by repeat (first | exact List.Mem.head _ | refine List.Mem.tail _ ?_))⟩) (fun q hq => ⟨q.2, (by repeat (first | exact hq | exact List.mem_append_left _ hq | exact List.mem_append_right _ hq | refine List.Mem.tail _ ?_ | refine List.mem_append_right _ ?_))⟩)))))))) (Off.app (Off.addr (by with_reducible assumption) ((acons (⟨_, (by repeat (first | exact List.Mem.head _ | refine List.Mem.tail _ ?_))⟩) ((acons (⟨_, (by repeat (first | exact List.Mem.head _ | refine List.Mem.tail _ ?_))⟩) ((acons (⟨_, (by repeat (first | exact List.Mem.head _ | refine List.Mem.tail _ ?_))⟩) (fun q hq => ⟨q.2, (by repeat (first | exact hq | exact List.mem_append_left _ hq | exact List.mem_append_right _ hq | refine List.Mem.tail _ ?_ | refine List.mem_append_right _ ?_))⟩)))))))) ((Off.addr (by with_reducible assumption) ((acons (⟨_, (by repeat (first | exact List.Mem.head _ | refine List.Mem.tail _ ?_))⟩) ((acons (⟨_, (by repeat (first | exact List.Mem.head _ | refine List.Mem.tail _ ?_))⟩) ((acons (⟨_, (by repeat (first | exact List.Mem.head _ | refine List.Mem.tail _ ?_))⟩) (fun q hq => ⟨q.2, (by repeat (first | exact hq | exact List.mem_append_left _ hq | exact List.mem_append_right _ hq | refine List.Mem.tail _ ?_ | refine List.mem_append_right _ ?_))⟩))))))))))))) q hq)
      refine' pr_b w p loose mean mg mb H₀ _ dp un gd l _ _ _ g _ L' src ts _ _ _ _ _ _ _ _ _ _ _ _ sn _ _ _ _ _ _ ta tb tc td _ _ a b c d ps T _ _ C kF ?N B' X' T' hcd ?hms ?hml ?dS ?dR ?dO ?dL ?dF ?dI ?dY ?dX ?dC ?hT ⟨l1.2.2.1, l1.1, l1.2.1⟩ n3 n4 n6 ?hoff ?hvi ?hvo ?hvl ?hsi ?hso ?hx ?hy ?hy2 haa hbb hcc hdd (by omega) (by omega) ?_
      case' N =>
        refine' (acons (kN _ (by k_mem)) ((acons (kN _ (by k_mem)) ((acons (kN _ (by k_mem)) ((acons (kN _ (by k_mem)) ((acons (kN _ (by k_mem)) ((acons (kN _ (by k_mem)) ((acons (kN _ (by k_mem)) ((acons (kN _ (by k_mem)) ((acons (kN _ (by k_mem)) ((acons (kN _ (by k_mem)) ((acons (kN _ (by k_mem)) ((acons (kN _ (by k_mem)) (?N2))))))))))))))))))))))))
      case hms => rfl
      case hml => rfl
      case dS => assumption
      case dR => assumption
      case dO => assumption
      case dL => assumption
      case dF => assumption
      case dI => assumption
      case dY => assumption
      case dX => assumption
      case dC => assumption
      case N => exact fun q hq => hTn q hq q (.head _)
      case hT => exact TabSt.mono (fun q hq => by rw [hT9]; exact List.mem_append_left _ hq) hT
      case hvi =>
        refine' RowsAt.mono ?_ (by with_reducible assumption)
        intro c9 o9 hm9
        rw [hT9]
        exact (by repeat (first | exact hm9 | exact List.mem_append_left _ hm9 | exact List.mem_append_right _ hm9 | refine List.Mem.tail _ ?_ | refine List.mem_append_right _ ?_))
      case hvo =>
        refine' RowsAt.mono ?_ (by with_reducible assumption)
        intro c9 o9 hm9
        rw [hT9]
        exact (by repeat (first | exact hm9 | exact List.mem_append_left _ hm9 | exact List.mem_append_right _ hm9 | refine List.Mem.tail _ ?_ | refine List.mem_append_right _ ?_))
      case hvl =>
        refine' RowsAt.mono ?_ (by with_reducible assumption)
        intro c9 o9 hm9
        rw [hT9]
        exact (by repeat (first | exact hm9 | exact List.mem_append_left _ hm9 | exact List.mem_append_right _ hm9 | refine List.Mem.tail _ ?_ | refine List.mem_append_right _ ?_))
      case hoff =>
        rw [hT9]
        exact Off.app ((acons (fun p hp => Nat.ne_of_lt (Nat.lt_of_lt_of_le (allLt_mem hcod.1 p hp) (by first | exact Nat.le_add_right _ 1 | exact Nat.le_add_right _ 2 | exact Nat.le_add_right _ 3 | exact Nat.le_add_right _ 4 | exact Nat.le_add_right _ 5 | exact Nat.le_add_right _ 6 | exact Nat.le_add_right _ 7 | exact Nat.le_add_right _ 8 | exact Nat.le_add_right _ 9 | exact Nat.le_refl _ | omega))) ((acons (fun p hp => Nat.ne_of_lt (Nat.lt_of_lt_of_le (allLt_mem hcod.1 p hp) (by first | exact Nat.le_add_right _ 1 | exact Nat.le_add_right _ 2 | exact Nat.le_add_right _ 3 | exact Nat.le_add_right _ 4 | exact Nat.le_add_right _ 5 | exact Nat.le_add_right _ 6 | exact Nat.le_add_right _ 7 | exact Nat.le_add_right _ 8 | exact Nat.le_add_right _ 9 | exact Nat.le_refl _ | omega))) ((acons (fun p hp => Nat.ne_of_lt (Nat.lt_of_lt_of_le (allLt_mem hcod.1 p hp) (by first | exact Nat.le_add_right _ 1 | exact Nat.le_add_right _ 2 | exact Nat.le_add_right _ 3 | exact Nat.le_add_right _ 4 | exact Nat.le_add_right _ 5 | exact Nat.le_add_right _ 6 | exact Nat.le_add_right _ 7 | exact Nat.le_add_right _ 8 | exact Nat.le_add_right _ 9 | exact Nat.le_refl _ | omega))) ((acons (fun p hp => Nat.ne_of_lt (Nat.lt_of_lt_of_le (allLt_mem hcod.1 p hp) (by first | exact Nat.le_add_right _ 1 | exact Nat.le_add_right _ 2 | exact Nat.le_add_right _ 3 | exact Nat.le_add_right _ 4 | exact Nat.le_add_right _ 5 | exact Nat.le_add_right _ 6 | exact Nat.le_add_right _ 7 | exact Nat.le_add_right _ 8 | exact Nat.le_add_right _ 9 | exact Nat.le_refl _ | omega))) ((acons (fun p hp => Nat.ne_of_lt (Nat.lt_of_lt_of_le (allLt_mem hcod.1 p hp) (by first | exact Nat.le_add_right _ 1 | exact Nat.le_add_right _ 2 | exact Nat.le_add_right _ 3 | exact Nat.le_add_right _ 4 | exact Nat.le_add_right _ 5 | exact Nat.le_add_right _ 6 | exact Nat.le_add_right _ 7 | exact Nat.le_add_right _ 8 | exact Nat.le_add_right _ 9 | exact Nat.le_refl _ | omega))) ((acons (fun p hp => Nat.ne_of_lt (Nat.lt_of_lt_of_le (allLt_mem hcod.1 p hp) (by first | exact Nat.le_add_right _ 1 | exact Nat.le_add_right _ 2 | exact Nat.le_add_right _ 3 | exact Nat.le_add_right _ 4 | exact Nat.le_add_right _ 5 | exact Nat.le_add_right _ 6 | exact Nat.le_add_right _ 7 | exact Nat.le_add_right _ 8 | exact Nat.le_add_right _ 9 | exact Nat.le_refl _ | omega))) ((acons (fun p hp => Nat.ne_of_lt (Nat.lt_of_lt_of_le (allLt_mem hcod.1 p hp) (by first | exact Nat.le_add_right _ 1 | exact Nat.le_add_right _ 2 | exact Nat.le_add_right _ 3 | exact Nat.le_add_right _ 4 | exact Nat.le_add_right _ 5 | exact Nat.le_add_right _ 6 | exact Nat.le_add_right _ 7 | exact Nat.le_add_right _ 8 | exact Nat.le_add_right _ 9 | exact Nat.le_refl _ | omega))) ((acons (fun p hp => Nat.ne_of_lt (Nat.lt_of_lt_of_le (allLt_mem hcod.1 p hp) (by first | exact Nat.le_add_right _ 1 | exact Nat.le_add_right _ 2 | exact Nat.le_add_right _ 3 | exact Nat.le_add_right _ 4 | exact Nat.le_add_right _ 5 | exact Nat.le_add_right _ 6 | exact Nat.le_add_right _ 7 | exact Nat.le_add_right _ 8 | exact Nat.le_add_right _ 9 | exact Nat.le_refl _ | omega))) ((acons (fun p hp => Nat.ne_of_lt (Nat.lt_of_lt_of_le (allLt_mem hcod.1 p hp) (by first | exact Nat.le_add_right _ 1 | exact Nat.le_add_right _ 2 | exact Nat.le_add_right _ 3 | exact Nat.le_add_right _ 4 | exact Nat.le_add_right _ 5 | exact Nat.le_add_right _ 6 | exact Nat.le_add_right _ 7 | exact Nat.le_add_right _ 8 | exact Nat.le_add_right _ 9 | exact Nat.le_refl _ | omega))) ((acons (n7) ((acons (n8) ((acons (n5) (fun q h => nomatch h))))))))))))))))))))))))) (Off.app (Off.addr (by with_reducible assumption) ((acons (⟨_, (by repeat (first | exact List.Mem.head _ | refine List.Mem.tail _ ?_))⟩) ((acons (⟨_, (by repeat (first | exact List.Mem.head _ | refine List.Mem.tail _ ?_))⟩) ((acons (⟨_, (by repeat (first | exact List.Mem.head _ | refine List.Mem.tail _ ?_))⟩) ((acons (⟨_, (by repeat (first | exact List.Mem.head _ | refine List.Mem.tail _ ?_))⟩) ((acons (⟨_, (by repeat (first | exact List.Mem.head _ | refine List.Mem.tail _ ?_))⟩) ((acons (⟨_, (by repeat (first | exact List.Mem.head _ | refine List.Mem.tail _ ?_))⟩) ((acons (⟨_, (by repeat (first | exact List.Mem.head _ | refine List.Mem.tail _ ?_))⟩) ((acons (⟨_, (by repeat (first | exact List.Mem.head _ | refine List.Mem.tail _ ?_))⟩) ((acons (⟨_, (by repeat (first | exact List.Mem.head _ | refine List.Mem.tail _ ?_))⟩) ((acons (⟨_, (by repeat (first | exact List.Mem.head _ | refine List.Mem.tail _ ?_))⟩) ((acons (⟨_, (by repeat (first | exact List.Mem.head _ | refine List.Mem.tail _ ?_))⟩) ((acons (⟨_, (by repeat (first | exact List.Mem.head _ | refine List.Mem.tail _ ?_))⟩) ((fun q h => nomatch h))))))))))))))))))))))))))) (Off.app (Off.addr (by with_reducible assumption) ((acons (⟨_, (by repeat (first | exact List.Mem.head _ | refine List.Mem.tail _ ?_))⟩) ((acons (⟨_, (by repeat (first | exact List.Mem.head _ | refine List.Mem.tail _ ?_))⟩) ((acons (⟨_, (by repeat (first | exact List.Mem.head _ | refine List.Mem.tail _ ?_))⟩) ((acons (⟨_, (by repeat (first | exact List.Mem.head _ | refine List.Mem.tail _ ?_))⟩) ((acons (⟨_, (by repeat (first | exact List.Mem.head _ | refine List.Mem.tail _ ?_))⟩) ((acons (⟨_, (by repeat (first | exact List.Mem.head _ | refine List.Mem.tail _ ?_))⟩) ((acons (⟨_, (by repeat (first | exact List.Mem.head _ | refine List.Mem.tail _ ?_))⟩) ((acons (⟨_, (by repeat (first | exact List.Mem.head _ | refine List.Mem.tail _ ?_))⟩) ((acons (⟨_, (by repeat (first | exact List.Mem.head _ | refine List.Mem.tail _ ?_))⟩) ((acons (⟨_, (by repeat (first | exact List.Mem.head _ | refine List.Mem.tail _ ?_))⟩) ((acons (⟨_, (by repeat (first | exact List.Mem.head _ | refine List.Mem.tail _ ?_))⟩) ((acons (⟨_, (by repeat (first | exact List.Mem.head _ | refine List.Mem.tail _ ?_))⟩) ((fun q h => nomatch h))))))))))))))))))))))))))) (Off.app (Off.addr (by with_reducible assumption) ((acons (⟨_, (by repeat (first | exact List.Mem.head _ | refine List.Mem.tail _ ?_))⟩) ((acons (⟨_, (by repeat (first | exact List.Mem.head _ | refine List.Mem.tail _ ?_))⟩) ((acons (⟨_, (by repeat (first | exact List.Mem.head _ | refine List.Mem.tail _ ?_))⟩) ((acons (⟨_, (by repeat (first | exact List.Mem.head _ | refine List.Mem.tail _ ?_))⟩) ((acons (⟨_, (by repeat (first | exact List.Mem.head _ | refine List.Mem.tail _ ?_))⟩) ((acons (⟨_, (by repeat (first | exact List.Mem.head _ | refine List.Mem.tail _ ?_))⟩) ((acons (⟨_, (by repeat (first | exact List.Mem.head _ | refine List.Mem.tail _ ?_))⟩) ((acons (⟨_, (by repeat (first | exact List.Mem.head _ | refine List.Mem.tail _ ?_))⟩) ((acons (⟨_, (by repeat (first | exact List.Mem.head _ | refine List.Mem.tail _ ?_))⟩) ((acons (⟨_, (by repeat (first | exact List.Mem.head _ | refine List.Mem.tail _ ?_))⟩) ((acons (⟨_, (by repeat (first | exact List.Mem.head _ | refine List.Mem.tail _ ?_))⟩) ((acons (⟨_, (by repeat (first | exact List.Mem.head _ | refine List.Mem.tail _ ?_))⟩) ((fun q h => nomatch h))))))))))))))))))))))))))) (Off.app (Off.addr (by with_reducible assumption) ((acons (⟨_, (by repeat (first | exact List.Mem.head _ | refine List.Mem.tail _ ?_))⟩) ((acons (⟨_, (by repeat (first | exact List.Mem.head _ | refine List.Mem.tail _ ?_))⟩) ((acons (⟨_, (by repeat (first | exact List.Mem.head _ | refine List.Mem.tail _ ?_))⟩) ((acons (⟨_, (by repeat (first | exact List.Mem.head _ | refine List.Mem.tail _ ?_))⟩) ((acons (⟨_, (by repeat (first | exact List.Mem.head _ | refine List.Mem.tail _ ?_))⟩) ((acons (⟨_, (by repeat (first | exact List.Mem.head _ | refine List.Mem.tail _ ?_))⟩) ((acons (⟨_, (by repeat (first | exact List.Mem.head _ | refine List.Mem.tail _ ?_))⟩) ((acons (⟨_, (by repeat (first | exact List.Mem.head _ | refine List.Mem.tail _ ?_))⟩) ((acons (⟨_, (by repeat (first | exact List.Mem.head _ | refine List.Mem.tail _ ?_))⟩) ((acons (⟨_, (by repeat (first | exact List.Mem.head _ | refine List.Mem.tail _ ?_))⟩) ((acons (⟨_, (by repeat (first | exact List.Mem.head _ | refine List.Mem.tail _ ?_))⟩) ((acons (⟨_, (by repeat (first | exact List.Mem.head _ | refine List.Mem.tail _ ?_))⟩) ((fun q h => nomatch h))))))))))))))))))))))))))) ((Off.addr (by with_reducible assumption) ((acons (⟨_, (by repeat (first | exact List.Mem.head _ | refine List.Mem.tail _ ?_))⟩) ((acons (⟨_, (by repeat (first | exact List.Mem.head _ | refine List.Mem.tail _ ?_))⟩) ((acons (⟨_, (by repeat (first | exact List.Mem.head _ | refine List.Mem.tail _ ?_))⟩) ((acons (⟨_, (by repeat (first | exact List.Mem.head _ | refine List.Mem.tail _ ?_))⟩) ((acons (⟨_, (by repeat (first | exact List.Mem.head _ | refine List.Mem.tail _ ?_))⟩) ((acons (⟨_, (by repeat (first | exact List.Mem.head _ | refine List.Mem.tail _ ?_))⟩) ((acons (⟨_, (by repeat (first | exact List.Mem.head _ | refine List.Mem.tail _ ?_))⟩) ((acons (⟨_, (by repeat (first | exact List.Mem.head _ | refine List.Mem.tail _ ?_))⟩) ((acons (⟨_, (by repeat (first | exact List.Mem.head _ | refine List.Mem.tail _ ?_))⟩) ((acons (⟨_, (by repeat (first | exact List.Mem.head _ | refine List.Mem.tail _ ?_))⟩) ((acons (⟨_, (by repeat (first | exact List.Mem.head _ | refine List.Mem.tail _ ?_))⟩) ((acons (⟨_, (by repeat (first | exact List.Mem.head _ | refine List.Mem.tail _ ?_))⟩) ((fun q h => nomatch h))))))))))))))))))))))))))))))))
      case hsi => assumption
      case hso => assumption
      case hx => assumption
      case hy => assumption
      case hy2 => assumption
      intro g2 m2 ps' cods' sx' sy' u1' u2' h9 tk9 kF9 hkg e1 ex ey ey2 e2 e3 e4
      have e3' : ∀ q ∈ cods, q ∈ cods' := fun q hq => e3 q (by rw [hT9]; exact List.mem_append_left _ hq)
      clear kF kN
      (try k_unfold); (try dsimp only)
      refine hret ps' cods' sx' sy' u1' u2' h9 tk9 (kpF_end hg hkg kF9 ?_) (e1 _ (.head _)).1 (e1 _ (.tail _ (.tail _ (.head _)))).1 (fun q hq => (e1 q (.tail _ (.tail _ (.tail _ hq)))).1) e2 e3' (fun q hq => ?_) ex ey ey2
      · exact (acons (.inl (.head _)) ((acons (.inr ⟨Os.1, (e1 _ (.tail _ (.head _))).1⟩) ((acons (.inl (.tail _ (.head _))) (fun q hq => .inr ⟨(Oc q hq).1, (e1 q (.tail _ (.tail _ (.tail _ (e3' q hq))))).1⟩))))))
      · rcases e4 q hq with z | z
        · exact hfree q z
        · right
          cases y : s.heap.get? q.1 with
          | none => rfl
          | some o =>
            have := hg q.1 o y fun hm => by
              obtain ⟨p9, hp9, hq9⟩ := List.mem_map.mp hm
              have := lraw p9 hp9
              rw [hq9] at this
              exact absurd z.2 (Nat.not_lt.mpr (Nat.le_of_lt this))
            rw [z.1] at this; cases this
end
section
open PySem PySem.Spec PySem.Calls PySem.W PyProof.Rows
theorem own_allN {H₀ g h : Heap} {l : List Env} {A₀ : Around} {L : Addr} {news : List (Addr × Obj)} (B : Below A₀ H₀ l g) (N : News g L h news) {env : Env} (hf : env.frame = some L) : ∀ q ∈ news, Own H₀ (env :: l) h q.1 q.2 := fun q hq => own_of (o := q.2) B N hq hf
theorem placed_d_use {w : World} {p : Program} {loose : List Str} {mean : ExcName → Option Value} {mg mb : Str → Option Value} {H₀ Hc g : Heap} {dp un : Nat} {gd : Option (List Code)} {l : List Env} {env : Env} {s : Shared} {Q E : Value → Shared → Prop} {L : Addr} {A : Around} {m : Str → Option Value} {news : List (Addr × Obj)}
    {x dx ci co : Addr} {e1 e2 e3 e4 e5 : Int} {k1 k2 k3 k4 k5 tg tf ts : Tok}
    (C : Cx (Mine.hd.heap_1 w.params) p loose mean mg mb H₀ l Hc) (B : Below A H₀ l g) (F : Fr g L s.heap m) (N : News g L s.heap news) (hf : env.frame = some L) (hk : env.scope.kind = .function)
    (mx : (x, instObj 221 dx) ∈ news) (md : (dx, partDict e1 e2 e3 e4 e5 k1 k2 k3 k4 k5 tg tf ts 0 0 0 false 203) ∈ news) (hvi : RowsAt (fun c o => (c, o) ∈ news) (.ref ci) [[(5, 7, true)]]) (hvo : RowsAt (fun c o => (c, o) ∈ news) (.ref co) [[(1, 2, true)]])
    (hd : dp + 14 ≤ 400) (hu : un + 100 ≤ 400) (h : ∀ v' h' tk', Kp s.heap h' [] → RowsAt (NM s.heap h') v' [[(1, 2, true)]] → Q v' {s with heap := h', toks := tk'}) :
    wpAny (model PySem.Challenge.rw_on0238_01.row.prog w) (AA dp un gd (env :: l)) (call (.ref 253) [.ref x, .ref ci, .ref co]) Q E s :=
  placed_d w p loose mean mg mb H₀ dp un gd (env :: l) s Q E x dx ci co [[(5, 7, true)]] [[(1, 2, true)]] news e1 e2 e3 e4 e5 k1 k2 k3 k4 k5 tg tf ts 0 0 0 (1, 2, true) (5, 7, true) (Cx.next C B F hf hk) (own_of B N mx hf) (own_of B N md hf) (own_allN B N hf) hvi hvo ⟨.inl rfl, by decide⟩ ⟨.inl rfl, by decide⟩ (by decide) (by decide) rfl rfl hd hu
    (fun v' h' tk' k r => h v' h' tk' k r)
theorem eq_rows_use {prog : Program} {w : World} {A : Around} {E : Value → Shared → Prop} {s : Shared} {v u : Value} {a b : List (List Pt)} {Q : Value → Shared → Prop} {g : Heap} {L : Addr} {news rest : List (Addr × Obj)} (N : News g L s.heap news) (h1 : RowsAt (fun c o => (c, o) ∈ rest) v a) (hs : ∀ q ∈ rest, q ∈ news) (h2 : RowsAt (fun c o => (c, o) ∈ news) u b) (e : a = b) (hu : A.units ≤ 400) (h : Q (.bool true) s) : wpAny (model prog w) A (compareOp .Eq v u) Q E s :=
  eq_rows (RowsAt.mono (fun c o hm => (N (c, o) (hs _ hm)).1) h1) (RowsAt.mono (fun c o hm => (N (c, o) hm).1) h2) e hu h
theorem law_d : ∀ (w : World) (p : Program) (loose : List Str) (mean : ExcName → Option Value) (mg mb : Str → Option Value) (H₀ Hc : Heap) (dp un : Nat) (gd : Option (List Code)) (s : Shared) (Q : Flow → Shared → Prop) (E : Value → Shared → Prop) (g : Heap) (L' fa : Addr) (cd : Value) (m : Str → Option Value) (ps1 ps2 : Array Value),
  (Cx (Mine.hd.heap_1 w.params) p loose mean mg mb H₀ [] Hc) →
  (Fr g L' s.heap m) →
  (News g L' s.heap [(349, tabObj ps1), (330, tabObj ps2)]) →
  (Below (AA dp un gd []) H₀ [] g) →
  ((Mine.hd.heap_1 w.params).In g) →
  (Top p loose mean mg mb g) →
  (dp + 60 ≤ 400) →
  (un + 300 ≤ 400) →
  (∀ h' tk' m' news', Fr g L' h' m' → News g L' h' news' → (349, tabObj ps1) ∈ news' → (330, tabObj ps2) ∈ news' → Q (.ret (.bool true)) {s with heap := h', toks := tk'}) →
  wpAny (model PySem.Challenge.rw_on0238_01.row.prog w) ((AA dp un gd []).deeper (envOf (Str.ofString "law") (scopeOf w 359) L' fa cd)) (execs ((bodyOf w 359).drop 5) (envOf (Str.ofString "law") (scopeOf w 359) L' fa cd)) Q E s := by
  k_fill
  w_top off
  intro w p loose mean mg mb H₀ Hc dp un gd s Q E g L' fa cd m ps1 ps2 C F' N' B' X' T' hd hu hret
  have eb : (bodyOf w 359).drop 5 = [_, _] := rfl
  have es : scopeOf w 359 = { kind := _, names := _, isGenerator := _, isCoroutine := _, more := _ } := rfl
  rw [eb, es]
  clear eb es
  (try k_fold)
  (try (refine foldL ?_; intro eV aV))
  (repeat' (first | (k_unfold; (try dsimp only)) | (k_end; wrow_close) | ((with_reducible show wpAny _ _ (compareOp CmpOp.Eq (Value.ref _) (Value.ref _)) _ _ _); first | (with_reducible (k_here; (with_reducible rename News _ _ _ _ => kN); (with_reducible rename RowsAt _ _ _ => kR); k_dflt (refine' eq_rows_use (b := [[(1, 2, true)]]) kN kR ?hs ?h2 ?e ?hu ?_; (case hs => intro q9q hm9q; exact (by repeat (first | exact hm9q | exact List.mem_append_left _ hm9q | exact List.mem_append_right _ hm9q | refine List.Mem.tail _ ?_ | refine List.mem_append_right _ ?_))); (case h2 => exact ⟨_, [.ref _], _, rfl, (by repeat (first | exact List.Mem.head _ | refine List.Mem.tail _ ?_)), All2.cons_iff.mpr ⟨⟨_, [.ref _], _, rfl, (by repeat (first | exact List.Mem.head _ | refine List.Mem.tail _ ?_)), All2.cons_iff.mpr ⟨⟨_, _, _, rfl, (by repeat (first | exact List.Mem.head _ | refine List.Mem.tail _ ?_))⟩, All2.nil⟩⟩, All2.nil⟩⟩); (case e => decide); (case hu => ktr_units); k_whole))) | ((k_here; (with_reducible rename News _ _ _ _ => kN); (with_reducible rename RowsAt _ _ _ => kR); k_dflt (refine' eq_rows_use (b := [[(1, 2, true)]]) kN kR ?hs ?h2 ?e ?hu ?_; (case hs => intro q9q hm9q; exact (by repeat (first | exact hm9q | exact List.mem_append_left _ hm9q | exact List.mem_append_right _ hm9q | refine List.Mem.tail _ ?_ | refine List.mem_append_right _ ?_))); (case h2 => exact ⟨_, [.ref _], _, rfl, (by repeat (first | exact List.Mem.head _ | refine List.Mem.tail _ ?_)), All2.cons_iff.mpr ⟨⟨_, [.ref _], _, rfl, (by repeat (first | exact List.Mem.head _ | refine List.Mem.tail _ ?_)), All2.cons_iff.mpr ⟨⟨_, _, _, rfl, (by repeat (first | exact List.Mem.head _ | refine List.Mem.tail _ ?_))⟩, All2.nil⟩⟩, All2.nil⟩⟩); (case e => decide); (case hu => ktr_units); k_whole)))) | ((with_reducible show wpAny _ _ (call (Value.ref _) _) _ _ _); first | (with_reducible (k_here; (with_reducible show wpAny _ _ (call (Value.ref 253) [Value.ref _, Value.ref _, Value.ref _]) _ _ _); (with_reducible rename Fr _ _ _ _ => kF); (with_reducible rename News _ _ _ _ => kN); (with_reducible rename Below _ _ _ _ => kB); (with_reducible rename Cx _ _ _ _ _ _ _ _ _ => kC); k_dflt ( refine' placed_d_use kC kB kF kN rfl rfl ?mx ?md ?hvi ?hvo ?hd ?hu ?_; (case mx => k_mem); (case md => k_mem); (case hvi => exact ⟨_, [.ref _], _, rfl, (by repeat (first | exact List.Mem.head _ | refine List.Mem.tail _ ?_)), All2.cons_iff.mpr ⟨⟨_, [.ref _], _, rfl, (by repeat (first | exact List.Mem.head _ | refine List.Mem.tail _ ?_)), All2.cons_iff.mpr ⟨⟨_, _, _, rfl, (by repeat (first | exact List.Mem.head _ | refine List.Mem.tail _ ?_))⟩, All2.nil⟩⟩, All2.nil⟩⟩); (case hvo => exact ⟨_, [.ref _], _, rfl, (by repeat (first | exact List.Mem.head _ | refine List.Mem.tail _ ?_)), All2.cons_iff.mpr ⟨⟨_, [.ref _], _, rfl, (by repeat (first | exact List.Mem.head _ | refine List.Mem.tail _ ?_)), All2.cons_iff.mpr ⟨⟨_, _, _, rfl, (by repeat (first | exact List.Mem.head _ | refine List.Mem.tail _ ?_))⟩, All2.nil⟩⟩, All2.nil⟩⟩); (case hd => ktr_room); (case hu => ktr_units); k_whole; intro v'q h'q tk'q hKq hRq; (obtain ⟨cv9, hcv9⟩ := rows_ref hRq); subst hcv9; (with_reducible rename Fr _ _ _ _ => kF); (with_reducible rename News _ _ _ _ => kN); have F'q := fr_kp0 kF hKq; obtain ⟨rest9, N', hoff9, hR9⟩ := news_rows0 kF kN hKq hRq; ((try dsimp only [List.cons_append, List.nil_append] at N'); (try simp only [List.append_assoc, List.cons_append] at N')); clear hKq hRq; (try k_sweep)))) | (with_reducible (k_here; (with_reducible show wpAny _ _ (call (Value.ref 221) [Value.int _ _, Value.int _ _, Value.int _ _, Value.bool _]) _ _ _); k_dflt (refine' mkPart4 _ _ _ _ _ _ _ _ _ _ _ _ _ _ _ _ _ _ _ _ _ ?C ?a ?b ?_; (case C => exact Cx.next (by assumption) (by assumption) (by assumption) rfl rfl); (case a => ktr_room); (case b => ktr_units); k_whole; unfold RetPart; intro xq dxq e1q e2q e3q e4q e5q k1q k2q k3q k4q k5q tgq tfq tsq h'q tk'q hKq hxq hdxq hxdq h1q h2q; (with_reducible rename Fr _ _ _ _ => kF); (with_reducible rename News _ _ _ _ => kN); have F'q := fr_kp0 kF hKq; have N'q := news_kp0 kN hKq; have N2q := news_new kF N'q hdxq h2q; have N3q := news_new kF N2q hxq h1q; have hne1q := neAll xq kN hxq; have hne2q := neAll dxq kN hdxq; replace hxdq : NeA _ _ := hxdq; clear N'q N2q hKq hxq hdxq h1q h2q; (try k_sweep))))) | walk1 | (dsimp only; (with_reducible show wpAny _ _ _ _ _ _)) | (leave1; walk_say "STEP leave1"; try dsimp only) | fail "no step"))
  (try k_unfold)
  (try dsimp only)
  (with_reducible rename Fr _ _ _ _ => kF); (with_reducible rename News _ _ _ _ => kN)
  exact hret _ _ _ _ kF kN (by k_mem) (by k_mem)
end
section
open PySem PySem.Spec PySem.Calls PySem.W PyProof.Rows
theorem row_ok : ∀ (w : World) (p : Program) (loose : List Str) (mean : ExcName → Option Value) (mg mb : Str → Option Value) (H₀ : Heap)
  (dp un : Nat) (gd : Option (List Code)) (l : List Env) (s : Shared) (Q E : Value → Shared → Prop) (x dx sc : Addr) (e1 e2 e3 e4 e5 : Int) (k1 k2 k3 k4 k5 tg tf ts : Tok) (gl f n : Int) (mv : Bool),
  Cx (Mine.hd.heap_1 w.params) p loose mean mg mb H₀ l s.heap → (Own H₀ l s.heap x (instObj 221 dx)) → (Own H₀ l s.heap dx (partDict e1 e2 e3 e4 e5 k1 k2 k3 k4 k5 tg tf ts gl f n mv sc)) →
  dp + 3 ≤ 400 → un + 24 ≤ 400 →
  (∀ r h' tk', s.heap.get? r = none → Kp s.heap h' [] → h'.get? r = some (tup [.int gl tg, .int f tf, .int n ts, .bool mv, .ref sc]) → Q (.ref r) {s with heap := h', toks := tk'}) →
  wpAny (model PySem.Challenge.rw_on0238_01.row.prog w) (AA dp un gd l) (call (.ref 218) [.ref x]) Q E s := by
  k_fill
  w_top off
  intro w p loose mean mg mb H₀ dp un gd l s Q E x dx sc e1 e2 e3 e4 e5 k1 k2 k3 k4 k5 tg tf ts gl f n mv C Ox Od hd hu hret
  refine wpAny_call ?_
  let oq1 : Obj := partDict e1 e2 e3 e4 e5 k1 k2 k3 k4 k5 tg tf ts gl f n mv sc; k_dflt (refine' enterK C [(x, instObj 221 dx), (dx, oq1)] ?O ?kA ?k6 ?k7 ?k8 ?k9 ?kB ?_ ?c2 ?c3 ?c4 ?c5; (case O => exact (acons (Ox) (List.forall_mem_singleton.mpr Od))); (case kA => exact rfl); (case k6 => k_is); (case k7 => k_is); (case k8 => ktr_room); (case k9 => exact BindsTo.of_eq rfl); (case c5 => decide); (case kB => exact locs rfl); (case c2 => exact rfl); (case c3 => exact rfl); (case c4 => exact rfl); k_whole; intro g L' h₁ hL hg F' N' B' X' T'; (try dsimp only); (try k_fold); (try (refine foldL ?_; intro eV aV)))
  k_steps
  ((try k_unfold); (try dsimp only); (with_reducible rename Fr _ _ _ _ => kF); (with_reducible rename News _ _ _ _ => kN); exact hret _ _ _ (fresh_of hg kN (by k_mem) (notin2 (by k_ne) (by k_ne))) (kp_ofS hg kF ((acons (.inr ⟨Ox.1, kN.get (by k_mem)⟩) (List.forall_mem_singleton.mpr (.inr ⟨Od.1, kN.get (by k_mem)⟩))))) (kN.get (by k_mem)))
end
section
open PySem PySem.Spec PySem.Calls PySem.W PyProof.Rows
theorem ne_ident {prog : Program} {w : World} {A : Around} {E : Value → Shared → Prop} {s : Shared} {r1 r2 : Addr} {vs : List Value} {Q : Value → Shared → Prop} (h1 : s.heap.IsTuple r1 vs.toArray) (h2 : s.heap.IsTuple r2 vs.toArray)
    (hu : A.units ≤ 400) (h : Q (.bool false) s) : wpAny (model prog w) A (compareOp .NotEq (.ref r1) (.ref r2)) Q E s := by
  have := SeqAt.RcNeAt.tuples (A := A) (e := fun _ => true) h1 h2 (Nat.lt_of_le_of_lt hu (by decide)) (fun j j1 j2 => SeqAt.EqAt.same _)
  refine this prog w E Q ?_
  have e2 : ((List.range (min vs.toArray.size vs.toArray.size)).all (fun _ => true)) = true := List.all_eq_true.mpr fun _ _ => rfl
  rw [e2, beq_self_eq_true]
  exact h
theorem sepN {g h : Heap} {L : Addr} {news : List (Addr × Obj)} {a : Addr} {o : Obj} (N : News g L h news) (hm : (a, o) ∈ news) : g.get? a = none ∧ a ≠ L := ⟨(N _ hm).2.2, (N _ hm).2.1⟩
theorem s1 {g : Heap} {L a : Addr} (h : g.get? a = none ∧ a ≠ L) : ∀ b ∈ [a], g.get? b = none ∧ b ≠ L := fun b hb => by rw [List.mem_singleton.mp hb]; exact h
theorem s2 {g : Heap} {L a a' : Addr} (h : g.get? a = none ∧ a ≠ L) (h' : g.get? a' = none ∧ a' ≠ L) : ∀ b ∈ [a, a'], g.get? b = none ∧ b ≠ L := fun b hb => by
  rcases List.mem_cons.mp hb with rfl | hb
  · exact h
  · rw [List.mem_singleton.mp hb]; exact h'
theorem r4 {a b c d : Int} (h : ∀ q ∈ [a, b, c, d], -32768 ≤ q ∧ q < 32768) : (-32768 ≤ a ∧ a < 32768) ∧ (-32768 ≤ b ∧ b < 32768) ∧ (-32768 ≤ c ∧ c < 32768) ∧ (-32768 ≤ d ∧ d < 32768) := ⟨h _ (.head _), h _ (.tail _ (.head _)), h _ (.tail _ (.tail _ (.head _))), h _ (.tail _ (.tail _ (.tail _ (.head _))))⟩
theorem fr_name {g h : Heap} {L : Addr} {m : Str → Option Value} {x : Str} {v : Value} (F : Fr g L h m) (e : m x = some v) : Fr g L h (fun y => if y = x then some v else m y) := by
  have : (fun y => if y = x then some v else m y) = m := by
    funext y
    by_cases q : y = x
    · rw [if_pos q, q, e]
    · rw [if_neg q]
  rw [this]; exact F
theorem unrEnd_pick {h₀ : Heap} {L I src : Addr} {it S T1 T2 : Obj} {rest : (Str → Option Value) → List (Addr × Obj) → Prop} {s₁ : Shared} {h' : Heap} {tk : Nat} {m' : Str → Option Value} {all cods : List (Addr × Obj)} {a b c d : Nat} {q1 q2 : Str} {ps : Array Value} (F : Fr h₀ L h' m') (N : News h₀ L h' all) (hI : (I, it) ∈ all) (hs : (src, S) ∈ all) (h1 : (349, T1) ∈ all) (h2 : (330, T2) ∈ all)
    (_ : TabSt cods a b c d q1 q2 ps) (hc : ∀ q ∈ cods, q ∈ all) (n1 : src ≠ I) (n2 : (349 : Addr) ≠ I) (n3 : (330 : Addr) ≠ I) (n4 : ∀ p ∈ cods, p.1 ≠ I) (r : rest m' ((src, S) :: (349, T1) :: (330, T2) :: cods)) : UnrEnd h₀ L s₁ I it rest { s₁ with heap := h', toks := tk } :=
  UnrEnd.intro F N _ (fun p hp => by
    rcases List.mem_cons.mp hp with rfl | hp
    · exact hI
    rcases List.mem_cons.mp hp with rfl | hp
    · exact hs
    rcases List.mem_cons.mp hp with rfl | hp
    · exact h1
    rcases List.mem_cons.mp hp with rfl | hp
    · exact h2
    · exact hc p hp) ((acons (n1) ((acons (n2) ((acons (n3) (n4))))))) r
theorem unrEnd_pickL {h₀ : Heap} {L I src ax r1 r2 r3 : Addr} {it S T1 T2 R1 R2 R3 : Obj} {nl : Nat} {rest : (Str → Option Value) → List (Addr × Obj) → Prop} {s₁ : Shared} {h' : Heap} {tk : Nat} {m' : Str → Option Value} {all cods : List (Addr × Obj)} {a b c d : Nat} {q1 q2 : Str} {ps : Array Value} (F : Fr h₀ L h' m') (N : News h₀ L h' all) (hI : (I, it) ∈ all)
    (hl : (ax, listOf #[.ref r1, .ref r2, .ref r3] nl) ∈ all) (g1 : (r1, R1) ∈ all) (g2 : (r2, R2) ∈ all) (g3 : (r3, R3) ∈ all) (hs : (src, S) ∈ all) (h1 : (349, T1) ∈ all) (h2 : (330, T2) ∈ all)
    (_ : TabSt cods a b c d q1 q2 ps) (hc : ∀ q ∈ cods, q ∈ all) (m0 : ax ≠ I) (m1 : r1 ≠ I) (m2 : r2 ≠ I) (m3 : r3 ≠ I) (n1 : src ≠ I) (n2 : (349 : Addr) ≠ I) (n3 : (330 : Addr) ≠ I) (n4 : ∀ p ∈ cods, p.1 ≠ I) (r : rest m' ((ax, listOf #[.ref r1, .ref r2, .ref r3] nl) :: (r1, R1) :: (r2, R2) :: (r3, R3) :: (src, S) :: (349, T1) :: (330, T2) :: cods)) : UnrEnd h₀ L s₁ I it rest { s₁ with heap := h', toks := tk } :=
  UnrEnd.intro F N _ (fun p hp => by
    rcases List.mem_cons.mp hp with rfl | hp
    · exact hI
    rcases List.mem_cons.mp hp with rfl | hp
    · exact hl
    rcases List.mem_cons.mp hp with rfl | hp
    · exact g1
    rcases List.mem_cons.mp hp with rfl | hp
    · exact g2
    rcases List.mem_cons.mp hp with rfl | hp
    · exact g3
    rcases List.mem_cons.mp hp with rfl | hp
    · exact hs
    rcases List.mem_cons.mp hp with rfl | hp
    · exact h1
    rcases List.mem_cons.mp hp with rfl | hp
    · exact h2
    · exact hc p hp) ((acons (m0) ((acons (m1) ((acons (m2) ((acons (m3) ((acons (n1) ((acons (n2) ((acons (n3) (n4))))))))))))))) r
theorem law_c : ∀ (w : World) (p : Program) (loose : List Str) (mean : ExcName → Option Value) (mg mb : Str → Option Value) (H₀ Hc : Heap) (dp un : Nat) (gd : Option (List Code)) (s : Shared) (Q : Flow → Shared → Prop) (E : Value → Shared → Prop) (g : Heap) (L' fa : Addr) (cd : Value) (m : Str → Option Value) (src : Addr) (sx sy : Int) (u1 u2 : Tok) (sn : Nat) (ps : Array Value) (cods : List (Addr × Obj)),
  (Cx (Mine.hd.heap_1 w.params) p loose mean mg mb H₀ [] Hc) →
  (Fr g L' s.heap m) →
  (News g L' s.heap ((src, listOf #[.int sx u1, .int sy u2] sn) :: (349, tabObj #[]) :: (330, tabObj ps) :: cods)) →
  (Below (AA dp un gd []) H₀ [] g) →
  ((Mine.hd.heap_1 w.params).In g) →
  (Top p loose mean mg mb g) →
  (m (Str.ofString "source") = some (.ref src)) →
  (CodeHd H₀ 332 330) →
  (CodeHd H₀ 351 349) →
  (NeA src 349 ∧ NeA src 330) →
  (TabSt cods 218 73 220 24 (Str.ofString "_law_words_right" ++ ".<locals>." ++ "<lambda>") (Str.ofString "_law_words_right" ++ ".<locals>." ++ "<lambda>") ps) →
  (∀ p ∈ cods, p.1 ≠ 330) →
  (∀ p ∈ cods, p.1 ≠ src) →
  (∀ p ∈ cods, p.1 ≠ 349) →
  (0 ≤ sx) →
  (0 ≤ sy) →
  (sy < 2147483647) →
  (dp + 60 ≤ 400) →
  (un + 300 ≤ 400) →
  (∀ h' tk' m' news' ps1 ps2, Fr g L' h' m' → News g L' h' news' → (349, tabObj ps1) ∈ news' → (330, tabObj ps2) ∈ news' → Q (.ret (.bool true)) {s with heap := h', toks := tk'}) →
  wpAny (model PySem.Challenge.rw_on0238_01.row.prog w) ((AA dp un gd []).deeper (envOf (Str.ofString "law") (scopeOf w 359) L' fa cd)) (execs ((bodyOf w 359).drop 2) (envOf (Str.ofString "law") (scopeOf w 359) L' fa cd)) Q (fun _ _ => False) s := by
  k_fill
  w_top off
  intro w p loose mean mg mb H₀ Hc dp un gd s Q E g L' fa cd m src sx sy u1 u2 sn ps cods C F' N' B' X' T' hm hcw hcp hls hT hcn hcs hc9 hx hy hy2 hd hu hret
  have eb : (bodyOf w 359).drop 2 = [_, _, _, _, _] := rfl
  have es : scopeOf w 359 = { kind := _, names := _, isGenerator := _, isCoroutine := _, more := _ } := rfl
  rw [eb, es]
  clear eb es
  (try k_fold)
  (try (refine foldL ?_; intro eV aV))
  replace F' := fr_name F' hm
  have hT0 : TabSt [] 247 24 249 24 (Str.ofString "_law_placed_right" ++ ".<locals>." ++ "<lambda>") (Str.ofString "_law_placed_right" ++ ".<locals>." ++ "<lambda>") #[] := .inl rfl
  obtain ⟨nl1, nl2⟩ := hls
  (repeat' (first | (k_unfold; (try dsimp only)) | (k_end; wrow_close) | ((with_reducible show wpAny _ _ (execs (_ :: _) _) _ _ _); first | (with_reducible ((with_reducible show wpAny _ _ (execs (Stmt.Assign [Expr.Name (Str.ofString "found") _] _ _ :: _) _) _ _ _); refine CutR.out ?_)) | (((with_reducible show wpAny _ _ (execs (Stmt.Assign [Expr.Name (Str.ofString "found") _] _ _ :: _) _) _ _ _); refine CutR.out ?_))) | ((with_reducible show UnrEnd _ _ _ _ _ _ _); first | (with_reducible (refine' unrEnd_pickL (a := 247) (S := listOf #[.int _ _, .int _ _] _) (by k_asm) (by k_asm) ?hI ?hl ?g1 ?g2 ?g3 ?hs ?h1 ?h2 ?hT ?hc ?m0 ?m1 ?m2 ?m3 ?n1 ?n2 ?n3 ?n4 (And.intro ?hm ?_); (case hI => k_mem); (case hl => k_mem); (case g1 => k_mem); (case g2 => k_mem); (case g3 => k_mem); (case hs => k_mem); (case h1 => k_mem); (case h2 => k_mem); (case hT => with_reducible assumption); (case hc => intro q9q hm9q; exact (by repeat (first | exact hm9q | exact List.mem_append_left _ hm9q | exact List.mem_append_right _ hm9q | refine List.Mem.tail _ ?_ | refine List.mem_append_right _ ?_))); (case hm => k_mem); (case m0 => k_ne); (case m1 => k_ne); (case m2 => k_ne); (case m3 => k_ne); (case n1 => k_ne); (case n2 => k_ne); (case n3 => k_ne); (case n4 => k_all))) | ((refine' unrEnd_pickL (a := 247) (S := listOf #[.int _ _, .int _ _] _) (by k_asm) (by k_asm) ?hI ?hl ?g1 ?g2 ?g3 ?hs ?h1 ?h2 ?hT ?hc ?m0 ?m1 ?m2 ?m3 ?n1 ?n2 ?n3 ?n4 (And.intro ?hm ?_); (case hI => k_mem); (case hl => k_mem); (case g1 => k_mem); (case g2 => k_mem); (case g3 => k_mem); (case hs => k_mem); (case h1 => k_mem); (case h2 => k_mem); (case hT => with_reducible assumption); (case hc => intro q9q hm9q; exact (by repeat (first | exact hm9q | exact List.mem_append_left _ hm9q | exact List.mem_append_right _ hm9q | refine List.Mem.tail _ ?_ | refine List.mem_append_right _ ?_))); (case hm => k_mem); (case m0 => k_ne); (case m1 => k_ne); (case m2 => k_ne); (case m3 => k_ne); (case n1 => k_ne); (case n2 => k_ne); (case n3 => k_ne); (case n4 => k_all)))) | ((with_reducible show wpAny _ _ (pyIter (Value.ref _)) _ _ _); first | (with_reducible ((with_reducible show wpAny _ _ (pyIter (Value.ref _)) (fun it s₂ => LoopAtV _ _ _ _ _ _ _ _ _ it s₂) _ _); ((rename Fr _ _ _ _ => lF'); (rename News _ _ _ _ => kN); (with_unfolding_all refine iter_listUnr (lo := listOf #[_, _, _] _) (vs := [_, _, _]) (by rfl) lF' kN (by k_mem) (by rfl) (by rfl) ?_); clear lF'; intro i'q l1q; (try k_lt l1q)))) | (((with_reducible show wpAny _ _ (pyIter (Value.ref _)) (fun it s₂ => LoopAtV _ _ _ _ _ _ _ _ _ it s₂) _ _); ((rename Fr _ _ _ _ => lF'); (rename News _ _ _ _ => kN); (with_unfolding_all refine iter_listUnr (lo := listOf #[_, _, _] _) (vs := [_, _, _]) (by rfl) lF' kN (by k_mem) (by rfl) (by rfl) ?_); clear lF'; intro i'q l1q; (try k_lt l1q))))) | ((with_reducible show wpAny _ _ (call (Value.ref _) _) _ _ _); first | (with_reducible (k_here; (with_reducible show wpAny _ _ (call (Value.ref 352) [Value.ref _, Value.ref _]) _ _ _); k_dflt ( refine' pr_ok _ _ _ _ _ _ _ _ _ _ _ _ _ _ _ _ _ _ _ _ _ _ _ _ _ _ _ _ _ _ _ ?C ?O ?Os ?Ot ?Oc ?hcd ?hT ?n3 ?n4 ?n6 ?n5 ?n7 ?n8 ?hx ?hy ?hy2 ?ha ?hb ?hc ?hdd ?hd ?hu ?_; (case C => exact Cx.next (by assumption) (by assumption) (by assumption) rfl rfl); (case O => exact own_of (by assumption) (by assumption) (by k_mem) rfl); (case Os => exact own_of (by assumption) (by assumption) (by k_mem) rfl); (case Ot => exact own_of (by assumption) (by assumption) (by k_mem) rfl); (case hT => with_reducible assumption); (case Oc => (with_reducible rename News _ _ _ _ => kN); intro q9q hm9q; exact own_of (o := q9q.2) (by assumption) kN (by repeat (first | exact hm9q | exact List.mem_append_left _ hm9q | exact List.mem_append_right _ hm9q | refine List.Mem.tail _ ?_ | refine List.mem_append_right _ ?_)) rfl); (case hcd => assumption); (case n3 => k_ne); (case n4 => k_ne); (case n6 => k_ne); (case n5 => k_all); (case n7 => k_all); (case n8 => k_all); (case hx => assumption); (case hy => assumption); (case hy2 => assumption); (case ha => first | decide | assumption); (case hb => first | decide | assumption); (case hc => first | decide | assumption); (case hdd => first | decide | assumption); (case hd => ktr_room); (case hu => ktr_units); k_whole; intro ps9q cods9q sx9q sy9q u19q u29q h'q tk'q hKq hs8q hs9q hC9q hT9q hsb9q hn9q hx'q hy'q hy2'q; (with_reducible rename Fr _ _ _ _ => kF); (with_reducible rename News _ _ _ _ => kN); (have F'q := fr_law kF rfl hKq (s2 (sepN kN (by k_mem)) (sepN kN (by k_mem)))); (have N1q := upd2_law kN rfl hKq (by k_upd) (by k_upd) hs8q hs9q); (obtain ⟨rest9, N', hoff9, hTn⟩ := tail_law kF kN N1q hC9q hn9q hT9q); ((try dsimp only [List.cons_append, List.nil_append] at N'); (try simp only [List.append_assoc, List.cons_append] at N')); ((try dsimp only [List.cons_append, List.nil_append] at hTn); (try simp only [List.append_assoc, List.cons_append] at hTn)); clear N1q hKq hs8q hs9q hC9q hT9q hsb9q hn9q; (try k_sweep)))) | (with_reducible (k_here; (with_reducible show wpAny _ _ (call (Value.ref 333) [Value.ref _]) _ _ _); k_dflt ( refine' words_ok _ _ _ _ _ _ _ _ _ _ _ _ _ _ _ _ _ _ _ _ _ _ _ _ _ _ _ _ _ _ _ _ _ _ _ _ _ _ _ _ _ _ _ _ ?C ?Ox ?Od ?hne ?Os ?Ot ?Oc ?hcd ?hT ?n0 ?n00 ?n1 ?n2 ?n3 ?n4 ?hr ?hs ?hd ?hu ?_; (case C => exact Cx.next (by assumption) (by assumption) (by assumption) rfl rfl); (case Ox => exact own_of (by assumption) (by assumption) (by k_mem) rfl); (case Od => exact own_of (by assumption) (by assumption) (by k_mem) rfl); (case hne => k_ne); (case Os => exact own_of (by assumption) (by assumption) (by k_mem) rfl); (case Ot => exact own_of (by assumption) (by assumption) (by k_mem) rfl); (case hT => with_reducible assumption); (case Oc => (with_reducible rename News _ _ _ _ => kN); intro q9q hm9q; exact own_of (o := q9q.2) (by assumption) kN (by repeat (first | exact hm9q | exact List.mem_append_left _ hm9q | exact List.mem_append_right _ hm9q | refine List.Mem.tail _ ?_ | refine List.mem_append_right _ ?_)) rfl); (case hcd => assumption); (case n0 => k_ne); (case n00 => k_ne); (case n1 => k_ne); (case n2 => k_ne); (case n3 => k_ne); (case n4 => k_all); (case hr => first | assumption | exact ⟨⟨by decide, by decide⟩, by decide, by decide⟩); (case hs => first | assumption | decide); (case hd => ktr_room); (case hu => ktr_units); k_whole; intro ps9q cods9q h'q tk'q hKq hs9q hC9q hT9q hsb9q hn9q; (with_reducible rename Fr _ _ _ _ => kF); (with_reducible rename News _ _ _ _ => kN); (have F'q := fr_law kF rfl hKq (s1 (sepN kN (by k_mem)))); (have N1q := upd_law kN rfl hKq (by k_upd) hs9q); (obtain ⟨rest9, N', hoff9, hTn⟩ := tail_law kF kN N1q hC9q hn9q hT9q); ((try dsimp only [List.cons_append, List.nil_append] at N'); (try simp only [List.append_assoc, List.cons_append] at N')); ((try dsimp only [List.cons_append, List.nil_append] at hTn); (try simp only [List.append_assoc, List.cons_append] at hTn)); clear N1q hKq hs9q hC9q hT9q hsb9q hn9q; (try k_sweep)))) | (with_reducible (k_here; (with_reducible show wpAny _ _ (call (Value.ref 295) _) _ _ _); k_dflt ( refine' scale_ok _ _ _ _ _ _ _ _ _ _ _ _ _ _ _ _ _ _ _ _ ?C ?O ?hx ?hy ?hy2 ?hd ?hu ?_; (case C => exact Cx.next (by assumption) (by assumption) (by assumption) rfl rfl); (case O => exact own_of (by assumption) (by assumption) (by k_mem) rfl); (case hx => assumption); (case hy => assumption); (case hy2 => assumption); (case hd => ktr_room); (case hu => ktr_units); k_whole; intro rq aq bq cq dq taq tbq tcq tdq x'q y'q t1q t2q h'q tk'q hrgq hrnq hx'q hy'q hy2'q hKq hsq hrq; (with_reducible rename Fr _ _ _ _ => kF); (with_reducible rename News _ _ _ _ => kN); have F'q := fr_kp1 kF kN (by k_mem) hKq; have N'q := news_upd kN hKq (by k_upd) hsq; have N''q := news_new kF N'q hrnq hrq; have hneq := neAll rq kN hrnq; (obtain ⟨hr1, hr2, hr3, hr4⟩ := r4 hrgq); clear N'q hrnq hrq hKq hsq; (try k_sweep)))) | (with_reducible (k_here; (with_reducible show wpAny _ _ (call (Value.ref 221) [Value.int _ _, Value.int _ _, Value.int _ _, Value.bool _, Value.ref _]) _ _ _); k_dflt (refine' mkPart _ _ _ _ _ _ _ _ _ _ _ _ _ _ _ _ _ _ _ _ _ _ ?C ?a ?b ?_; (case C => exact Cx.next (by assumption) (by assumption) (by assumption) rfl rfl); (case a => ktr_room); (case b => ktr_units); k_whole; unfold RetPart; intro xq dxq e1q e2q e3q e4q e5q k1q k2q k3q k4q k5q tgq tfq tsq h'q tk'q hKq hxq hdxq hxdq h1q h2q; (with_reducible rename Fr _ _ _ _ => kF); (with_reducible rename News _ _ _ _ => kN); have F'q := fr_kp0 kF hKq; have N'q := news_kp0 kN hKq; have N2q := news_new kF N'q hdxq h2q; have N3q := news_new kF N2q hxq h1q; have hne1q := neAll xq kN hxq; have hne2q := neAll dxq kN hdxq; replace hxdq : NeA _ _ := hxdq; clear N'q N2q hKq hxq hdxq h1q h2q; (try k_sweep))))) | walk1 | (dsimp only; (with_reducible show wpAny _ _ _ _ _ _)) | (leave1; walk_say "STEP leave1"; try dsimp only) | fail "no step"))
  (with_reducible rename Fr _ _ _ _ => kF); (with_reducible rename News _ _ _ _ => kN)
  refine ⟨?_⟩
  refine' law_d w p loose mean mg mb H₀ Hc dp un gd _ _ _ g L' fa cd _ _ _ C kF ?N B' X' T' hd hu ?_
  case N => exact (acons (kN _ (by k_mem)) ((acons (kN _ (by k_mem)) (fun q h => nomatch h))))
  exact fun h9 tk9 m9 n9 x1 x2 x3 x4 => hret h9 tk9 m9 n9 _ _ x1 x2 x3 x4
end
section
open PySem PySem.Spec PySem.Calls PySem.W PyProof.Rows
theorem law_b : ∀ (w : World) (p : Program) (loose : List Str) (mean : ExcName → Option Value) (mg mb : Str → Option Value) (H₀ Hc : Heap) (dp un : Nat) (gd : Option (List Code)) (s : Shared) (Q : Flow → Shared → Prop) (E : Value → Shared → Prop) (g : Heap) (L' fa : Addr) (cd : Value) (m : Str → Option Value) (src : Addr) (sx sy : Int) (u1 u2 : Tok) (sn : Nat),
  (Cx (Mine.hd.heap_1 w.params) p loose mean mg mb H₀ [] Hc) →
  (Fr g L' s.heap m) →
  (News g L' s.heap [(src, listOf #[.int sx u1, .int sy u2] sn), (349, tabObj #[]), (330, tabObj #[])]) →
  (Below (AA dp un gd []) H₀ [] g) →
  ((Mine.hd.heap_1 w.params).In g) →
  (Top p loose mean mg mb g) →
  (m (Str.ofString "source") = some (.ref src)) →
  (CodeHd H₀ 332 330) →
  (CodeHd H₀ 351 349) →
  (NeA src 349 ∧ NeA src 330) →
  (0 ≤ sx) →
  (0 ≤ sy) →
  (sy < 2147483647) →
  (dp + 60 ≤ 400) →
  (un + 300 ≤ 400) →
  (∀ h' tk' m' news' ps1 ps2, Fr g L' h' m' → News g L' h' news' → (349, tabObj ps1) ∈ news' → (330, tabObj ps2) ∈ news' → Q (.ret (.bool true)) {s with heap := h', toks := tk'}) →
  wpAny (model PySem.Challenge.rw_on0238_01.row.prog w) ((AA dp un gd []).deeper (envOf (Str.ofString "law") (scopeOf w 359) L' fa cd)) (execs ((bodyOf w 359).drop 1) (envOf (Str.ofString "law") (scopeOf w 359) L' fa cd)) Q (fun _ _ => False) s := by
  k_fill
  w_top off
  intro w p loose mean mg mb H₀ Hc dp un gd s Q E g L' fa cd m src sx sy u1 u2 sn C F' N' B' X' T' hm hcw hcp hls hx hy hy2 hd hu hret
  have eb : (bodyOf w 359).drop 1 = _ :: _ := rfl
  have es : scopeOf w 359 = { kind := _, names := _, isGenerator := _, isCoroutine := _, more := _ } := rfl
  rw [eb, es]
  clear eb es
  (try k_fold)
  (try (refine foldL ?_; intro eV aV))
  replace F' := fr_name F' hm
  have hT0 : TabSt [] 218 73 220 24 (Str.ofString "_law_words_right" ++ ".<locals>." ++ "<lambda>") (Str.ofString "_law_words_right" ++ ".<locals>." ++ "<lambda>") #[] := .inl rfl
  obtain ⟨nl1, nl2⟩ := hls
  (repeat' (first | (k_unfold; (try dsimp only)) | (k_end; wrow_close) | ((with_reducible show wpAny _ _ (execs (_ :: _) _) _ _ _); first | (with_reducible ((with_reducible show wpAny _ _ (execs (Stmt.Assign [Expr.Name (Str.ofString "turned_one") _] _ _ :: _) _) _ _ _); refine CutR.out ?_)) | (((with_reducible show wpAny _ _ (execs (Stmt.Assign [Expr.Name (Str.ofString "turned_one") _] _ _ :: _) _) _ _ _); refine CutR.out ?_))) | ((with_reducible show UnrEnd _ _ _ _ _ _ _); first | (with_reducible (refine' unrEnd_pick (a := 218) (S := listOf #[.int _ _, .int _ _] _) (by k_asm) (by k_asm) ?hI ?hs ?h1 ?h2 ?hT ?hc ?n1 ?n2 ?n3 ?n4 ?_; (case hI => k_mem); (case hs => k_mem); (case h1 => k_mem); (case h2 => k_mem); (case hT => with_reducible assumption); (case hc => intro q9q hm9q; exact (by repeat (first | exact hm9q | exact List.mem_append_left _ hm9q | exact List.mem_append_right _ hm9q | refine List.Mem.tail _ ?_ | refine List.mem_append_right _ ?_))); (case n1 => k_ne); (case n2 => k_ne); (case n3 => k_ne); (case n4 => k_all))) | ((refine' unrEnd_pick (a := 218) (S := listOf #[.int _ _, .int _ _] _) (by k_asm) (by k_asm) ?hI ?hs ?h1 ?h2 ?hT ?hc ?n1 ?n2 ?n3 ?n4 ?_; (case hI => k_mem); (case hs => k_mem); (case h1 => k_mem); (case h2 => k_mem); (case hT => with_reducible assumption); (case hc => intro q9q hm9q; exact (by repeat (first | exact hm9q | exact List.mem_append_left _ hm9q | exact List.mem_append_right _ hm9q | refine List.Mem.tail _ ?_ | refine List.mem_append_right _ ?_))); (case n1 => k_ne); (case n2 => k_ne); (case n3 => k_ne); (case n4 => k_all)))) | ((with_reducible show wpAny _ _ (compareOp CmpOp.NotEq (Value.ref _) (Value.ref _)) _ _ _); first | (with_reducible (k_here; k_dflt (refine' ne_ident ?h1 ?h2 ?hu ?_; (case h1 => exact ⟨_, News.get (by k_asm) (by k_mem), rfl, _, rfl⟩); (case h2 => exact ⟨_, News.get (by k_asm) (by k_mem), rfl, _, rfl⟩); (case hu => ktr_units); k_whole))) | ((k_here; k_dflt (refine' ne_ident ?h1 ?h2 ?hu ?_; (case h1 => exact ⟨_, News.get (by k_asm) (by k_mem), rfl, _, rfl⟩); (case h2 => exact ⟨_, News.get (by k_asm) (by k_mem), rfl, _, rfl⟩); (case hu => ktr_units); k_whole)))) | ((with_reducible show wpAny _ _ (call (Value.ref _) _) _ _ _); first | (with_reducible (k_here; (with_reducible show wpAny _ _ (call (Value.ref 218) _) _ _ _); k_dflt ( refine' row_ok _ _ _ _ _ _ _ _ _ _ _ _ _ _ _ _ _ _ _ _ _ _ _ _ _ _ _ _ _ _ _ _ _ _ ?C ?Ox ?Od ?hd ?hu ?_; (case C => exact Cx.next (by assumption) (by assumption) (by assumption) rfl rfl); (case Ox => exact own_of (by assumption) (by assumption) (by k_mem) rfl); (case Od => exact own_of (by assumption) (by assumption) (by k_mem) rfl); (case hd => ktr_room); (case hu => ktr_units); k_whole; intro rq h'q tk'q hrnq hKq hrq; (with_reducible rename Fr _ _ _ _ => kF); (with_reducible rename News _ _ _ _ => kN); have F'q := fr_kp0 kF hKq; have N'q := news_kp0 kN hKq; have N''q := news_new kF N'q hrnq hrq; have hneq := neAll rq kN hrnq; clear N'q hrnq hrq hKq; (try k_sweep)))) | (with_reducible (k_here; (with_reducible show wpAny _ _ (call (Value.ref 333) [Value.ref _]) _ _ _); k_dflt ( refine' words_ok _ _ _ _ _ _ _ _ _ _ _ _ _ _ _ _ _ _ _ _ _ _ _ _ _ _ _ _ _ _ _ _ _ _ _ _ _ _ _ _ _ _ _ _ ?C ?Ox ?Od ?hne ?Os ?Ot ?Oc ?hcd ?hT ?n0 ?n00 ?n1 ?n2 ?n3 ?n4 ?hr ?hs ?hd ?hu ?_; (case C => exact Cx.next (by assumption) (by assumption) (by assumption) rfl rfl); (case Ox => exact own_of (by assumption) (by assumption) (by k_mem) rfl); (case Od => exact own_of (by assumption) (by assumption) (by k_mem) rfl); (case hne => k_ne); (case Os => exact own_of (by assumption) (by assumption) (by k_mem) rfl); (case Ot => exact own_of (by assumption) (by assumption) (by k_mem) rfl); (case hT => with_reducible assumption); (case Oc => (with_reducible rename News _ _ _ _ => kN); intro q9q hm9q; exact own_of (o := q9q.2) (by assumption) kN (by repeat (first | exact hm9q | exact List.mem_append_left _ hm9q | exact List.mem_append_right _ hm9q | refine List.Mem.tail _ ?_ | refine List.mem_append_right _ ?_)) rfl); (case hcd => assumption); (case n0 => k_ne); (case n00 => k_ne); (case n1 => k_ne); (case n2 => k_ne); (case n3 => k_ne); (case n4 => k_all); (case hr => first | assumption | exact ⟨⟨by decide, by decide⟩, by decide, by decide⟩); (case hs => first | assumption | decide); (case hd => ktr_room); (case hu => ktr_units); k_whole; intro ps9q cods9q h'q tk'q hKq hs9q hC9q hT9q hsb9q hn9q; (with_reducible rename Fr _ _ _ _ => kF); (with_reducible rename News _ _ _ _ => kN); (have F'q := fr_law kF rfl hKq (s1 (sepN kN (by k_mem)))); (have N1q := upd_law kN rfl hKq (by k_upd) hs9q); (obtain ⟨rest9, N', hoff9, hTn⟩ := tail_law kF kN N1q hC9q hn9q hT9q); ((try dsimp only [List.cons_append, List.nil_append] at N'); (try simp only [List.append_assoc, List.cons_append] at N')); ((try dsimp only [List.cons_append, List.nil_append] at hTn); (try simp only [List.append_assoc, List.cons_append] at hTn)); clear N1q hKq hs9q hC9q hT9q hsb9q hn9q; (try k_sweep)))) | (with_reducible (k_here; (with_reducible show wpAny _ _ (call (Value.ref 302) _) _ _ _); k_dflt ( refine' part_ok2 _ _ _ _ _ _ _ _ _ _ _ _ _ _ _ _ _ _ _ _ ?C ?O ?hx ?hy ?hy2 ?hd ?hu ?_; (case C => exact Cx.next (by assumption) (by assumption) (by assumption) rfl rfl); (case O => exact own_of (by assumption) (by assumption) (by k_mem) rfl); (case hx => assumption); (case hy => assumption); (case hy2 => assumption); (case hd => ktr_room); (case hu => ktr_units); k_whole; intro x0q dxq scq e1q e2q e3q e4q e5q k1q k2q k3q k4q k5q tgq tfq tsq taq tbq tcq tdq glq fq nq mvq aq bq cq dq x'q y'q t1'q t2'q h'q tk'q hrgq hrsq hxnq hdnq hsnq hxdq hxsq hdsq hx'q hy'q hy2'q hKq hsq hXq hDq hSq; (with_reducible rename Fr _ _ _ _ => kF); (with_reducible rename News _ _ _ _ => kN); have F'q := fr_kp1 kF kN (by k_mem) hKq; have N1q := news_upd kN hKq (by k_upd) hsq; have N2q := news_new kF N1q hsnq hSq; have N3q := news_new kF N2q hdnq hDq; have N4q := news_new kF N3q hxnq hXq; have hne1q := neAll x0q kN hxnq; have hne2q := neAll dxq kN hdnq; have hne3q := neAll scq kN hsnq; replace hxdq : NeA _ _ := hxdq; replace hxsq : NeA _ _ := hxsq; replace hdsq : NeA _ _ := hdsq; clear N1q N2q N3q hKq hsq hxnq hdnq hsnq hXq hDq hSq; (try k_sweep))))) | walk1 | (dsimp only; (with_reducible show wpAny _ _ _ _ _ _)) | (leave1; walk_say "STEP leave1"; try dsimp only) | fail "no step"))
  (with_reducible rename Fr _ _ _ _ => kF); (with_reducible rename News _ _ _ _ => kN)
  refine ⟨?_⟩
  refine' law_c w p loose mean mg mb H₀ Hc dp un gd _ _ E g L' fa cd _ src _ _ _ _ sn _ _ C kF kN B' X' T' ?hm hcw hcp ⟨nl1, nl2⟩ ?hT ?hcn ?hcs ?hc9 ?hx ?hy ?hy2 hd hu ?_
  case hm => rfl
  case hT => with_reducible assumption
  case hcn => k_all
  case hcs => k_all
  case hc9 => k_all
  case hx => assumption
  case hy => assumption
  case hy2 => assumption
  exact hret
end
section
open PySem PySem.Spec PySem.Calls PySem.W PyProof.Rows
theorem tabs_only {g h : Heap} {L : Addr} {news : List (Addr × Obj)} {p q : Addr × Obj} (N : News g L h news) (x : p ∈ news) (y : q ∈ news) : News g L h [p, q] := (acons (N _ x) ((acons (N _ y) (fun q h => nomatch h))))
theorem pool_x (c : Int) : 0 ≤ (if -1 - c > c then -1 - c else c) * (if decide (10 ^ Int.toNat 18 ≤ if -1 - c > c then -1 - c else c) = true then 1 else 0) := by
  have h : 0 ≤ (if -1 - c > c then -1 - c else c) := by split <;> omega
  generalize (if -1 - c > c then -1 - c else c) = z at h ⊢
  generalize decide (10 ^ Int.toNat 18 ≤ z) = b
  cases b
  · show 0 ≤ z * 0
    rw [Int.mul_zero]; exact Int.le_refl 0
  · show 0 ≤ z * 1
    rw [Int.mul_one]; exact h
theorem law_holds : PySem.Challenge.rw_on0238_01.Holds := Mine.hd (by
  w_strict
  k_go0
  all_goals try k_fold
  (repeat' (first | (k_unfold; (try dsimp only)) | (k_end; wrow_close) | ((with_reducible show wpAny _ _ (execs (_ :: _) _) _ _ _); first | (with_reducible ((with_reducible show wpAny _ _ (execs (Stmt.For (Expr.Name (Str.ofString "turn") _) _ _ _ _ :: _) _) _ _ _); refine CutR.out ?_)) | (((with_reducible show wpAny _ _ (execs (Stmt.For (Expr.Name (Str.ofString "turn") _) _ _ _ _ :: _) _) _ _ _); refine CutR.out ?_))) | walk1 | (dsimp only; (with_reducible show wpAny _ _ _ _ _ _)) | (leave1; walk_say "STEP leave1"; try dsimp only) | fail "no step"))
  all_goals (
    refine ⟨?_⟩
    (with_reducible rename Fr _ _ _ _ => kF); (with_reducible rename News _ _ _ _ => kN); (with_reducible rename Frag.In _ _ => kX); (with_reducible rename Top _ _ _ _ _ _ => kT)
    refine wpAny_noRaise ?_
    refine' law_b _ _ _ _ _ _ _ _ 301 4 (some []) _ _ (fun _ _ => False) _ _ _ _ _ _ _ _ _ _ _ ⟨kX, kT, fun _ _ e => e, trivial⟩ kF kN ⟨rfl, fun _ _ e => e, trivial⟩ kX kT ?hm ?hcw ?hcp ?hls ?hx ?hy ?hy2 (by decide) (by decide) ?_
    case hm => rfl
    case hcw => assumption
    case hcp => assumption
    case hls => exact ⟨(by k_ne : (_ : Addr) ≠ 349), (by k_ne : (_ : Addr) ≠ 330)⟩
    case hx => exact pool_x _
    case hy => exact (fm31 _).1
    case hy2 => exact (fm31 _).2
    intro h9 tk9 m9 n9 ps1 ps2 F' N9 x1 x2
    have N' := tabs_only N9 x1 x2
    clear kF kN N9 x1 x2
    (try dsimp only)
    (repeat' (first | (k_unfold; (try dsimp only)) | (k_end; wrow_close) | ((with_reducible show wpAny _ _ (execs (_ :: _) _) _ _ _); first | (with_reducible ((with_reducible show wpAny _ _ (execs (Stmt.For (Expr.Name (Str.ofString "turn") _) _ _ _ _ :: _) _) _ _ _); refine CutR.out ?_)) | (((with_reducible show wpAny _ _ (execs (Stmt.For (Expr.Name (Str.ofString "turn") _) _ _ _ _ :: _) _) _ _ _); refine CutR.out ?_))) | walk1 | (dsimp only; (with_reducible show wpAny _ _ _ _ _ _)) | (leave1; walk_say "STEP leave1"; try dsimp only) | fail "no step"))))end
end Mine
theorem PySem.Challenge.cw_on0238_01_holds : PySem.Challenge.rw_on0238_01.Holds :=
  Mine.law_holds
