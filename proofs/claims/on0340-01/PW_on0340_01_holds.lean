import PyProof.Rows.All
import Wide.All
import OpenK.AllK
import Wide.FinOn
import PySem.Challenge.RW_on0340_01
set_option Elab.async false
set_option maxRecDepth 1000000
set_option maxHeartbeats 0
set_option linter.all false

namespace Mine
section
open PySem PySem.W PyProof.Rows
section
local macro_rules | `(tactic| o_head $H:term) => `(tactic| (have hH := $H; clear hH; assumption))
/-- for the sake of the objects that it writes out (hd.heap_1) -/
theorem hd (h : PySem.Challenge.rw_on0340_01.row.Holds) : PySem.Challenge.rw_on0340_01.row.Holds := by k_head
end
/-- what comes after, under a name: said once, not at every depth -/
theorem fold_wp {α : Type} {M : Model} {A : Around} {t : Sem α} {Q : α → Shared → Prop} {E : Value → Shared → Prop} {s : Shared} (h : let q := Q; let e := E; wpAny M A t q e s) : wpAny M A t Q E s := h
theorem fold_q {α : Type} {M : Model} {A : Around} {t : Sem α} {Q : α → Shared → Prop} {E : Value → Shared → Prop} {s : Shared} (h : let q := Q; wpAny M A t q E s) : wpAny M A t Q E s := h
/-- the goal under a name -/
theorem foldP {P : Prop} (h : let P' := P; P') : P := h
end

theorem calmHd : True := by
  w_top off
  trivial

section
open PySem PySem.W PyProof.Rows
/-- a lies below b; a word that omega does not read -/
def Und (a b : Nat) : Prop := a < b
theorem Und.ne {a b : Nat} (h : Und a b) : a ≠ b := Nat.ne_of_lt h
theorem Und.ne2 {a b : Nat} (h : Und b a) : a ≠ b := Nat.ne_of_gt h
theorem Und.up {a b : Nat} (h : Und a b) : Und a (b + 1) := Nat.lt_succ_of_lt h
theorem Und.lt {a b : Nat} (h : Und a b) : a < b := h
theorem Und.of {a b : Nat} (h : a < b) : Und a b := h
theorem Und.self {a : Nat} : Und a (a + 1) := Nat.lt_succ_self a
theorem Und.trans {a b c : Nat} (h : Und a b) (h2 : Und b c) : Und a c := Nat.lt_trans h h2
def Each (D : Nat) (P : Prop) : List (Addr × Obj) → Prop
  | [] => P
  | (a, _) :: r => Und a D → Each D P r
theorem each_of {D : Nat} {P : Prop} : ∀ {l : List (Addr × Obj)}, (∀ p ∈ l, @LT.lt Nat _ p.1 D) → Each D P l → P
  | [], _, h => h
  | (a, o) :: r, l, h => each_of (l := r) (fun q hq => l q (List.mem_cons_of_mem _ hq)) (h (l (a, o) List.mem_cons_self))
theorem each_skip {D : Nat} {P : Prop} {a : Addr} {o : Obj} {r : List (Addr × Obj)} (h : Each D P r) : Each D P ((a, o) :: r) := fun _ => h
theorem each_nil {D : Nat} {P : Prop} (h : P) : Each D P [] := h
theorem allLt_all {D : Nat} : ∀ {l : List (Addr × Obj)}, AllLt D l → ∀ p ∈ l, @LT.lt Nat _ p.1 D
  | [], _, _, h => (nomatch h)
  | _ :: _, x, q, h => by
    rcases List.mem_cons.mp h with rfl | h
    · exact x.1
    · exact allLt_all x.2 q h
/-- d lies right below x -/
def Nxt (a b : Nat) : Prop := a < b
theorem Nxt.of {a b : Nat} (h : a < b) : Nxt a b := h
theorem Nxt.und {a b : Nat} (h : Nxt a b) : Und a b := h
theorem Nxt.und2 {a b c : Nat} (h : Nxt b c) (h2 : Und a b) : Und a c := Nat.lt_trans h2 h
theorem Und.le {a b : Nat} (h : Und a b) : a ≤ b := Nat.le_of_lt h
theorem Und.le2 {a b : Nat} (h : Und (a + 1) b) : a ≤ b := Nat.le_of_lt (Nat.lt_of_succ_lt h)
/-- a is not b; a word that omega does not read -/
def Dif (a b : Nat) : Prop := a ≠ b
theorem Dif.ne {a b : Nat} (h : Dif a b) : a ≠ b := h
theorem Dif.ne2 {a b : Nat} (h : Dif b a) : a ≠ b := fun e => h e.symm
def EachN (D : Nat) (P : Prop) : List (Addr × Obj) → Prop
  | [] => P
  | (a, _) :: r => Dif a D → EachN D P r
theorem eachN_of {D : Nat} {P : Prop} : ∀ {l : List (Addr × Obj)}, LCg.Off1 D l → EachN D P l → P
  | [], _, h => h
  | (a, o) :: r, l, h => eachN_of (l := r) l.2 (h l.1)
theorem eachN_nil {D : Nat} {P : Prop} (h : P) : EachN D P [] := h
theorem off1_all {D : Nat} : ∀ {l : List (Addr × Obj)}, LCg.Off1 D l → ∀ q ∈ l, @Ne Nat q.1 D
  | [], _, _, h => absurd h List.not_mem_nil
  | _ :: _, h, q, hq => by
    rcases List.mem_cons.mp hq with rfl | hq
    · exact h.1
    · exact off1_all h.2 q hq
theorem eachN_tail {D : Nat} {P : Prop} {r : List (Addr × Obj)} (l : ∀ q ∈ r, @Ne Nat q.1 D) (h : (∀ q ∈ r, @Ne Nat q.1 D) → P) : EachN D P r := by
  have p : P := h l
  clear h
  induction r with
  | nil => exact p
  | cons q r ih => exact fun _ => ih fun q hq => l q (List.mem_cons_of_mem _ hq)
theorem all_up {d x : Nat} {l : List (Addr × Obj)} (h : ∀ p ∈ l, @LT.lt Nat _ p.1 d) (h2 : d < x) : ∀ p ∈ l, @LT.lt Nat _ p.1 x := fun p hp => Nat.lt_trans (h p hp) h2
def maskOf {α : Type} : List Bool → List α → List α
  | [], l => l
  | true :: m, a :: l => a :: maskOf m l
  | false :: m, _ :: l => maskOf m l
  | _ :: _, [] => []
theorem maskOf_mem {α : Type} {q : α} : ∀ {m : List Bool} {l : List α}, q ∈ maskOf m l → q ∈ l
  | [], _, h => h
  | true :: m, a :: l, h => by
    rcases List.mem_cons.mp h with rfl | h
    · exact List.mem_cons_self
    · exact List.mem_cons_of_mem _ (maskOf_mem h)
  | false :: m, _ :: l, h => List.mem_cons_of_mem _ (maskOf_mem (m := m) h)
  | true :: _, [], h => absurd h List.not_mem_nil
  | false :: _, [], h => absurd h List.not_mem_nil
theorem news_mask {g h : Heap} {L : Addr} {l : List (Addr × Obj)} (m : List Bool) (N : News g L h l) : News g L h (maskOf m l) := fun q hq => N q (maskOf_mem hq)
theorem each_tail {D : Nat} {P : Prop} {r : List (Addr × Obj)} (l : ∀ p ∈ r, @LT.lt Nat _ p.1 D) (h : AllLt D r → P) : Each D P r := by
  have p : P := h (allLt_of l)
  clear h
  induction r with
  | nil => exact p
  | cons q r ih => exact fun _ => ih fun q hq => l q (List.mem_cons_of_mem _ hq)
theorem each_drop {D D' : Nat} {P : Prop} {r : List (Addr × Obj)} (_ : AllLt D' r) (l : ∀ p ∈ r, @LT.lt Nat _ p.1 D) (h : P) : Each D P r := each_tail l fun _ => h
end

open PySem PySem.W PyProof.Rows PySem.Spec PySem.Calls
local macro_rules | `(tactic| walk_at $s:str) => `(tactic| k_extra $s)
local macro_rules | `(tactic| k_all) => `(tactic| walk_at "my k_all")
local macro_rules | `(tactic| k_room) => `(tactic| walk_at "my k_room")
local macro_rules | `(tactic| k_ne) => `(tactic| walk_at "my ne")
local macro_rules | `(tactic| k_lt2 $h:ident) => `(tactic| ((walk_at "my on"); replace $h := Nxt.of $h))
local macro_rules | `(tactic| k_lt $h:ident) => `(tactic| ((walk_at "my on"); ((try with_reducible replace $h := allLt_all $h); (refine each_of $h ?_); (walk_at "my each"); (try (with_reducible show Each _ _ _); first | refine each_drop (by with_reducible assumption) (fun _ hq' => $h _ (by repeat (first | with_reducible exact hq' | with_reducible apply List.mem_cons_of_mem))) ?_ | (refine each_tail (fun _ hq' => $h _ (by repeat (first | with_reducible exact hq' | with_reducible apply List.mem_cons_of_mem))) ?_; k_dflt (intro _))); clear $h)))
local macro_rules | `(tactic| k_fold) => `(tactic| walk_at "my fold")

section
open PySem PySem.W PyProof.Rows PySem.W.X
theorem widen {α : Type} {M : Model} {A A' : Around} {t : Sem α} {Q : α → Shared → Prop} {E : Value → Shared → Prop} {s : Shared}
    (hh : A.handled = A'.handled) (hd : A.depth ≤ A'.depth) (hf : A'.frames = none) (hg : A'.guards = none) (hu : A.units ≤ A'.units)
    (h : wpAny M A' t Q E s) : wpAny M A t Q E s := by
  intro Γ p hΓ
  refine h Γ p ⟨hΓ.1.trans hh, Nat.le_trans hΓ.2.1 hd, ?_, ?_, Nat.le_trans hΓ.2.2.2.2 hu⟩
  · intro l q; rw [hf] at q; cases q
  · intro g q; rw [hg] at q; cases q
structure MadeO (h h' : Heap) (e : Addr) (cls : Value) (args : List Value) : Prop where
  keeps : ∀ b o, h.get? b = some o → h'.get? b = some o
  new : h.get? e = none
  there : ∃ oe t, h'.get? e = some oe ∧ oe.cls = cls ∧ oe.data = .fields #[.ref t, .none, .none, .none, .bool false, .none] ∧ h.get? t = none ∧
    h'.get? t = some { cls := .type "tuple", data := .seq args.toArray }
abbrev wideA : Around := { handled := none, depth := 900, frames := none, guards := none, units := 9000 }
theorem madeO_of {h h' : Heap} {a1 a2 e t : Addr} {C : Value} {args : List Value} {oe o1 o2 : Obj} {news : List (Addr × Obj)}
    (D : Mem h h' [] ((a1, o1) :: (a2, o2) :: (e, oe) :: (t, { cls := .type "tuple", data := .seq ⟨args⟩ }) :: news)) (hc : oe.cls = C)
    (hd : oe.data = .fields #[.ref t, .none, .none, .none, .bool false, .none]) : MadeO h h' e C args := by
  have he := D.nw (e, oe) (by simp)
  have ht := D.nw (t, { cls := .type "tuple", data := .seq ⟨args⟩ }) (by simp)
  exact ⟨fun b o q => D.keep b o q (by rw [show away [] b = true from rfl, Bool.or_true]), he.2, oe, t, he.1, hc, hd, ht.2, ht.1⟩
def RetO (s : Shared) (C : Addr) (args : List Value) (Q : Value → Shared → Prop) : Prop :=
  ∀ h' e tk, MadeO s.heap h' e (.ref C) args → Q (.ref e) { s with heap := h', toks := tk }
local macro_rules | `(tactic| x_close) => `(tactic| first | ((rename RetO _ _ _ _ => hr); exact hr _ _ _ (madeO_of (by assumption) rfl rfl)) | (trace_state; fail "no"))
theorem exc51w : PySem.Challenge.rw_on0340_01 = PySem.Challenge.rw_on0340_01 → ∀ (prog : Program) (w : World) (s : Shared) (msg : Str) (t : Tok) (Q E : Value → Shared → Prop), (hd.heap_1 w.params).In s.heap → RetO s 51 [.str msg t] Q →
    wpAny (model prog w) wideA (call (.ref 51) [.str msg t]) Q E s := by
  k_fill
  intro _ prog w s msg t Q E X hret
  x_run
theorem exc63w : PySem.Challenge.rw_on0340_01 = PySem.Challenge.rw_on0340_01 → ∀ (prog : Program) (w : World) (s : Shared) (msg : Str) (t : Tok) (Q E : Value → Shared → Prop), (hd.heap_1 w.params).In s.heap → RetO s 63 [.str msg t] Q →
    wpAny (model prog w) wideA (call (.ref 63) [.str msg t]) Q E s := by
  k_fill
  intro _ prog w s msg t Q E X hret
  x_run
end

theorem calmE2 : True := by
  w_top off
  trivial

section
open PySem PySem.W PyProof.Rows PySem.Spec PySem.Calls
theorem memX {env : Env} {outer : List Env} {L b : Addr} (hf : env.frame = some L) (hm : b ∈ (env :: outer).filterMap (·.frame)) : b = L ∨ b ∈ outer.filterMap (·.frame) := by
  rw [List.filterMap_cons, hf] at hm
  exact List.mem_cons.mp hm
section
variable {M : Model} {A : Around} {E : Value → Shared → Prop} {s' : Shared} {base g g₂ h : Heap} {outer : List Env} {env : Env} {L e : Addr} {m : Str → Option Value} {Q : Unit → Shared → Prop} {news : List (Addr × Obj)} {cls : Value} {args : List Value}
/-- what a raised exception of an own class leaves behind when the raising frame is left -/
theorem leave_newX (K : Below A base outer g) (hx : MadeO h s'.heap e cls args) (F : Fr g L h m) (N : News g L h news) (hf : env.frame = some L) (hk : env.scope.kind = .function)
    (hQ : ∀ h', RaisedSN base g outer e cls news h' → g.UpToSlots h' → Q () { s' with heap := h' }) :
    wpAny M (A.deeper env) (leaving env (.ref e)) Q E s' := by
  have K' := pushX K F hf hk
  generalize hfs : (env :: outer).filterMap (·.frame) = fs at *
  have inB : ∀ {b o}, h.get? b = some o → b ∉ fs → (hideAll h fs).get? b = some o := fun q n => hideAll_get _ q n
  have offL : ∀ {b o}, g.get? b = some o → b ∉ outer.filterMap (·.frame) → b ∉ fs := fun {b o} q n hm => by
    subst hfs
    rcases memX hf hm with z | z
    · rw [z, kts_self F] at q; cases q
    · exact n z
  have st : base.StaysIn (hideAll h fs) := fun b o q => inB (K'.stays b o q) fun hm => by
    subst hfs
    rw [(K'.frames.mem hm).1] at q; cases q
  have offN : ∀ q ∈ news, q.1 ∉ fs := fun q hq hm => by
    subst hfs
    rcases memX hf hm with z | z
    · exact (N q hq).2.1 z
    · obtain ⟨o, ho, _⟩ := (K.frames.mem z).2
      rw [(N q hq).2.2] at ho; cases ho
  obtain ⟨oe, t, he, hc, hd, _, _⟩ := hx.there
  have hen : (hideAll h fs).get? e = none := by
    cases q : (hideAll h fs).get? e with
    | none => rfl
    | some o => have z := of_hideAll _ q; rw [hx.new] at z; cases z
  have hff : (hideAll h fs).FunFrames base (env :: outer) ∨ True := .inr trivial
  refine wpAny_leaving_firstW (base := hideAll h fs) (a0 := .ref t) K'.stack
    ((funFrames_hide K'.frames fun ev hev b hb => ?_).of_keeps fun b o hb _ => ⟨o, hx.keeps b o hb, rfl⟩) hf he (fun b o hb => hx.keeps b o (of_hideAll _ hb)) hen hd rfl rfl fun h' hL => ?_
  · subst hfs
    exact List.mem_filterMap.mpr ⟨ev, hev, hb⟩
  · obtain ⟨k1, ⟨_, _, k2⟩, k3, k4⟩ := hL
    refine hQ h' ⟨_, .ref t, st, fun b o q n => inB (F.keep b o q) (offL q n), fun q hq => ⟨inB (N q hq).1 (offN q hq), (N q hq).2.2, fresh_of_stays K.stays (N q hq).2.2⟩, k1, hen, k2, by rw [← hc]; exact k3⟩ ?_
    exact ((Heap.UpToSlots.of_keeps F.keep).trans (Heap.UpToSlots.of_keeps hx.keeps)).trans k4
theorem leave_onX (K : Below A base outer g) (F : Fr g L g₂ m) (R : RaisedSN base g₂ (env :: outer) e cls news s'.heap) (hsm : g₂.UpToSlots s'.heap) (hf : env.frame = some L)
    (hQ : ∀ h', RaisedSN base g outer e cls news h' → g.UpToSlots h' → Q () { s' with heap := h' }) :
    wpAny M (A.deeper env) (leaving env (.ref e)) Q E s' := by
  refine foldP ?_
  intro P9
  obtain ⟨B, a0, hB, hG, hl, hfl⟩ := R
  k_unfold
  clear P9
  refine wpAny_leaves_onW (Around.frames_deeper K.stack) hf hfl fun h' x1 x2 => hQ h' ⟨B, a0, hB, fun b o q n => hG b o (F.keep b o q) fun hm => ?_, fun q hq => ⟨(hl q hq).1, kts_none F.keep (hl q hq).2.1, (hl q hq).2.2⟩, x1⟩
    ((Heap.UpToSlots.of_keeps F.keep).trans (hsm.trans x2))
  rcases memX hf hm with z | z
  · rw [z, kts_self F] at q; cases q
  · exact n z
end
section
variable {A₀ A : Around} {s s' : Shared} {base h₀ g₀ : Heap} {outer : List Env} {env : Env} {L : Addr} {m : Str → Option Value} {news : List (Addr × Obj)} {K : Frag} {p : Program} {loose : List Str} {mean : ExcName → Option Value} {mg mb : Str → Option Value} {R : Result → Shared → Prop} {v : Value}
theorem dictsX {g : Heap} (F : Fr h₀ L g m) (hf : env.frame = some L) (D : KtsDicts (outer.filterMap (·.frame)) h₀) : KtsDicts ((env :: outer).filterMap (·.frame)) g := by
  intro b hb
  rcases memX hf hb with rfl | hb
  · obtain ⟨o, es, ep, ho, hd, _⟩ := F.ns
    exact ⟨o, es, ep, ho, hd⟩
  · obtain ⟨o, es, n, ho, hd⟩ := D b hb
    exact ⟨o, es, n, F.keep b o ho, hd⟩
/-- the news of a callee, told of the caller's own ground -/
theorem newsBack {g g' h₁ h : Heap} {fs : List Addr} {L' : Addr} (T : KtsTurn fs g g') (st : h₀.StaysIn g) (hL : ∃ o, g.get? L = some o) (N : News g' L' h₁ news) (hh : ∀ b, h₀.get? b = none → h.get? b = none) : News h L h₁ news := by
  intro p hp
  refine ⟨(N p hp).1, fun q => ?_, hh _ ?_⟩
  · obtain ⟨o, ho⟩ := hL
    obtain ⟨sl, hs⟩ := T.up ho
    have := (N p hp).2.2
    rw [q, hs] at this; cases this
  · cases q : h₀.get? p.1 with
    | none => rfl
    | some o =>
      obtain ⟨sl, hs⟩ := T.up (st _ _ q)
      have := (N p hp).2.2
      rw [hs] at this; cases this
theorem nsTurn {g g' h : Heap} {fs : List Addr} {L' : Addr} {m' : Str → Option Value} (FG : Fr h₀ L g m) (T : KtsTurn fs g g') (F' : Fr g' L' h m') : h.Ns L m := by
  obtain ⟨o, es, ep, ho, hd, r⟩ := FG.ns
  obtain ⟨sl, hs⟩ := T.up ho
  exact ⟨_, es, ep, F'.keep _ _ hs, hd, r⟩
theorem leaveBack0 {g : Heap} (FG : Fr h₀ L g m) (st : h₀.StaysIn g) (hf : env.frame = some L)
    (hl : LeaveS0 ([env].filterMap (·.frame)) h₀ L m g R v s') : R (.ok (.ret v)) s' := by
  refine foldP ?_
  intro P9
  obtain ⟨g', L', m', news', T, F', N', k⟩ := hl
  k_unfold
  clear P9
  have hL : ∃ o, g.get? L = some o := by obtain ⟨o, _, _, ho, _⟩ := FG.ns; exact ⟨o, ho⟩
  refine k ⟨nsTurn FG T F', fun b o e => F'.keep b o (T.other b o (st b o e) fun hm => ?_), FG.above⟩ (newsBack T st hL N' fun _ e => e)
  rcases memX hf hm with z | z
  · rw [z, kts_self FG] at e; cases e
  · simp at z
theorem leaveBack {g : Heap} (B : Below A₀ base outer h₀) (XB : K.In base) (TB : Top p loose mean mg mb base) (D : KtsDicts (outer.filterMap (·.frame)) h₀) (T0 : KtsTurn (outer.filterMap (·.frame)) g₀ h₀)
    (FG : Fr h₀ L g m) (st : h₀.StaysIn g) (hf : env.frame = some L)
    (hl : LeaveS ((env :: outer).filterMap (·.frame)) A₀ base outer K p loose mean mg mb g₀ h₀ L m g R v s') : R (.ok (.ret v)) s' := by
  have hL : ∃ o, g.get? L = some o := by obtain ⟨o, _, _, ho, _⟩ := FG.ns; exact ⟨o, ho⟩
  have go : ∀ {g' L' m' news'}, KtsTurn ((env :: outer).filterMap (·.frame)) g g' → Fr g' L' s'.heap m' → News g' L' s'.heap news' →
      ∃ h₀', KtsTurn (outer.filterMap (·.frame)) h₀ h₀' ∧ Fr h₀' L s'.heap m ∧ News h₀' L s'.heap news' ∧ Below A₀ base outer h₀' := by
    intro g' L' m' news' T F' N'
    obtain ⟨T₁, S₁⟩ := kts_turn_at (h := s'.heap) (fs := outer.filterMap (·.frame)) (g := h₀) (fun b hb => by obtain ⟨_, o, ho, _⟩ := B.frames.mem hb; exact ⟨o, ho⟩)
      (fun b o e n => F'.keep b o (T.other b o (st b o e) fun hm => by
        rcases memX hf hm with z | z
        · rw [z, kts_self FG] at e; cases e
        · exact n z))
      (fun b o e _ => by obtain ⟨sl, hs⟩ := T.up (st b o e); exact ⟨sl, F'.keep _ _ hs⟩)
    refine ⟨_, T₁, ⟨nsTurn FG T F', S₁, by rw [T₁.size]; exact FG.above⟩, newsBack T st hL N' fun b e => T₁.none_ b e, ⟨B.stack, fun b o e => T₁.other b o (B.stays b o e) fun hm => ?_, B.frames.of_keeps fun b o e _ => ?_⟩⟩
    · rw [(B.frames.mem hm).1] at e; cases e
    · obtain ⟨sl, hs⟩ := T₁.up e
      exact ⟨_, hs, rfl⟩
  rcases hl with ⟨L', m', news', F', N', k⟩ | ⟨g', L', m', news', T, F', N', k⟩
  · refine k ⟨nsTurn FG (KtsTurn.refl (fs := [])) F', fun b o e => F'.keep b o (st b o e), FG.above⟩ (newsBack (KtsTurn.refl (fs := [])) st hL N' fun _ e => e)
  · obtain ⟨h₀', T₁, F₁, N₁, B₁⟩ := go T F' N'
    exact k h₀' (T0.trans T₁) F₁ N₁ B₁ (XB.keeps B₁.stays) (TB.keeps B₁.stays) (D.turn T₁)
end
section
variable {prog : Program} {w : World} {A₀ A : Around} {s : Shared} {base h₀ g₀ : Heap} {outer : List Env} {env : Env} {L : Addr} {m : Str → Option Value} {news : List (Addr × Obj)} {K : Frag} {p : Program} {loose : List Str} {mean : ExcName → Option Value} {mg mb : Str → Option Value}
  {R : Result → Shared → Prop} {name qual : Str} {params : Arguments} {body : List Stmt} {scope : Scope} {dV kV doc pm cdv ct oc : Value} {an od : Option Addr} {osl : Array (Option Value)} {f : Addr} {args : Args} {binds : List (Str × Value)}
/-- a def that holds a try, called from any frame -/
theorem enterS (B : Below A₀ base outer h₀) (F : Fr h₀ L s.heap m) (X₀ : K.In h₀) (N : News h₀ L s.heap news) (T : Top p loose mean mg mb h₀) (XB : K.In base) (TB : Top p loose mean mg mb base) (D : KtsDicts (outer.filterMap (·.frame)) h₀)
    (T0 : KtsTurn (outer.filterMap (·.frame)) g₀ h₀) (hA : A.frames = some (env :: outer)) (hf : env.frame = some L) (hke : env.scope.kind = .function)
    (ho : K.lookup f = some ⟨oc, od, .func (fnOf name qual params body scope dV kV doc pm an cdv ct), osl⟩) (hcd : codeIn K cdv qual = true) (hroom : A.depth < recursionLimit)
    (hbind : BindsTo s (fnOf name qual params body scope dV kV doc pm an cdv ct) args binds) (hloc : ∀ y ∈ binds, scope.names.lookup y.1 = some .local)
    (h : ∀ g L' h₁, Fr h₀ L g m → Fr g L' h₁ (fun y => binds.reverse.lookup y) → News g L' h₁ news → Below A base (env :: outer) g → K.In g → Top p loose mean mg mb g → KtsDicts ((env :: outer).filterMap (·.frame)) g →
      wpAny (model prog w) (A.deeper (envOf qual scope L' f cdv)) (execs body (envOf qual scope L' f cdv))
        (fun fl s' => LeaveS ((env :: outer).filterMap (·.frame)) A₀ base outer K p loose mean mg mb g₀ h₀ L m g R (match fl with | .ret v => v | _ => .none) s')
        (fun e s' => wpAny (model prog w) (A.deeper (envOf qual scope L' f cdv)) (leaving (envOf qual scope L' f cdv) e) (fun _ s'' => R (.error e) s'') (fun e' s'' => R (.error e') s'') s')
        { s with heap := h₁, toks := s.toks + binds.length })
    (hco : scope.isCoroutine = false) (hgen : scope.isGenerator = false) (hk : scope.kind = .function) (hcell : ∀ x ∈ scope.names, x.2 ≠ .cell) : codeAny (model prog w) A (.call (.ref f) args) R s := by
  obtain ⟨FG, BG, st, _⟩ := groundX (R := R) B F N hA hf hke
  have X := X₀.keeps F.keep
  refine codeAny_call_def (fd := fnOf name qual params body scope dV kV doc pm an cdv ct) (body := body) (binds := binds) hroom (X _ _ ho) rfl (T.nolimit.keeps F.keep) (codeRec_of X hcd) rfl hbind hcell hloc (fun h₁ hns hk₁ => ?_) hco hgen hk
  exact wpAny_mono (h _ s.heap.objs.size h₁ FG ⟨hns, fun b o e => hk₁ b o (of_hideAll _ e), Nat.le_of_eq (hideAll_size _ _)⟩
    (fun q hq => ⟨hk₁ _ _ (N q hq).1, Nat.ne_of_lt (Heap.lt_size (N q hq).1), hideAll_none _ (List.mem_map_of_mem hq)⟩) BG (X₀.keeps st) (T.keeps st) (dictsX FG hf D))
    (fun fl s' hl => leaveBack B XB TB D T0 FG st hf hl) fun _ _ y => y
/-- a def with names that its lambdas keep, called from the law's own frame -/
theorem enterC0 (B : Below A₀ base [] h₀) (F : Fr h₀ L s.heap m) (X₀ : K.In h₀) (N : News h₀ L s.heap news) (T : Top p loose mean mg mb h₀) (hA : A.frames = some [env]) (hf : env.frame = some L) (hke : env.scope.kind = .function)
    (ho : K.lookup f = some ⟨oc, od, .func (fnOf name qual params body scope dV kV doc pm an cdv ct), osl⟩) (hcd : codeIn K cdv qual = true) (hroom : A.depth < recursionLimit)
    (hbind : BindsTo s (fnOf name qual params body scope dV kV doc pm an cdv ct) args binds) (hkind : (binds.all fun y => scope.names.lookup y.1 == some .local || scope.names.lookup y.1 == some .cell) = true)
    (hnd : ((cellsFrom 0 scope.names []).map (·.1)).Nodup)
    (h : ∀ g L' h₁ tk cells, Fr h₀ L g m → Fr g L' h₁ (bindL (envOfC qual scope L' f cdv).kindOf binds fun _ => none) → News g L' h₁ (cells ++ news) →
      CellsAre (bindC (envOfC qual scope L' f cdv).kindOf binds fun _ => none) (cellsFrom (L' + 1) scope.names []) cells → Below A base [env] g → K.In g → Top p loose mean mg mb g → KtsDicts ([env].filterMap (·.frame)) g → (∀ p ∈ news, p.1 < L') →
      wpAny (model prog w) (A.deeper (envOfC qual scope L' f cdv)) (execs body (envOfC qual scope L' f cdv))
        (fun fl s' => LeaveS0 ([env].filterMap (·.frame)) h₀ L m g R (match fl with | .ret v => v | _ => .none) s')
        (fun e s' => wpAny (model prog w) (A.deeper (envOfC qual scope L' f cdv)) (leaving (envOfC qual scope L' f cdv) e) (fun _ s'' => R (.error e) s'') (fun e' s'' => R (.error e') s'') s')
        { s with heap := h₁, toks := tk })
    (hco : scope.isCoroutine = false) (hgen : scope.isGenerator = false) (hk : scope.kind = .function) : codeAny (model prog w) A (.call (.ref f) args) R s := by
  obtain ⟨FG, BG, st, _⟩ := groundX (R := R) B F N hA hf hke
  have X := X₀.keeps F.keep
  refine codeAny_call_function hroom (X _ _ ho) rfl hco hgen rfl (codeRec_of X hcd) (hbind _ _ _ _ ?_)
  refine wpAny_newFunctionEnv_cells hk (kindsX hkind _) fun env' he s' x => ?_
  subst he
  refine ⟨(T.nolimit.keeps F.keep).keeps x.toInCall.keep, codeAny_func ?_⟩
  obtain ⟨h₁, tk, rfl, _⟩ := x.done
  have hk₁ := x.toInCall.keep
  obtain ⟨cells, NC, Y⟩ := Cl.news (h₀ := s.heap) (Nat.le_refl _) fun n c hm => ⟨x.cell n c (lookup_of_mem_nodup (cellsFrom_names scope.names 0 (s.heap.objs.size + 1) [] [] rfl ▸ hnd) hm), x.above n c hm⟩
  refine wpAny_mono (h _ s.heap.objs.size h₁ tk cells FG ⟨x.toInCall.ns, fun b o e => hk₁ b o (of_hideAll _ e), Nat.le_of_eq (hideAll_size _ _)⟩ (fun q hq => ?_) Y BG (X₀.keeps st) (T.keeps st) (dictsX FG hf ktsDicts_nil) (fun q hq => Heap.lt_size (N q hq).1))
    (fun fl s' hl => leaveBack0 FG st hf hl) fun _ _ y => y
  rcases List.mem_append.mp hq with hq | hq
  · refine ⟨(NC q hq).1, (NC q hq).2.1, ?_⟩
    cases z : (hideAll s.heap (news.map (·.1))).get? q.1 with
    | none => rfl
    | some o => have := of_hideAll _ z; rw [(NC q hq).2.2] at this; cases this
  · exact ⟨hk₁ _ _ (N q hq).1, Nat.ne_of_lt (Heap.lt_size (N q hq).1), hideAll_none _ (List.mem_map_of_mem hq)⟩
end
end

section
open PySem PySem.W PyProof.Rows
theorem fmod_bd (x : Int) {k : Int} (h : 0 < k) : 0 ≤ x.fmod k ∧ x.fmod k < k := by
  rw [Int.fmod_eq_emod_of_nonneg _ (by omega)]
  exact ⟨Int.emod_nonneg _ (by omega), Int.emod_lt_of_pos _ h⟩
theorem fdiv_nn {x k : Int} (hx : 0 ≤ x) (h : 0 < k) : 0 ≤ x.fdiv k := by
  rw [Int.fdiv_eq_ediv_of_nonneg _ (by omega)]
  exact Int.ediv_nonneg hx (by omega)
theorem mul_take (a x : Int) : IntMulOk ([a, x.fmod 2147483647].getD (Int.toNat 1) 0) ([a, x.fmod 2147483647].getD (Int.toNat 1) 0) := by
  show IntMulOk (x.fmod 2147483647) (x.fmod 2147483647)
  have h := fmod_bd x (k := 2147483647) (by omega)
  exact IntMulOk.of_left (intBits_le_64 (by omega) (by omega))
local macro_rules | `(tactic| mul_fits) => `(tactic| exact mul_take _ _)
local macro_rules | `(tactic| k_all) => `(tactic| with_reducible assumption)
theorem take_c : ∀ (w : World) (p : Program) (loose : List Str) (mean : ExcName → Option Value) (mg mb : Str → Option Value) (dp un : Nat) (gd : Option (List Code)) (cn : Str) (cs : Scope) (a : Addr) (ccd : Value) (cl : List (Str × Addr)) (outer : List Env) (A₀ : Around) (base h₀ : Heap) (L : Addr) (m : Str → Option Value) (s : Shared) (Q E : Value → Shared → Prop)
    (rest : List (Addr × Obj)) (src : Addr) (a0 b0 top : Int) (ta tb tt : Tok) (n : Nat),
    Below A₀ base outer h₀ → Fr h₀ L s.heap m → (hd.heap_1 w.params).In h₀ → News h₀ L s.heap ((src, listOf #[.int a0 ta, .int b0 tb] n) :: rest) → Top p loose mean mg mb h₀ → cs.kind = .function →
    (∀ p ∈ rest, p.1 ≠ src) → 0 ≤ a0 → 0 ≤ b0 → b0 < 2147483647 → 1 ≤ top → top ≤ 1000 → dp + 1 < recursionLimit → un + 8 < cLine →
    (∀ (v a1 b1 : Int) (t ta tb : Tok) (h' : Heap) (tk' : Nat), 0 ≤ v → v < top → 0 ≤ a1 → 0 ≤ b1 → b1 < 2147483647 → Fr h₀ L h' m → News h₀ L h' ((src, listOf #[.int a1 ta, .int b1 tb] n) :: rest) → Q (.int v t) { s with heap := h', toks := tk' }) →
    wpAny (model PySem.Challenge.rw_on0340_01.row.prog w) (ktrTop dp un gd cn cs L a ccd cl outer) (call (.ref 239) [.ref src, .int top tt]) Q E s := by
  k_fill
  intro w p loose mean mg mb dp un gd cn cs a ccd cl outer A₀ base h₀ L m s Q E rest src a0 b0 top ta tb tt n B F X N T hk hrest ha0 hb0 hb1 ht1 ht2 hdp hun hret
  refine wpAny_call ?_
  k_dflt cell_enter
  k_steps
  · refine hret _ _ _ _ _ _ _ _ ?_ ?_ ?_ ?_ ?_ (by assumption) (by assumption)
    · exact (fmod_bd _ (by omega)).1
    · exact (fmod_bd _ (by omega)).2
    · exact fdiv_nn ha0 (by omega)
    · exact hb0
    · exact hb1
  · refine hret _ _ _ _ _ _ _ _ ?_ ?_ ?_ ?_ ?_ (by assumption) (by assumption)
    · exact (fmod_bd _ (by omega)).1
    · exact (fmod_bd _ (by omega)).2
    · exact ha0
    · exact (fmod_bd _ (by omega)).1
    · exact (fmod_bd _ (by omega)).2
end

section
open PySem PySem.W PyProof.Rows PySem.Spec PySem.Calls
/-- v is a new object of an own exception class -/
def Rd (s : Shared) (v : Value) : Prop :=
  ∃ C nm q N bs bm hdct sn sub ab col dd k0 k1 k2 k3 k5 newId, bm.contains (Value.type "BaseException") = true ∧ s.heap.get? C = some (excClassObj nm q C N bs bm hdct sn sub ab col dd k0 k1 k2 k3 k5 newId) ∧
    ∃ e oe vs, v = .ref e ∧ s.heap.get? e = some oe ∧ oe.cls = .ref C ∧ oe.data = .fields #[vs, .none, .none, .none, .bool false, .none]
theorem raise_rd {M : Model} {A : Around} {E : Value → Shared → Prop} {env : Env} {s : Shared} {x : Sem Value} {Q : Flow → Shared → Prop} (hh : A.handled = none)
    (h : wpAny M A x (fun v s₁ => Rd s₁ v ∧ E v s₁) E s) : wpAny M A (raiseStmt env (some x) none) Q E s := by
  unfold raiseStmt
  refine wpAny_bind (wpAny_mono h (fun v s₁ h₁ => ?_) fun _ _ x => x)
  refine foldP ?_
  intro P9
  obtain ⟨⟨C, nm, q, N, bs, bm, hdct, sn, sub, ab, col, dd, k0, k1, k2, k3, k5, newId, hb, hC, e, oe, vs, e91, he, hcl, hdt⟩, hE⟩ := h₁
  k_unfold
  clear P9
  subst e91
  have hcB : (Value.ref C :: bm).contains (.type "BaseException") = true := by rw [List.contains_cons, hb, Bool.or_true]
  obtain ⟨hp, g, d, tk, os⟩ := s₁
  obtain ⟨c0, d0, dt0, sl0⟩ := oe
  dsimp only at hcl hdt
  subst hcl hdt
  repeat (first | with_reducible refine wpAny_loadPart_at he ?_ | with_reducible refine wpAny_loadPart_at hC ?_ | (with_reducible refine wpAny_isSubtype_exc hC ?_; rw [hcB]) | wp_step)
  exact wpAny_raiseNew_none hh hE
theorem exec_raise {M : Model} {A : Around} {E : Value → Shared → Prop} {env : Env} {s : Shared} {ce : Expr} {pos : Pos} {Q : Flow → Shared → Prop} (hh : A.handled = none)
    (h : wpAny M A (eval ce env) (fun v s₁ => Rd s₁ v ∧ E v s₁) E s) : wpAny M A (exec (.Raise (some ce) none pos) env) Q E s := by
  rw [arm_exec_Raise]
  refine wpAny_bind (wpAny_standAt ?_)
  exact raise_rd (x := do let v ← eval ce env; standAt pos; pure v) hh (wpAny_bind (wpAny_mono h (fun v s₁ h₁ => wpAny_bind (wpAny_standAt (wpAny_pure h₁))) fun _ _ x => x))
theorem cls_of (w : World) {h : Heap} (X : (hd.heap_1 w.params).In h) : (∃ nm q N bs bm hdct sn sub ab col dd k0 k1 k2 k3 k5 newId, bm.contains (Value.type "BaseException") = true ∧ h.get? 51 = some (excClassObj nm q 51 N bs bm hdct sn sub ab col dd k0 k1 k2 k3 k5 newId)) ∧
    (∃ nm q N bs bm hdct sn sub ab col dd k0 k1 k2 k3 k5 newId, bm.contains (Value.type "BaseException") = true ∧ h.get? 63 = some (excClassObj nm q 63 N bs bm hdct sn sub ab col dd k0 k1 k2 k3 k5 newId)) := by
  have a := X 51 _ (by rfl)
  have b := X 63 _ (by rfl)
  exact ⟨⟨_, _, _, _, [.ref 38, .type "Exception", .type "BaseException", .type "object"], _, _, _, _, _, _, _, _, _, _, _, _, by decide, a⟩, ⟨_, _, _, _, [.ref 38, .type "Exception", .type "BaseException", .type "object"], _, _, _, _, _, _, _, _, _, _, _, _, by decide, b⟩⟩
theorem exc_rd {w : World} {A : Around} {E E' : Value → Shared → Prop} {s : Shared} {msg : Str} {t : Tok} (X : (hd.heap_1 w.params).In s.heap) (hh : A.handled = none) (hdp : A.depth ≤ 900) (hun : A.units ≤ 9000) :
    (∀ {C : Addr}, C = 51 ∨ C = 63 → (∀ h' e tk, MadeO s.heap h' e (.ref C) [.str msg t] → E' (.ref e) { s with heap := h', toks := tk }) →
      wpAny (model PySem.Challenge.rw_on0340_01.row.prog w) A (call (.ref C) [.str msg t]) (fun v s₁ => Rd s₁ v ∧ E' v s₁) E s) := by
  rintro C (rfl | rfl) h
  · refine widen (A' := wideA) hh hdp rfl rfl hun (exc51w rfl _ w s msg t _ E X fun h' e tk hx => ⟨?_, h h' e tk hx⟩)
    obtain ⟨nm, q, N, bs, bm, hdct, sn, sub, ab, col, dd, k0, k1, k2, k3, k5, newId, hb, hC⟩ := (cls_of w X).1
    obtain ⟨oe, tt, he, hc, hd, _⟩ := hx.there
    exact ⟨51, nm, q, N, bs, bm, hdct, sn, sub, ab, col, dd, k0, k1, k2, k3, k5, newId, hb, hx.keeps _ _ hC, e, oe, _, rfl, he, hc, hd⟩
  · refine widen (A' := wideA) hh hdp rfl rfl hun (exc63w rfl _ w s msg t _ E X fun h' e tk hx => ⟨?_, h h' e tk hx⟩)
    obtain ⟨nm, q, N, bs, bm, hdct, sn, sub, ab, col, dd, k0, k1, k2, k3, k5, newId, hb, hC⟩ := (cls_of w X).2
    obtain ⟨oe, tt, he, hc, hd, _⟩ := hx.there
    exact ⟨63, nm, q, N, bs, bm, hdct, sn, sub, ab, col, dd, k0, k1, k2, k3, k5, newId, hb, hx.keeps _ _ hC, e, oe, _, rfl, he, hc, hd⟩
section
variable {w : World} {p : Program} {loose : List Str} {mean : ExcName → Option Value} {mg mb : Str → Option Value} {dp un : Nat} {gd : Option (List Code)} {cn : Str} {cs : Scope} {a : Addr} {ccd : Value} {cl : List (Str × Addr)} {outer : List Env} {A₀ : Around} {base h₀ : Heap} {L : Addr} {m : Str → Option Value} {s : Shared} {Q E : Value → Shared → Prop}
    {news : List (Addr × Obj)} {g : Obj → List (Addr × Obj)} {src : Addr} {a0 b0 top : Int} {ta tb tt : Tok} {n : Nat}
theorem take_u (B : Below A₀ base outer h₀) (F : Fr h₀ L s.heap m) (X : (hd.heap_1 w.params).In h₀) (N : News h₀ L s.heap news) (T : Top p loose mean mg mb h₀) (U : UpdF src (listOf #[.int a0 ta, .int b0 tb] n) news g) (hk : cs.kind = .function)
    (ha : 0 ≤ a0) (hb : 0 ≤ b0) (hb1 : b0 < 2147483647) (ht : 1 ≤ top) (ht1 : top ≤ 1000) (hd : dp + 1 < recursionLimit) (hu : un + 8 < cLine)
    (hret : ∀ (v a1 b1 : Int) (t ta tb : Tok) (h' : Heap) (tk' : Nat), 0 ≤ v → v < top → 0 ≤ a1 → 0 ≤ b1 → b1 < 2147483647 → Fr h₀ L h' m → (let ol : Obj := listOf #[.int a1 ta, .int b1 tb] n; News h₀ L h' (g ol) → Q (.int v t) { s with heap := h', toks := tk' })) :
    wpAny (model PySem.Challenge.rw_on0340_01.row.prog w) (ktrTop dp un gd cn cs L a ccd cl outer) (call (.ref 239) [.ref src, .int top tt]) Q E s := by
  obtain ⟨pre, post, rfl, hg, h1, h2⟩ := U.split
  refine take_c w p loose mean mg mb dp un gd cn cs a ccd cl outer A₀ base h₀ L m s Q E (pre ++ post) src a0 b0 top ta tb tt n B F X (fun q hq => N q ?_) T hk (fun q hq => ?_) ha hb hb1 ht ht1 hd hu
    fun v a1 b1 t ta tb h' tk' v0 v1 x0 x1 x2 F' N' => hret v a1 b1 t ta tb h' tk' v0 v1 x0 x1 x2 F' ?_
  · rcases List.mem_cons.mp hq with rfl | hq
    · simp
    · rcases List.mem_append.mp hq with hq | hq <;> simp [hq]
  · rcases List.mem_append.mp hq with hq | hq
    · exact h1 q hq
    · exact h2 q hq
  · rw [hg]
    intro q hq
    refine N' q ?_
    rcases List.mem_append.mp hq with hq | hq
    · simp [hq]
    · rcases List.mem_cons.mp hq with rfl | hq <;> simp_all
end
end

section
open PySem PySem.W PyProof.Rows PySem.Spec PySem.Calls
def Stop (P : Prop) : Prop := P
theorem stop_ {P : Prop} (h : Stop P) : P := h
section
variable {prog : Program} {w : World} {A : Around} {E : Value → Shared → Prop} {s : Shared} {env : Env} {x : Str} {body : List Stmt} {Q : Flow → Shared → Prop}
/-- a loop's state between two turns; the ground may turn with it -/
def Cur (L : Addr) (s : Shared) (wr : List Addr) (St : Nat → Heap → Prop) (J : Nat → Heap → (Str → Option Value) → List (Addr × Obj) → Prop) (i : Nat) (s' : Shared) : Prop :=
  ∃ h' tk g m news, s' = { s with heap := h', toks := tk } ∧ St i h' ∧ Fr g L h' m ∧ News g L h' news ∧ (∀ q ∈ news, q.1 ∉ wr) ∧ (∀ b ∈ wr, g.get? b = none) ∧ J i g m news
def CurPost (L : Addr) (s : Shared) (wr : List Addr) (St : Nat → Heap → Prop) (J : Nat → Heap → (Str → Option Value) → List (Addr × Obj) → Prop) (i : Nat) (Q : Flow → Shared → Prop) (f : Flow) (s' : Shared) : Prop :=
  match f with
  | .ret v => Q (.ret v) s'
  | .brk => Q .next s'
  | _ => Cur L s wr St J i s'
theorem forT {px : Pos} {I : Addr} {fp wr : List Addr} {n : Nat} {P : Nat → Value → Prop} {St : Nat → Heap → Prop} (J : Nat → Heap → (Str → Option Value) → List (Addr × Obj) → Prop)
    (W : Walks prog w A I fp wr n P St) (hx : env.kindOf x = some .local) (hp : (env.scope.kind == .class || (env.scope.kind == .module && env.locals != env.globals)) = false)
    (hLf : env.locals ∉ fp) (hE : PassesOwn (model prog w) A env E) (h0 : Cur env.locals s wr St J 0 s)
    (turn : ∀ i v g m news h tk, i < n → P i v → J i g m news → (∀ q ∈ news, q.1 ∉ wr) → (∀ b ∈ wr, g.get? b = none) → St (i + 1) h → Fr g env.locals h (fun y => if y = x then some v else m y) → News g env.locals h news →
      wpAny (model prog w) A (execs body env) (CurPost env.locals s wr St J (i + 1) Q) E { s with heap := h, toks := tk })
    (done : ∀ g m news h tk, J n g m news → Fr g env.locals h m → News g env.locals h news → Q .next { s with heap := h, toks := tk }) :
    codeAny (model prog w) A (.forLoop (.Name x px) (.ref I) body [] env) (fun r s' => match r with | .ok f => Q f s' | .error e => cameBackBy (model prog w) A env E e s') s := by
  have hLw : env.locals ∉ wr := fun h => hLf (W.sub _ h)
  refine codeAny_forLoop (fun k s' => ∃ i, i ≤ n ∧ k = n + 1 - i ∧ Cur env.locals s wr St J i s') ?_ (n + 1) ⟨0, Nat.zero_le _, rfl, h0⟩
  intro k s' hh9
  refine foldP ?_
  intro P9
  obtain ⟨i, hi, e91, h', tk, g, m, news, e92, hst, F, N, off, gn, hJ⟩ := hh9
  k_unfold
  clear P9
  subst e91
  subst e92
  have next : ∀ h₁ : Heap, (∀ b o, b ∉ wr → h'.get? b = some o → h₁.get? b = some o) → Fr g env.locals h₁ m ∧ News g env.locals h₁ news := fun h₁ hk =>
    ⟨⟨F.ns.at' fun o e => hk _ o hLw e, fun b o e => hk b o (fun hb => by rw [gn b hb] at e; cases e) (F.keep b o e), F.above⟩, fun q hq => ⟨hk _ _ (off q hq) (N q hq).1, (N q hq).2⟩⟩
  by_cases hlt : i < n
  · refine W.item i _ _ _ hlt hst fun v h₁ tk₁ hP hst₁ hk₁ => ?_
    obtain ⟨F₁, N₁⟩ := next h₁ hk₁
    refine wpAny_assign_Name (wpAny_storeName_local hx F₁.ns (fun h₂ hn₂ hs₂ => ?_) hp)
    have hst₂ : St (i + 1) h₂ := W.frame _ _ _ hst₁ fun b hb o e => (hs₂.2 b fun q => hLf (q ▸ hb)).trans e
    refine wpAny_passesOwn hE (wpAny_mono (turn i v g m news h₂ _ hlt hP hJ off gn hst₂ (F₁.set hn₂ hs₂) (N₁.set hs₂)) (fun f s₃ h₃ => ?_) fun _ _ e => e)
    cases f with
    | ret v => exact h₃
    | brk => exact h₃
    | cont => exact ⟨n + 1 - (i + 1), by omega, i + 1, hlt, rfl, h₃⟩
    | next => exact ⟨n + 1 - (i + 1), by omega, i + 1, hlt, rfl, h₃⟩
  · have hin : i = n := by omega
    subst hin
    refine W.done _ _ _ hst fun h₁ tk₁ hk₁ => wpAny_execs_nil ?_
    obtain ⟨F₁, N₁⟩ := next h₁ hk₁
    exact done g m news h₁ tk₁ hJ F₁ N₁
/-- a turn's end of a loop over a range -/
def TurnT (L I : Addr) (it : Obj) (s₁ : Shared) (Jn : Heap → (Str → Option Value) → List (Addr × Obj) → Prop) (Q : Flow → Shared → Prop) (f : Flow) (s' : Shared) : Prop :=
  match f with
  | .ret v => Q (.ret v) s'
  | .brk => Q .next s'
  | _ => ∃ h' tk g' m' news', s' = { s₁ with heap := h', toks := tk } ∧ Fr g' L h' m' ∧ News g' L h' ((I, it) :: news') ∧ (∀ q ∈ news', q.1 ≠ I) ∧ Jn g' m' news'
def RangeT (prog : Program) (w : World) (A : Around) (E : Value → Shared → Prop) (env : Env) (x : Str) (body : List Stmt) (Q : Flow → Shared → Prop) (J : Nat → Heap → (Str → Option Value) → List (Addr × Obj) → Prop) (xv : Value) (s₁ : Shared) : Prop :=
  ∃ r a b t u v, ∃ n : Nat, ∃ g m news, xv = .ref r ∧ IsRange s₁.heap r a b 1 t u v ∧ Builtin.Range.small a b 1 = true ∧ Builtin.Range.rangeSize a b 1 = (n : Int) ∧
      Fr g env.locals s₁.heap m ∧ News g env.locals s₁.heap news ∧ J 0 g m news ∧
      (∀ I i g m news t h tk, i < n → J i g m news → (∀ q ∈ news, q.1 ≠ I) → Fr g env.locals h (fun y => if y = x then some (.int (a + (i : Int)) t) else m y) →
        News g env.locals h ((I, itR (a + ((i + 1 : Nat) : Int)) ((n : Int) - ((i + 1 : Nat) : Int))) :: news) →
        wpAny (model prog w) A (execs body env) (TurnT env.locals I (itR (a + ((i + 1 : Nat) : Int)) ((n : Int) - ((i + 1 : Nat) : Int))) s₁ (J (i + 1)) Q) E { s₁ with heap := h, toks := tk }) ∧
      (∀ g m news h tk, J n g m news → Fr g env.locals h m → News g env.locals h news → Q .next { s₁ with heap := h, toks := tk })
/-- for x in range(..): by what holds between the turns -/
theorem for_rangeT {px pos : Pos} {iter : Expr} (hx : env.kindOf x = some .local) (hp : (env.scope.kind == .class || (env.scope.kind == .module && env.locals != env.globals)) = false) (hE : PassesOwn (model prog w) A env E)
    (hs : ∀ x, foldedSetIterable iter env x = pure x) (hh : A.handled = none)
    (J : Nat → Heap → (Str → Option Value) → List (Addr × Obj) → Prop)
    (h : wpAny (model prog w) A (eval iter env) (RangeT prog w A E env x body Q J) E s) :
    wpAny (model prog w) A (exec (.For (.Name x px) iter body [] pos) env) Q E s := by
  refine wpAny_For (wpAny_mono h (fun xv s₁ h₁ => ?_) fun _ _ e => e) hs
  refine foldP ?_
  intro P9
  obtain ⟨r, a, b, t, u, v, n, g, m, news, e91, hr, hsm, hn, F, N, hJ, turn, done⟩ := h₁
  k_unfold
  clear P9
  subst e91
  refine wpAny_pyIter_range hr hsm ?_
  have W : Walks prog w A s₁.heap.objs.size [s₁.heap.objs.size] [s₁.heap.objs.size] n (fun i v => i < n ∧ ∃ t, v = .int (a + i * 1) t)
      (fun i h => IsRangeIter h s₁.heap.objs.size (a + (i : Nat) * 1) ((n : Int) - (i : Nat)) 1) := (Walks.range hh _ a 1 n).bound
  have hnew := next_is_new F
  have at_ : ∀ {i : Nat} {h : Heap}, IsRangeIter h s₁.heap.objs.size (a + (i : Nat) * 1) ((n : Int) - (i : Nat)) 1 ↔ h.get? s₁.heap.objs.size = some (itR (a + (i : Int)) ((n : Int) - (i : Int))) := by
    intro i h
    unfold IsRangeIter itR
    rw [Int.mul_one]
  refine forT (Q := Q) (fun i g m news => J i g m news) W hx hp ?_ hE ?_ ?_ ?_
  · intro hm
    exact absurd F.ns.lt ((List.mem_singleton.mp hm) ▸ Nat.lt_irrefl _)
  · refine ⟨_, s₁.toks, g, m, news, rfl, ?_, F.push _, fun q hq => ⟨Heap.get?_push_of_some _ (N q hq).1, (N q hq).2⟩, fun q hq hm => ?_, fun b hb => ?_, hJ⟩
    · refine (at_ (i := 0)).mpr ?_
      rw [hn]
      have z := Heap.get?_push_size s₁.heap (o := { cls := .type "range_iterator", data := .fields #[rawInt a, rawInt n, rawInt 1] }) rfl
      simpa [itR] using z
    · exact absurd (Heap.lt_size (N q hq).1) ((List.mem_singleton.mp hm) ▸ Nat.lt_irrefl _)
    · rw [List.mem_singleton.mp hb]; exact hnew
  · intro i v g m news h tk hi hh9 hJ off gn hst F₁ N₁
    refine foldP ?_
    intro P9
    obtain ⟨_, t, e91⟩ := hh9
    k_unfold
    clear P9
    subst e91
    rw [Int.mul_one] at F₁
    replace hst := at_.mp hst
    have hIL : s₁.heap.objs.size ≠ env.locals := fun e => absurd F.ns.lt (e ▸ Nat.lt_irrefl _)
    refine wpAny_mono (turn s₁.heap.objs.size i g m news t h tk hi hJ (fun q hq e => off q hq (List.mem_singleton.mpr e)) F₁ ?_) (fun f s₂ p => ?_) fun _ _ e => e
    · intro q hq
      rcases List.mem_cons.mp hq with rfl | hq
      · exact ⟨hst, hIL, gn _ (List.mem_singleton.mpr rfl)⟩
      · exact N₁ q hq
    · have fin : (∃ h' tk g' m' news', s₂ = { s₁ with heap := h', toks := tk } ∧ Fr g' env.locals h' m' ∧ News g' env.locals h' ((s₁.heap.objs.size, itR (a + ((i + 1 : Nat) : Int)) ((n : Int) - ((i + 1 : Nat) : Int))) :: news') ∧ (∀ q ∈ news', q.1 ≠ s₁.heap.objs.size) ∧ J (i + 1) g' m' news') → Cur env.locals { s₁ with heap := s₁.heap.push { cls := .type "range_iterator", data := .fields #[rawInt a, rawInt (Builtin.Range.rangeSize a b 1), rawInt 1] } } [s₁.heap.objs.size] (fun i h => IsRangeIter h s₁.heap.objs.size (a + (i : Nat) * 1) ((n : Int) - (i : Nat)) 1) J (i + 1) s₂ := by
        intro hh9
        refine foldP ?_
        intro P9
        obtain ⟨h', tk', g', m', news', e91, F', N', off', hJ'⟩ := hh9
        k_unfold
        clear P9
        subst e91
        refine ⟨h', tk', g', m', news', rfl, at_.mpr (N' _ (List.mem_cons_self ..)).1, F', fun q hq => N' q (List.mem_cons_of_mem _ hq), fun q hq hm => off' q hq (List.mem_singleton.mp hm), fun b hb => ?_, hJ'⟩
        rw [List.mem_singleton.mp hb]
        exact (N' _ (List.mem_cons_self ..)).2.2
      cases f with
      | ret v => exact p
      | brk => exact p
      | next => exact fin p
      | cont => exact fin p
  · intro g m news h tk hJ F₁ N₁
    exact done g m news h tk hJ F₁ N₁
end
end

section
open PySem PySem.W PyProof.Rows PySem.Spec PySem.Calls
def JG (A : Around) (base : Heap) (outer : List Env) (K : Frag) (p : Program) (loose : List Str) (mean : ExcName → Option Value) (mg mb : Str → Option Value) (g₀ g : Heap) : Prop :=
  KtsTurn (outer.filterMap (·.frame)) g₀ g ∧ Below A base outer g ∧ K.In g ∧ Top p loose mean mg mb g ∧ KtsDicts (outer.filterMap (·.frame)) g
/-- a lambda of a loop's body: at the first turn its code is not made yet, at the later ones it is -/
def LamSt (qual : Str) (line col : Nat) (ps0 : Array Value) (LO i : Nat) (ps : Array Value) (mid : List (Addr × Obj)) : Prop :=
  (i = 0 ∧ ps = ps0 ∧ mid = []) ∨ (0 < i ∧ ∃ c oc vs t, ps = ps0 ++ #[rawInt line, rawInt col, .ref c] ∧ mid = [(c, oc)] ∧ oc.data = .fields vs ∧ vs[1]? = some (.str qual t) ∧ LO < c)
section
variable {M : Model} {A : Around} {E : Value → Shared → Prop} {s : Shared} {h₀ : Heap} {L a c P : Addr} {m mg mb : Str → Option Value} {cn : Str} {cs : Scope} {ccd : Value} {cl : List (Str × Addr)} {news mid : List (Addr × Obj)} {g : Obj → List (Addr × Obj)}
  {p : Program} {loose : List Str} {mean : ExcName → Option Value} {name qual : Str} {params : Arguments} {body : Expr} {scope : Scope} {ps ps0 : Array Value} {pos : Pos} {firstLine : Nat} {clos : List (Str × Addr)} {LO i k j : Nat} {I : Addr} {oz : Obj}
theorem LamSt.lo (S : LamSt qual k j ps0 LO i ps mid) : ∀ q ∈ mid, @LT.lt Nat _ LO q.1 := by
  rcases S with ⟨-, rfl, rfl⟩ | ⟨-, c', oc, vs, t, rfl, rfl, hd, hv, hLO⟩
  · exact fun _ h => absurd h List.not_mem_nil
  · intro q hq
    rcases List.mem_cons.mp hq with rfl | hq
    · exact hLO
    · exact absurd hq List.not_mem_nil
theorem LamSt.ne (S : LamSt qual k j ps0 LO i ps mid) {x : Nat} (h : x ≤ LO) : ∀ q ∈ mid, q.1 ≠ x := fun q hq => Nat.ne_of_gt (Nat.lt_of_le_of_lt h (S.lo q hq))
theorem LamSt.start {qual : Str} {k j : Nat} {ps0 : Array Value} {LO : Nat} : LamSt qual k j ps0 LO 0 ps0 [] := .inl ⟨rfl, rfl, rfl⟩
theorem kla_any {Q : Value → Shared → Prop} (S : LamSt qual pos.line pos.col ps0 LO i ps mid) (F : Fr h₀ L s.heap m) (N : News h₀ L s.heap news) (hmid : ∀ q ∈ mid, q ∈ news) (T : Top p loose mean mg mb h₀) (C : CodeHd h₀ c P) (hcd : ccd = .ref c) (U : UpdF P (tabObj ps) news g)
    (ht : TriplesOk ps0.toList) (hnf : codeAmong pos ps0.toList = none) (ht2 : ∀ c', TriplesOk (ps0 ++ #[rawInt pos.line, rawInt pos.col, .ref c']).toList) (hf : ∀ c', codeAmong pos (ps0 ++ #[rawInt pos.line, rawInt pos.col, .ref c']).toList = some (.ref c'))
    (hcl : closureFor scope (envX cn cs L a ccd cl) = pure clos) (hz : (LO, oz) ∈ news) (hI : ∃ o, (I, o) ∈ news) (hoff : ∀ q ∈ mid, q.1 ≠ I)
    (h : ∀ f c' oc vs t ctv h' tk, Fr h₀ L h' m →
      News h₀ L h' ((f, kla_obj name qual params body scope clos ((mg "__name__").getD .none) c' ctv) :: (c', oc) :: g (tabObj (ps0 ++ #[rawInt pos.line, rawInt pos.col, .ref c']))) →
      oc.data = .fields vs → vs[1]? = some (.str qual t) → Und LO c' → Dif c' I → Nxt c' f → (∀ q ∈ news, q.1 < f) → Q (.ref f) { s with heap := h', toks := tk }) :
    wpAny M A (makeFunction name qual params (.expr body) scope (envX cn cs L a ccd cl) [] [] [] pos firstLine) Q E s := by
  rcases S with ⟨-, rfl, rfl⟩ | ⟨-, c', oc, vs, t, rfl, rfl, hd, hv, hLO⟩
  · refine kla_nest F N T C hcd U ht hnf hcl fun f c' oc vs t ctv h' tk F' N' d1 d2 l1 l2 => h f c' oc vs t ctv h' tk F' N' d1 d2 (l1 _ hz) ?_ l2 fun q hq => Nat.lt_trans (l1 q hq) l2
    obtain ⟨o, ho⟩ := hI
    exact Nat.ne_of_gt (l1 _ ho)
  · obtain ⟨own, rest, hn, hgr, _, _⟩ := U.split
    have hmem : (P, tabObj (ps0 ++ #[rawInt pos.line, rawInt pos.col, .ref c'])) ∈ news := by rw [hn]; simp
    refine kla_hit F N T C hcd hmem (ht2 c') (hf c') hcl fun f ctv h' tk F' N' l1 => h f c' oc vs t ctv h' tk F' (fun q hq => ?_) hd hv hLO ?_ (l1 (c', oc) (hmid _ List.mem_cons_self)) l1
    · rcases List.mem_cons.mp hq with rfl | hq
      · exact N' _ List.mem_cons_self
      · refine N' q (List.mem_cons_of_mem _ ?_)
        rcases List.mem_cons.mp hq with rfl | hq
        · exact hmid _ List.mem_cons_self
        · rw [hgr, ← hn] at hq
          exact hq
    · exact hoff (c', oc) List.mem_cons_self
end
end

section
open PySem PySem.W PyProof.Rows PySem.Spec PySem.Calls
theorem forall_cons {α : Type} {P : α → Prop} {a : α} {l : List α} (h1 : P a) (h2 : ∀ x ∈ l, P x) : ∀ x ∈ a :: l, P x := List.forall_mem_cons.mpr ⟨h1, h2⟩
theorem news_sub {g h : Heap} {L : Addr} {all l : List (Addr × Obj)} (N : News g L h all) (k : SubL l all) : News g L h l := fun q hq => N q (SubL.mem k q hq)
theorem wordsRmx1 : True := by
  k_with_none
  w_top off
  k_with "my k_all" => (with_reducible assumption)
  k_with "exec Raise some none" => ((k_here; (with_reducible show wpAny _ _ (exec (Stmt.Raise (some _) none _) _) _ _ _); k_dflt (refine exec_raise ?qhh0 ?_; (case qhh0 => first | rfl | assumption))))
  k_with "call ref" => ((k_here; (with_reducible show wpAny _ _ (call (Value.ref _) [Value.str _ _]) (fun v s₁ => Rd s₁ v ∧ _) _ _); k_dflt (refine' exc_rd (t := _) ?qhX ?qhhh ?qhhd ?qhhu ?qhhC ?_; (case qhhC => first | exact Or.inl rfl | exact Or.inr rfl); (case qhX => k_in); (case qhhh => first | rfl | assumption); (case qhhd => walk_at "my room"); (case qhhu => walk_at "my room"); k_whole); intro h' e' tk' x'))
  k_with "my room" => (first
  | exact Nat.le_of_ble_eq_true rfl
  | ((try simp only [depth_mark, depth_under_make, depth_under_kw, depth_in1, depth_deeper, units_in1, units_deeper, Around.mark_units, units_caller, ktrTop]); omega))
  k_with "leaving ref" => ((k_here; (with_reducible show wpAny _ _ (leaving _ (Value.ref _)) _ _ _); first
  | (k_dflt (refine' leave_newX ?qhk1 ?qhk0 ?qhk2 ?qhk3 ?qhkf ?qhkk ?_; (case qhk0 => assumption); (case qhk2 => assumption); (case qhk1 => assumption); (case qhk3 => k_asm); (case qhkf => exact rfl); (case qhkk => exact rfl); k_whole); intro h' R' U'; (try dsimp only at R' U' ⊢))
  | (k_dflt (refine' leave_onX ?qhk1 ?qhk2 ?qhk3 ?qhk4 ?qhkf ?_; (case qhk3 => assumption); (case qhk2 => assumption); (case qhk1 => assumption); (case qhk4 => assumption); (case qhkf => exact rfl); k_whole); intro h' R' U'; (try dsimp only at R' U' ⊢))))
  k_with "call ref" => ((k_here; (with_reducible show wpAny _ _ (call (Value.ref 253) _) _ _ _); k_dflt (refine wpAny_call ?_; refine' enterS ?qhk1 ?qhk2 ?qhk3 ?qhk4 ?qhk5 ?qhXB ?qhTB ?qhD ?qhT0 ?qhkA ?qhkf ?qhkK ?qhk6 ?qhk7 ?qhk8 ?qhk9 ?qhkB ?_ ?qhc2 ?qhc3 ?qhc4 ?qhc5; (case qhkA => exact rfl); (case qhkf => exact rfl); (case qhkK => exact rfl); (case qhk1 => k_asm); (case qhk2 => k_asm); (case qhk3 => k_asm); (case qhk4 => k_asm); (case qhk5 => k_asm); (case qhXB => with_reducible assumption); (case qhTB => with_reducible assumption); (case qhD => first | with_reducible assumption | assumption); (case qhT0 => first | assumption | exact KtsTurn.refl); (case qhk6 => k_is); (case qhk7 => k_is); (case qhk8 => ktr_room); (case qhk9 => exact BindsTo.of_eq rfl); (case qhkB => exact locs rfl); (case qhc2 => exact rfl); (case qhc3 => exact rfl); (case qhc4 => exact rfl); (case qhc5 => decide); k_whole; intro g' L' h' FG' F' N' B' X' T' D'; (try dsimp only); (try k_lift B'); (try k_fold))))
  k_with "call ref" => ((k_here; (with_reducible show wpAny _ _ (call (Value.ref 239) _) _ _ _); k_dflt (refine' take_u ?qhk1 ?qhk2 ?qhk3 ?qhk4 ?qhk5 ?qhU ?qhkK ?qha0 ?qhb0 ?qhb1 ?qht0 ?qht1 ?qhkd ?qhku ?_; (case qhk1 => k_asm); (case qhk2 => k_asm); (case qhk3 => k_asm); (case qhk4 => k_asm); (case qhU => k_updF); (case qhk5 => k_asm); (case qhkK => first | exact rfl | assumption); (case qha0 => first | assumption | omega); (case qhb0 => first | assumption | omega); (case qhb1 => first | assumption | omega); (case qht0 => omega); (case qht1 => omega); (case qhkd => ktr_room); (case qhku => walk_at "my units"); k_whole); intro v' a' b' t' ta' tb' h' tk' hv0 hv1 ha' hb' hb1' F' ol' N'; (try dsimp only at N'); (try k_sweep)))
  k_with "my units" => (first | exact Nat.lt_of_succ_le (Nat.le_of_ble_eq_true rfl) | ((try simp only [cLine, units_in1, units_deeper, Around.mark_units, units_caller, ktrTop]); omega) | ktr_units)
  k_with "my enterC0" => ((refine' enterC0 ?qhk1 ?qhk2 ?qhk3 ?qhk4 ?qhk5 ?qhkA ?qhkf ?qhkK ?qhk6 ?qhk7 ?qhk8 ?qhk9 ?qhkB ?qhkD ?_ ?qhc2 ?qhc3 ?qhc4; (case qhkA => exact rfl); (case qhkf => exact rfl); (case qhkK => first | exact rfl | assumption); (case qhk1 => k_asm); (case qhk2 => k_asm); (case qhk3 => k_asm); (case qhk4 => k_asm); (case qhk5 => k_asm); (case qhk6 => k_is); (case qhk7 => k_is); (case qhk8 => ktr_room); (case qhk9 => exact BindsTo.of_eq rfl); (case qhkB => exact rfl); (case qhkD => decide +kernel); (case qhc2 => exact rfl); (case qhc3 => exact rfl); (case qhc4 => exact rfl); k_whole; intro g' L' h' tk' cells' FG' F' N' Y' B' X' T' D' l1; (try k_lt l1); k_cells Y'; (try simp only [List.cons_append, List.nil_append] at N'); (try dsimp only); (try k_lift B'); (try k_fold)))
  k_with "my k_room" => (ktr_room)
  k_with "callWith ref" => ((k_here; k_dflt (refine' callWith_K ?qhk1 ?qhk2 ?_; (case qhk1 => k_asm); (case qhk2 => k_is); k_whole)))
  k_with "my mem" => (first | with_reducible apply List.mem_cons_self | (with_reducible apply List.mem_cons_of_mem; walk_at "my mem"))
  k_with "my memD" => (first | apply List.mem_cons_self | (with_reducible apply List.mem_cons_of_mem; walk_at "my memD"))
  k_with "my all" => (first | with_reducible assumption | with_reducible apply List.forall_mem_nil | (with_reducible apply forall_cons; (k_ne); (walk_at "my all")))
  k_with "call type:bytes" => ((k_here; (with_reducible show wpAny _ _ (call (Value.type "bytes") [Value.bytes _ _]) _ _ _); k_dflt (refine call_bytes_bytes ?_)))
  k_with "call type:bytes" => ((k_here; (with_reducible show wpAny _ _ (call (Value.type "bytes") [Value.int _ _]) _ _ _); k_dflt (refine' call_bytes_int ?qhh0 ?qhh1 ?_; (case qhh0 => omega); (case qhh1 => omega); k_whole); intro _ _ _ _ hz' hzl' hzr'))
  k_with "my fold" => (((fail_if_success (with_reducible show wpAny _ _ _ qk _ _)); first | ((with_reducible show wpAny _ _ _ _ ek _); refine fold_q ?_; k_dflt (intro qk)) | (refine fold_wp ?_; k_dflt (intro qk ek))))
  trivial
abbrev roomsBase (A : Addr) (oA oB : Obj) (src : Addr) (a1 b1 : Int) (ta tb : Tok) (n : Nat) (t1 t2 t3 t4 : Array Value) : List (Addr × Obj) :=
  [(A + 1 + 1, oA), (A + 1, oB), (src, listOf #[.int a1 ta, .int b1 tb] n), (255, tabObj t1), (281, tabObj t2), (288, tabObj t3), (295, tabObj t4)]
theorem map_norm {x1 x2 : Str} {v1 v2 u1 u2 : Option Value} {r : Str → Option Value} : (fun y => if y = x1 then v1 else if y = x2 then v2 else if y = x1 then u1 else if y = x2 then u2 else r y) = fun y => if y = x1 then v1 else if y = x2 then v2 else r y := by
  funext y
  by_cases h1 : y = x1 <;> by_cases h2 : y = x2 <;> simp [h1, h2]
theorem map_start {x1 x2 x3 : Str} {v : Option Value} (h1 : x1 ≠ x3) (h2 : x2 ≠ x3) : (fun y => if y = x3 then v else none) = fun y => if y = x1 then none else if y = x2 then none else if y = x3 then v else none := by
  funext y
  by_cases a : y = x1
  · subst a; simp [h1]
  · by_cases b : y = x2
    · subst b; simp [h2]
    · simp [a, b]
abbrev roomsMap (src : Addr) (u1 u2 : Option Value) : Str → Option Value := fun y => if y = Str.ofString "eights" then u1 else if y = Str.ofString "turn" then u2 else if y = Str.ofString "source" then some (.ref src) else none
def RoomsJ (L' src n : Nat) (t2 t3 t4 : Array Value) (i : Nat) (m : Str → Option Value) (news : List (Addr × Obj)) : Prop :=
  ∃ u1 u2, m = roomsMap src u1 u2 ∧ ∃ oA oB vA vB a1 b1 ta tb ps mid, oA.data = .cell vA ∧ oB.data = .cell vB ∧ 0 ≤ a1 ∧ 0 ≤ b1 ∧ b1 < 2147483647 ∧
    LamSt (Str.ofString "_law_rooms_right.<locals>.<lambda>") 174 0 #[] (L' + 1 + 1) i ps mid ∧ news = roomsBase L' oA oB src a1 b1 ta tb n ps t2 t3 t4 ++ mid
theorem rooms_end {L I src L' n : Nat} {it : Obj} {s₁ : Shared} {G : Heap → Prop} {Q : Flow → Shared → Prop} {g h : Heap} {tk : Nat} {m' : Str → Option Value} {all : List (Addr × Obj)} {u1 u2 : Option Value} {oA oB oc : Obj} {vA vB : Option Value} {a1 b1 : Int} {ta tb tq : Tok} {c : Addr} {vs : Array Value} {t2 t3 t4 : Array Value} {i : Nat} {tab : Array Value}
    (F : Fr g L h m') (N : News g L h all) (hm : m' = roomsMap src u1 u2) (j : G g) (mI : (I, it) ∈ all) (mc : (c, oc) ∈ all) (m1 : (L' + 1 + 1, oA) ∈ all) (m2 : (L' + 1, oB) ∈ all) (m3 : (src, listOf #[.int a1 ta, .int b1 tb] n) ∈ all)
    (m4 : (255, tabObj tab) ∈ all) (ht : tab = #[rawInt 174, rawInt 0, .ref c]) (m5 : (281, tabObj t2) ∈ all) (m6 : (288, tabObj t3) ∈ all) (m7 : (295, tabObj t4) ∈ all)
    (dA : oA.data = .cell vA) (dB : oB.data = .cell vB) (ha : 0 ≤ a1) (hb : 0 ≤ b1) (hb' : b1 < 2147483647) (x1 : oc.data = .fields vs) (x2 : vs[1]? = some (.str (Str.ofString "_law_rooms_right.<locals>.<lambda>") tq)) (x3 : Und (L' + 1 + 1) c)
    (off : ∀ q ∈ roomsBase L' oA oB src a1 b1 ta tb n #[rawInt 174, rawInt 0, .ref c] t2 t3 t4, q.1 ≠ I) (off2 : Dif c I) :
    TurnT L I it s₁ (fun g m news => G g ∧ RoomsJ L' src n t2 t3 t4 (i + 1) m news) Q .next { s₁ with heap := h, toks := tk } := by
  subst ht
  refine ⟨h, tk, g, m', roomsBase L' oA oB src a1 b1 ta tb n #[rawInt 174, rawInt 0, .ref c] t2 t3 t4 ++ [(c, oc)], rfl, F, news_sub N ⟨mI, m1, m2, m3, m4, m5, m6, m7, mc, trivial⟩, fun q hq => ?_, j, u1, u2, hm, oA, oB, vA, vB, a1, b1, ta, tb, _, _, dA, dB, ha, hb, hb', .inr ⟨Nat.succ_pos _, c, oc, vs, tq, rfl, rfl, x1, x2, x3⟩, rfl⟩
  rcases List.mem_append.mp hq with hq | hq
  · exact off q hq
  · rcases List.mem_cons.mp hq with rfl | hq
    · exact off2
    · exact absurd hq List.not_mem_nil
theorem rooms_ret {Q : Value → Shared → Prop} {h₀ : Heap} {L src n : Nat} {m : Str → Option Value} {t2 t3 t4 : Array Value} {s : Shared}
    (hret : ∀ (a1 b1 : Int) (ta tb : Tok) (h' : Heap) (tk' : Nat) (t1 : Array Value), 0 ≤ a1 → 0 ≤ b1 → b1 < 2147483647 → Fr h₀ L h' m →
      News h₀ L h' [(src, listOf #[.int a1 ta, .int b1 tb] n), (255, tabObj t1), (281, tabObj t2), (288, tabObj t3), (295, tabObj t4)] → Q (.bool true) { s with heap := h', toks := tk' })
    {a1 b1 : Int} {ta tb : Tok} {h' : Heap} {tk' : Nat} {t1 : Array Value} {all : List (Addr × Obj)} (F : Fr h₀ L h' m) (N : News h₀ L h' all)
    (m3 : (src, listOf #[.int a1 ta, .int b1 tb] n) ∈ all) (m4 : (255, tabObj t1) ∈ all) (m5 : (281, tabObj t2) ∈ all) (m6 : (288, tabObj t3) ∈ all) (m7 : (295, tabObj t4) ∈ all)
    (ha : 0 ≤ a1) (hb : 0 ≤ b1) (hb' : b1 < 2147483647) : Q (.bool true) { s with heap := h', toks := tk' } :=
  hret a1 b1 ta tb h' tk' t1 ha hb hb' F (news_sub N ⟨m3, m4, m5, m6, m7, trivial⟩)
theorem wordsRmx2 : True := by
  k_with "rooms end" => ((refine' rooms_end ?qhF ?qhN map_norm ⟨?qhj1, ?qhj2, ?qhj3, ?qhj4, ?qhj5⟩ ?qhmI ?qhmc ?qhm1 ?qhm2 ?qhm3 ?qhm4 ?qhht ?qhm5 ?qhm6 ?qhm7 ?qhdA ?qhdB ?qhha ?qhhb ?qhhb' ?qhx1 ?qhx2 ?qhx3 ?qhoff ?qhoff2; (case qhF => assumption); (case qhN => assumption); (case qhm4 => walk_at "my mem"); (case qhht => rfl); (case qhm1 => walk_at "my mem"); (case qhm2 => walk_at "my mem"); (case qhm3 => walk_at "my mem"); (case qhm5 => walk_at "my mem"); (case qhm6 => walk_at "my mem"); (case qhm7 => walk_at "my mem"); (case qhmc => walk_at "my mem"); (case qhmI => walk_at "my mem"); (case qhj1 => with_reducible assumption); (case qhj2 => with_reducible assumption); (case qhj3 => with_reducible assumption); (case qhj4 => with_reducible assumption); (case qhj5 => with_reducible assumption); (case qhdA => with_reducible assumption); (case qhdB => with_reducible assumption); (case qhha => with_reducible assumption); (case qhhb => with_reducible assumption); (case qhhb' => with_reducible assumption); (case qhx1 => with_reducible assumption); (case qhx2 => assumption); (case qhx3 => with_reducible assumption); (case qhoff2 => with_reducible assumption); (case qhoff => walk_at "my all")))
  k_with "my on" => (skip)
  k_with "my each" => (first | ((with_reducible show Each _ _ (List.cons _ _)); k_dflt (intro _); walk_at "my each") | ((with_reducible show Each _ _ List.nil); refine each_nil ?_) | skip)
  k_with "my eachN" => (first | ((with_reducible show EachN _ _ (List.cons _ _)); k_dflt (intro _); walk_at "my eachN") | ((with_reducible show EachN _ _ List.nil); refine eachN_nil ?_) | skip)
  k_with "my und" => ((first | (first | with_reducible assumption | with_reducible exact Und.self | with_reducible exact Nxt.und (by assumption) | (with_reducible refine Und.trans ?_ (by assumption); with_reducible assumption)) | (with_reducible refine Nxt.und2 (by assumption) ?_; (first | with_reducible assumption | with_reducible exact Und.self | with_reducible exact Nxt.und (by assumption) | (with_reducible refine Und.trans ?_ (by assumption); with_reducible assumption))) | (first | with_reducible assumption | with_reducible exact Und.self | with_reducible exact Nxt.und (by assumption) | (with_reducible refine Und.up ?_; (first | with_reducible assumption | with_reducible exact Und.self | with_reducible exact Nxt.und (by assumption) | (with_reducible refine Und.up ?_; (first | with_reducible assumption | with_reducible exact Und.self | with_reducible exact Nxt.und (by assumption) | (with_reducible refine Und.up ?_; (first | with_reducible assumption | with_reducible exact Und.self | with_reducible exact Nxt.und (by assumption) | (with_reducible refine Und.up ?_; (first | with_reducible assumption | with_reducible exact Und.self | with_reducible exact Nxt.und (by assumption) | (with_reducible refine Und.up ?_; (first | with_reducible assumption | with_reducible exact Und.self | with_reducible exact Nxt.und (by assumption) | (with_reducible refine Und.up ?_; (first | with_reducible assumption | with_reducible exact Und.self | with_reducible exact Nxt.und (by assumption) | (with_reducible refine Und.up ?_; (first | with_reducible assumption | with_reducible exact Und.self | with_reducible exact Nxt.und (by assumption) | (with_reducible refine Und.up ?_; (first | with_reducible assumption | with_reducible exact Und.self | with_reducible exact Nxt.und (by assumption))))))))))))))))))))
  k_with "my le" => (((try dsimp only); first | exact Nat.le_refl _ | exact Und.le2 (by with_reducible assumption) | exact Und.le (by walk_at "my und")))
  k_with "my ne" => (((try dsimp only); first | exact Und.ne (by with_reducible assumption) | exact Und.ne2 (by with_reducible assumption) | exact Dif.ne (by with_reducible assumption) | exact Dif.ne2 (by with_reducible assumption) | exact Nat.ne_of_beq_eq_false rfl | with_reducible assumption | exact Ne.symm (by with_reducible assumption) | exact Und.ne (by walk_at "my und") | exact Und.ne2 (by walk_at "my und")))
  k_with "my eachA" => (first | ((with_reducible show Each _ _ (List.cons _ _)); k_dflt (intro _); walk_at "my eachA") | ((with_reducible show Each _ _ List.nil); refine each_nil ?_) | skip)
  k_with "my ltall" => (((refine each_of l1 ?_); (walk_at "my eachA"); (try (with_reducible show Each _ _ _); first | refine each_drop (by with_reducible assumption) (fun _ hq' => l1 _ (by repeat (first | with_reducible exact hq' | with_reducible apply List.mem_cons_of_mem))) ?_ | (refine each_tail (fun _ hq' => l1 _ (by repeat (first | with_reducible exact hq' | with_reducible apply List.mem_cons_of_mem))) ?_; k_dflt (intro _))); clear l1))
  k_with "my each" => (first | ((with_reducible show Each _ _ (List.cons (OfNat.ofNat _, _) _)); refine each_skip ?_; walk_at "my each") | ((first | with_reducible show Each _ _ (List.cons (_ + 1 + 1, _) _) | with_reducible show Each _ _ (List.cons (I', _) _) | with_reducible show Each _ _ (List.cons (I, _) _)); k_dflt (intro _); walk_at "my each") | ((with_reducible show Each _ _ (List.cons _ _)); refine each_skip ?_; walk_at "my each") | ((with_reducible show Each _ _ List.nil); refine each_nil ?_) | skip)
  k_with "exec Assign" => (k_fold)
  k_with "exec If" => (k_fold)
  k_with "exec Return some" => (k_fold)
  k_with "eval Call" => (k_fold)
  k_with "eval Lambda" => ((k_here; k_dflt (refine' kla_eval ?qhd0 ?_; (case qhd0 => exact rfl); refine' kla_any ?qhS ?qhF ?qhN ?qhhmid ?qhT ?qhC ?qhcd ?qhU ?qht ?qhn ?qhtt ?qhnn ?qhcl ?qhhz ?qhhI ?qhhoff ?_; (case qhS => assumption); (case qhF => k_asm); (case qhN => k_asm); (case qhhmid => intro _ hq'; repeat (first | with_reducible exact hq' | exact hmr _ hq' | with_reducible apply List.mem_cons_of_mem)); (case qhT => k_asm); (case qhcd => exact rfl); (case qhC => kn_code); (case qhU => k_updF); (case qht => kn_triples); (case qhn => kn_among); (case qhtt => exact fun _ => by kn_triples); (case qhnn => exact fun _ => by kn_hit); (case qhcl => exact rfl); (case qhhoff => assumption); (case qhhI => exact ⟨_, by walk_at "my mem"⟩); (case qhhz => walk_at "my mem"); k_whole); intro f' c' oc' vs' t' ct' h' tk' F' N' d1' d2' l2 l3 l4 l1; (try dsimp only at N'); (try k_lt l1); (try k_sweep)))
  trivial
theorem rooms_c : ∀ (w : World) (p : Program) (loose : List Str) (mean : ExcName → Option Value) (mg mb : Str → Option Value) (dp un : Nat) (gd : Option (List Code)) (cn : Str) (cs : Scope) (a : Addr) (ccd : Value) (cl : List (Str × Addr)) (A₀ : Around) (base h₀ : Heap) (L : Addr) (m : Str → Option Value) (s : Shared) (Q E : Value → Shared → Prop)
    (src : Addr) (a0 b0 : Int) (ta tb : Tok) (n : Nat) (t2 t3 t4 : Array Value),
    Below A₀ base [] h₀ → Fr h₀ L s.heap m → (hd.heap_1 w.params).In h₀ → (hd.heap_1 w.params).In base → Top p loose mean mg mb base → CodeHd base 259 255 →
    News h₀ L s.heap [(src, listOf #[.int a0 ta, .int b0 tb] n), (255, tabObj #[]), (281, tabObj t2), (288, tabObj t3), (295, tabObj t4)] → Top p loose mean mg mb h₀ → cs.kind = .function →
    295 < src → 0 ≤ a0 → 0 ≤ b0 → b0 < 2147483647 → dp + 20 < 800 → un + 90 < 9000 →
    (∀ (a1 b1 : Int) (ta tb : Tok) (h' : Heap) (tk' : Nat) (t1 : Array Value), 0 ≤ a1 → 0 ≤ b1 → b1 < 2147483647 → Fr h₀ L h' m →
      News h₀ L h' [(src, listOf #[.int a1 ta, .int b1 tb] n), (255, tabObj t1), (281, tabObj t2), (288, tabObj t3), (295, tabObj t4)] → Q (.bool true) { s with heap := h', toks := tk' }) →
    wpAny (model PySem.Challenge.rw_on0340_01.row.prog w) (ktrTop dp un gd cn cs L a ccd cl []) (call (.ref 260) [.ref src]) Q E s := by
  k_fill
  intro w p loose mean mg mb dp un gd cn cs a ccd cl A₀ base h₀ L m s Q E src a0 b0 ta tb n t2 t3 t4 B F X XB TB C9 N T hk hs ha0 hb0 hb1 hdp hun hret
  have v1 : Und 288 src := Nat.lt_trans (m := 295) (by decide) hs
  have v2 : Und 281 src := Nat.lt_trans (m := 295) (by decide) hs
  have v3 : Und 255 src := Nat.lt_trans (m := 295) (by decide) hs
  k_lt2 hs
  refine wpAny_call ?_
  w_strict (k_dflt (refine' enterC0 ?k1 ?k2 ?k3 ?k4 ?k5 ?kA ?kf ?kK ?k6 ?k7 ?k8 ?k9 ?kB ?kD ?_ ?c2 ?c3 ?c4; (case kA => exact rfl); (case kf => exact rfl); (case kK => first | exact rfl | assumption); (case k1 => k_asm); (case k2 => k_asm); (case k3 => k_asm); (case k4 => k_asm); (case k5 => k_asm); (case k6 => k_is); (case k7 => k_is); (case k8 => ktr_room); (case k9 => exact BindsTo.of_eq rfl); (case kB => exact rfl); (case kD => decide +kernel); (case c2 => exact rfl); (case c3 => exact rfl); (case c4 => exact rfl)))
  intro g' L' h1 tk1 cells' FG' F1 N1 Y' B1 X1 T1 D1 l1
  walk_at "my ltall"
  have e0 : Und (255) (L' + 1 + 1) := by walk_at "my und"
  have e1 : Und (281) (L' + 1 + 1) := by walk_at "my und"
  have e2 : Und (288) (L' + 1 + 1) := by walk_at "my und"
  have e3 : Und (295) (L' + 1 + 1) := by walk_at "my und"
  have e4 : Und (src) (L' + 1 + 1) := by walk_at "my und"
  have e5 : Und (L' + 1) (L' + 1 + 1) := by walk_at "my und"
  have hY := CellsAre.two Y'
  obtain ⟨oA, oB, hE', dA, dB⟩ := hY
  subst hE'
  clear Y'
  simp only [List.cons_append, List.nil_append] at N1
  k_lift B1
  dsimp only
  walk1
  refine for_rangeT (J := fun i g m news => JG (ktrTop dp un gd cn cs L a ccd cl []) base [envX cn cs L a ccd cl] (hd.heap_1 w.params) p loose mean mg mb g' g ∧ RoomsJ L' src n t2 t3 t4 i m news) rfl rfl (by passes_own) (fun _ => rfl) rfl ?_
  k_steps
  refine ⟨_, 0, 4, _, _, _, 4, _, _, _, rfl, by assumption, by decide, by decide, by assumption, by assumption, ⟨⟨KtsTurn.refl, B1, X1, T1, D1⟩, none, none, map_start (by decide) (by decide), oA, oB, _, _, a0, b0, ta, tb, _, _, dA, dB, ha0, hb0, hb1, LamSt.start, rfl⟩, ?turn, ?done⟩
  case turn =>
    intro I i g m1 news1 t h tk hi hJ off F' N'
    refine foldP ?_
    intro P9
    obtain ⟨⟨T0, B', X', T', D'⟩, u1, u2, e91, oA, oB, vA, vB, a1, b1, ta1, tb1, ps, mid, dA, dB, ha1, hb1, hb2, S0, e92⟩ := hJ
    k_unfold
    clear P9
    subst e91
    subst e92
    have o1 := neN (off _ (by simp : (L' + 1 + 1, oA) ∈ _))
    have o2 := neN (off _ (by simp : (L' + 1, oB) ∈ _))
    have o3 := neN (off (src, listOf #[.int a1 ta1, .int b1 tb1] n) (by simp))
    have o4 := neN (off (255, tabObj ps) (by simp))
    have o5 := neN (off (281, tabObj t2) (by simp))
    have o6 := neN (off (288, tabObj t3) (by simp))
    have o7 := neN (off (295, tabObj t4) (by simp))
    have w2 : ∀ q ∈ mid, q.1 ≠ src := S0.ne (Und.le e4)
    have w3 : ∀ q ∈ mid, q.1 ≠ 255 := S0.ne (Und.le e0)
    have w4 : ∀ q ∈ mid, q.1 ≠ L' + 1 := S0.ne (Und.le e5)
    have w5 : ∀ q ∈ mid, q.1 ≠ L' + 1 + 1 := S0.ne (Nat.le_refl _)
    have w1 : ∀ q ∈ mid, q.1 ≠ I := fun q hq => off q (List.mem_append_right _ hq)
    clear off
    dsimp only at o1 o2 o3 o4 o5 o6 o7
    simp only [roomsBase, List.cons_append, List.nil_append] at N'
    k_lift B'
    (try dsimp only)
    (try k_fold)
    k_steps
    · walk_at "rooms end"
    · exact absurd (Int.mul_comm _ _) (by assumption)
    · walk_at "rooms end"
  case done =>
    intro g m1 news1 h tk hJ F' N'
    refine foldP ?_
    intro P9
    obtain ⟨⟨T0, B', X', T', D'⟩, u1, u2, e91, oA, oB, vA, vB, a1, b1, ta1, tb1, ps, mid, dA, dB, ha1, hb1, hb2, S0, e92⟩ := hJ
    k_unfold
    clear P9
    subst e91
    subst e92
    rcases S0 with ⟨h0, _⟩ | ⟨_, c, oc, vs, tq, rfl, rfl, hoc, hvs, hLc⟩
    · exact absurd h0 (by decide)
    · have u1 : Und (L' + 1 + 1) c := Und.of hLc
      simp only [roomsBase, List.cons_append, List.nil_append] at N'
      k_lift B'
      (try dsimp only)
      (try k_fold)
      k_steps
      refine' rooms_ret hret ?F ?N ?m3 ?m4 ?m5 ?m6 ?m7 ?ha ?hb ?hb'
      (case F => assumption); (case N => assumption)
      (case m3 => walk_at "my mem"); (case m4 => walk_at "my memD"); (case m5 => walk_at "my mem"); (case m6 => walk_at "my mem"); (case m7 => walk_at "my mem")
      (case ha => with_reducible assumption); (case hb => with_reducible assumption); (case hb' => with_reducible assumption)
end

section
open PySem PySem.W PyProof.Rows PySem.Spec PySem.Calls
def Six (x0 x1 x2 x3 x4 x5 : Int) : Prop := (0 ≤ x0 ∧ x0 < 4294967296) ∧ (0 ≤ x1 ∧ x1 < 4294967296) ∧ (0 ≤ x2 ∧ x2 < 256) ∧ (0 ≤ x3 ∧ x3 < 65536) ∧ (0 ≤ x4 ∧ x4 < 256) ∧ (0 ≤ x5 ∧ x5 < 256)
section
variable {prog : Program} {w : World} {A : Around} {E : Value → Shared → Prop} {s : Shared} {env : Env} {target : Expr} {body : List Stmt} {Q : Flow → Shared → Prop}
/-- the end of a turn of a loop over a written row; the ground may have turned -/
def SeqEnd (L I : Addr) (it : Obj) (lp : Addr × Obj) (s₁ : Shared) (rest : Heap → (Str → Option Value) → List (Addr × Obj) → Prop) (s' : Shared) : Prop :=
  ∃ h tk g m news, s' = { s₁ with heap := h, toks := tk } ∧ Fr g L h m ∧ News g L h ((I, it) :: news) ∧ lp ∈ news ∧ (∀ q ∈ news, q.1 ≠ I) ∧ rest g m news
def SeqPost (L I : Addr) (it : Obj) (lp : Addr × Obj) (s₁ : Shared) (rest : Heap → (Str → Option Value) → List (Addr × Obj) → Prop) (Q : Flow → Shared → Prop) (f : Flow) (s' : Shared) : Prop :=
  match f with
  | .ret v => Q (.ret v) s'
  | .brk => Q .next s'
  | _ => SeqEnd L I it lp s₁ rest s'
def SeqRest (prog : Program) (w : World) (A : Around) (E : Value → Shared → Prop) (env : Env) (target : Expr) (body : List Stmt) (Q : Flow → Shared → Prop) (s₁ : Shared) (I : Addr) (T : String) (lp : Addr × Obj) : List Value → Heap → (Str → Option Value) → List (Addr × Obj) → Prop
  | [], g, m, news => ∀ h tk, Fr g env.locals h m → News g env.locals h news → Q .next { s₁ with heap := h, toks := tk }
  | v :: r, g, m, news => ∀ (it : Obj) h tk, it.cls = .type T → Fr g env.locals h m → News g env.locals h ((I, it) :: news) →
      wpAny (model prog w) A (assign target env v) (fun _ s₂ => wpAny (model prog w) A (execs body env) (SeqPost env.locals I it lp s₁ (SeqRest prog w A E env target body Q s₁ I T lp r) Q) E s₂) E { s₁ with heap := h, toks := tk }
theorem seq_core {H : Heap} {I ax : Addr} {T : String} {lo : Obj} {vs : List Value} {g : Heap} {m : Str → Option Value} {news : List (Addr × Obj)} {St : Nat → Heap → Prop}
    (W : Walks prog w A I [I, ax] [I] vs.length (fun i v => vs.toArray[i]? = some v) St) (hne : ax ≠ I) (hLI : env.locals ≠ I) (hE : PassesOwn (model prog w) A env E)
    (hit : ∀ i h, St i h → ∃ o, h.get? I = some o ∧ o.cls = .type T) (hst : ∀ i h h', St i h → h'.get? I = h.get? I → h'.get? ax = some lo → St i h')
    (hgo : ∀ i (s' : Shared) v (Q' : Unit → Shared → Prop) (E' : Value → Shared → Prop), St i s'.heap → Q' () s' → wpAny (model prog w) A (letOwnedTupleGo target (.ref I) v) Q' E' s')
    (F : Fr g env.locals H m) (N : News g env.locals H news) (hm : (ax, lo) ∈ news) (hI₀ : g.get? I = none) (off : ∀ q ∈ news, q.1 ≠ I) (st : St 0 H)
    (rest : SeqRest prog w A E env target body Q s I T (ax, lo) vs g m news) :
    codeAny (model prog w) A (.forLoop target (.ref I) body [] env) (fun r s' => match r with | .ok f => Q f s' | .error e => cameBackBy (model prog w) A env E e s') { s with heap := H } := by
  refine codeAny_forLoop_any (fun k s' => ∃ h tk i g m news, s' = { s with heap := h, toks := tk } ∧ i ≤ vs.length ∧ k = vs.length + 1 - i ∧ St i h ∧ Fr g env.locals h m ∧ News g env.locals h news ∧ (ax, lo) ∈ news ∧ g.get? I = none ∧ (∀ q ∈ news, q.1 ≠ I) ∧
    SeqRest prog w A E env target body Q s I T (ax, lo) (vs.drop i) g m news) ?_ (vs.length + 1) ⟨H, s.toks, 0, g, m, news, rfl, Nat.zero_le _, rfl, st, F, N, hm, hI₀, off, by rw [List.drop_zero]; exact rest⟩
  intro n s' hh9
  refine foldP ?_
  intro P9
  obtain ⟨h, tk, i, g, m, news, e91, hi, e92, st, F, N, hm, hI₀, off, rest⟩ := hh9
  k_unfold
  clear P9
  subst e91
  subst e92
  by_cases hlt : i < vs.length
  · refine W.item i _ _ _ hlt st fun v h2 tk2 hv st2 hk2 => ?_
    have hv' : vs[i]? = some v := by simpa using hv
    have hdrop : vs.drop i = v :: vs.drop (i + 1) := by
      rw [List.drop_eq_getElem_cons hlt]
      congr 1
      exact Option.some.inj ((List.getElem?_eq_getElem hlt).symm.trans hv')
    rw [hdrop] at rest
    have k2 : ∀ b o, b ≠ I → h.get? b = some o → h2.get? b = some o := fun b o hb e => hk2 b o (by simpa using hb) e
    have F2 : Fr g env.locals h2 m := ⟨F.ns.at' fun o e => k2 _ o hLI e, fun b o e => k2 b o (fun q => by rw [q, hI₀] at e; cases e) (F.keep b o e), F.above⟩
    obtain ⟨oI, eI, cI⟩ := hit _ _ st2
    have N2 : News g env.locals h2 ((I, oI) :: news) := fun q hq => by
      rcases List.mem_cons.mp hq with rfl | hq
      · exact ⟨eI, Ne.symm hLI, hI₀⟩
      · exact ⟨k2 _ _ (off q hq) (N q hq).1, (N q hq).2⟩
    refine hgo (i + 1) _ v _ _ st2 ?_
    refine wpAny_mono (rest oI h2 tk2 cI F2 N2) (fun _ s3 h3 => wpAny_passesOwn hE (wpAny_mono h3 (fun f s6 h6 => ?_) fun _ _ e => e)) hE
    have fin : SeqEnd env.locals I oI (ax, lo) s (SeqRest prog w A E env target body Q s I T (ax, lo) (vs.drop (i + 1))) s6 →
        ∃ k, k < vs.length + 1 - i ∧ ∃ h tk i g m news, s6 = { s with heap := h, toks := tk } ∧ i ≤ vs.length ∧ k = vs.length + 1 - i ∧ St i h ∧ Fr g env.locals h m ∧ News g env.locals h news ∧ (ax, lo) ∈ news ∧ g.get? I = none ∧ (∀ q ∈ news, q.1 ≠ I) ∧
          SeqRest prog w A E env target body Q s I T (ax, lo) (vs.drop i) g m news := by
      intro hh9
      refine foldP ?_
      intro P9
      obtain ⟨h7, tk7, g7, m7, news7, e91, F7, N7, hm7, off7, r7⟩ := hh9
      k_unfold
      clear P9
      subst e91
      have zI := N7 (I, oI) List.mem_cons_self
      have zX := N7 (ax, lo) (List.mem_cons_of_mem _ hm7)
      exact ⟨vs.length + 1 - (i + 1), by omega, h7, tk7, i + 1, g7, m7, news7, rfl, hlt, rfl, hst _ _ _ st2 (zI.1.trans eI.symm) zX.1, F7, fun q hq => N7 q (List.mem_cons_of_mem _ hq), hm7, zI.2.2, off7, r7⟩
    cases f with
    | ret v => exact h6
    | brk => exact h6
    | next => exact fin h6
    | cont => exact fin h6
  · obtain rfl : i = vs.length := Nat.le_antisymm hi (Nat.not_lt.mp hlt)
    refine W.done _ _ _ st fun h2 tk2 hk2 => wpAny_execs_nil ?_
    have k2 : ∀ b o, b ≠ I → h.get? b = some o → h2.get? b = some o := fun b o hb e => hk2 b o (by simpa using hb) e
    rw [List.drop_length] at rest
    exact rest h2 tk2 ⟨F.ns.at' fun o e => k2 _ o hLI e, fun b o e => k2 b o (fun q => by rw [q, hI₀] at e; cases e) (F.keep b o e), F.above⟩ fun q hq => ⟨k2 _ _ (off q hq) (N q hq).1, (N q hq).2⟩
def SeqSrc (prog : Program) (w : World) (A : Around) (E : Value → Shared → Prop) (env : Env) (target : Expr) (body : List Stmt) (Q : Flow → Shared → Prop) (C T : String) (xv : Value) (s₁ : Shared) : Prop :=
  ∃ ax vs n g m news, xv = .ref ax ∧ Fr g env.locals s₁.heap m ∧ News g env.locals s₁.heap news ∧ (ax, ({ cls := .type C, data := .seq (List.toArray vs) n } : Obj)) ∈ news ∧
    ∀ I, (∀ q ∈ news, q.1 < I) → SeqRest prog w A E env target body Q s₁ I T (ax, { cls := .type C, data := .seq (List.toArray vs) n }) vs g m news
theorem for_listS {iter : Expr} {pos : Pos} (hE : PassesOwn (model prog w) A env E) (hs : ∀ x, foldedSetIterable iter env x = pure x) (hh : A.handled = none)
    (h : wpAny (model prog w) A (eval iter env) (SeqSrc prog w A E env target body Q "list" "list_iterator") E s) :
    wpAny (model prog w) A (exec (.For target iter body [] pos) env) Q E s := by
  refine wpAny_For (wpAny_mono h (fun xv s₁ h₁ => ?_) fun _ _ e => e) hs
  refine foldP ?_
  intro P9
  obtain ⟨ax, vs, n, g, m, news, e91, F, N, hm, rest⟩ := h₁
  k_unfold
  clear P9
  subst e91
  have hl : s₁.heap.IsList ax vs.toArray := ⟨_, (N _ hm).1, rfl, n, rfl⟩
  refine wpAny_pyIter_list hl ?_
  have hne : ax ≠ s₁.heap.objs.size := Nat.ne_of_lt (Heap.lt_size (N _ hm).1)
  have W := Walks.list (prog := prog) (w := w) hh s₁.heap.objs.size ax hne vs.toArray
  rw [List.size_toArray] at W
  refine seq_core (lo := { cls := .type "list", data := .seq (List.toArray vs) n }) (s := s₁) (vs := vs) W hne (Nat.ne_of_lt F.ns.lt) hE
    (fun i h st => by obtain ⟨o, e, c, _⟩ := st.1; exact ⟨o, e, c⟩)
    (fun i h h' st e1 e2 => ⟨by obtain ⟨o, e, c⟩ := st.1; exact ⟨o, e1.trans e, c⟩, ⟨_, e2, rfl, n, rfl⟩⟩) (fun i s' v Q' E' st q => letGo_listiter st.1 q)
    (F.push _) (fun q hq => ⟨Heap.get?_push_of_some _ (N q hq).1, (N q hq).2⟩) hm (next_is_new F) (fun q hq => Nat.ne_of_lt (Heap.lt_size (N q hq).1)) ⟨⟨_, Heap.get?_push_size _ rfl, rfl, rfl⟩, hl.at fun o e => Heap.get?_push_of_some _ e⟩ ?_
  exact rest _ fun q hq => Heap.lt_size (N q hq).1
theorem for_tupS {iter : Expr} {pos : Pos} (hE : PassesOwn (model prog w) A env E) (hs : ∀ x, foldedSetIterable iter env x = pure x) (hh : A.handled = none)
    (h : wpAny (model prog w) A (eval iter env) (SeqSrc prog w A E env target body Q "tuple" "tuple_iterator") E s) :
    wpAny (model prog w) A (exec (.For target iter body [] pos) env) Q E s := by
  refine wpAny_For (wpAny_mono h (fun xv s₁ h₁ => ?_) fun _ _ e => e) hs
  refine foldP ?_
  intro P9
  obtain ⟨ax, vs, n, g, m, news, e91, F, N, hm, rest⟩ := h₁
  k_unfold
  clear P9
  subst e91
  have hl : s₁.heap.IsTuple ax vs.toArray := ⟨_, (N _ hm).1, rfl, n, rfl⟩
  refine wpAny_pyIter_tuple hl ?_
  have hne : ax ≠ s₁.heap.objs.size := Nat.ne_of_lt (Heap.lt_size (N _ hm).1)
  have W := Walks.tuple (prog := prog) (w := w) hh s₁.heap.objs.size ax hne vs.toArray
  rw [List.size_toArray] at W
  refine seq_core (lo := { cls := .type "tuple", data := .seq (List.toArray vs) n }) (s := s₁) (vs := vs) W hne (Nat.ne_of_lt F.ns.lt) hE
    (fun i h st => by obtain ⟨o, e, c, _⟩ := st.1; exact ⟨o, e, c⟩)
    (fun i h h' st e1 e2 => ⟨by obtain ⟨o, e, c⟩ := st.1; exact ⟨o, e1.trans e, c⟩, ⟨_, e2, rfl, n, rfl⟩⟩) (fun i s' v Q' E' st q => letGo_tupleiter st.1 q)
    (F.push _) (fun q hq => ⟨Heap.get?_push_of_some _ (N q hq).1, (N q hq).2⟩) hm (next_is_new F) (fun q hq => Nat.ne_of_lt (Heap.lt_size (N q hq).1)) ⟨⟨_, Heap.get?_push_size _ rfl, rfl, rfl⟩, hl.at fun o e => Heap.get?_push_of_some _ e⟩ ?_
  exact rest _ fun q hq => Heap.lt_size (N q hq).1
/-- a turn's end, by the newest ledger -/
theorem SeqEnd.of {L I : Addr} {it : Obj} {lp : Addr × Obj} {s₁ : Shared} {rest : Heap → (Str → Option Value) → List (Addr × Obj) → Prop} {g h : Heap} {tk : Nat} {m : Str → Option Value} {all news : List (Addr × Obj)}
    (F : Fr g L h m) (N : News g L h all) (sub : ∀ q ∈ (I, it) :: news, q ∈ all) (hm : lp ∈ news) (off : ∀ q ∈ news, q.1 ≠ I) (r : rest g m news) : SeqEnd L I it lp s₁ rest { s₁ with heap := h, toks := tk } :=
  ⟨h, tk, g, m, news, rfl, F, fun q hq => N q (sub q hq), hm, off, r⟩
theorem SeqSrc.of {C T : String} {ax : Addr} {vs : List Value} {n : Nat} {g : Heap} {m : Str → Option Value} {news : List (Addr × Obj)} {s₁ : Shared} (F : Fr g env.locals s₁.heap m) (N : News g env.locals s₁.heap news) (hm : (ax, ({ cls := .type C, data := .seq (List.toArray vs) n } : Obj)) ∈ news)
    (rest : ∀ I, (∀ q ∈ news, q.1 < I) → SeqRest prog w A E env target body Q s₁ I T (ax, { cls := .type C, data := .seq (List.toArray vs) n }) vs g m news) : SeqSrc prog w A E env target body Q C T (.ref ax) s₁ :=
  ⟨ax, vs, n, g, m, news, rfl, F, N, hm, rest⟩
theorem SeqRest.nil {s₁ : Shared} {I : Addr} {T : String} {lp : Addr × Obj} {g : Heap} {m : Str → Option Value} {news : List (Addr × Obj)} (h : ∀ h tk, Fr g env.locals h m → News g env.locals h news → Q .next { s₁ with heap := h, toks := tk }) :
    SeqRest prog w A E env target body Q s₁ I T lp [] g m news := h
theorem SeqRest.cons {s₁ : Shared} {I : Addr} {T : String} {lp : Addr × Obj} {v : Value} {r : List Value} {g : Heap} {m : Str → Option Value} {news : List (Addr × Obj)}
    (h : ∀ (it : Obj) h tk, it.cls = .type T → Fr g env.locals h m → News g env.locals h ((I, it) :: news) →
      wpAny (model prog w) A (assign target env v) (fun _ s₂ => wpAny (model prog w) A (execs body env) (SeqPost env.locals I it lp s₁ (SeqRest prog w A E env target body Q s₁ I T lp r) Q) E s₂) E { s₁ with heap := h, toks := tk }) :
    SeqRest prog w A E env target body Q s₁ I T lp (v :: r) g m news := h
inductive Cut (p : Addr × Obj) : List (Addr × Obj) → List (Addr × Obj) → Prop
  | head {r} : Cut p (p :: r) r
  | tail {q l r} : Cut p l r → Cut p (q :: l) (q :: r)
theorem Cut.sub {p : Addr × Obj} {l r : List (Addr × Obj)} (c : Cut p l r) : ∀ q ∈ p :: r, q ∈ l := by
  induction c with
  | head => exact fun _ h => h
  | tail _ ih =>
    intro q hq
    rcases List.mem_cons.mp hq with rfl | hq
    · exact List.mem_cons_of_mem _ (ih _ List.mem_cons_self)
    · rcases List.mem_cons.mp hq with rfl | hq
      · exact List.mem_cons_self
      · exact List.mem_cons_of_mem _ (ih _ (List.mem_cons_of_mem _ hq))
theorem SeqEnd.cut {L I : Addr} {it : Obj} {lp : Addr × Obj} {s₁ : Shared} {rest : Heap → (Str → Option Value) → List (Addr × Obj) → Prop} {g h : Heap} {tk : Nat} {m : Str → Option Value} {all news : List (Addr × Obj)}
    (F : Fr g L h m) (N : News g L h all) (c : Cut (I, it) all news) (hm : lp ∈ news) (off : ∀ q ∈ news, q.1 ≠ I) (r : rest g m news) : SeqEnd L I it lp s₁ rest { s₁ with heap := h, toks := tk } :=
  SeqEnd.of F N c.sub hm off r
theorem allOf {I : Addr} {l rest : List (Addr × Obj)} (h : ∀ q ∈ l, q.1 < I) (sub : ∀ q ∈ rest, q ∈ l) : ∀ q ∈ rest, q.1 ≠ I := fun q hq => Nat.ne_of_lt (h q (sub q hq))
theorem allLt_ne2 {D X : Nat} : ∀ {l : List (Addr × Obj)}, AllLt D l → D ≤ X → ∀ q ∈ l, q.1 ≠ X
  | [], _, _, _, h => absurd h List.not_mem_nil
  | p :: r, h, hx, q, hq => by
    rcases List.mem_cons.mp hq with rfl | hq
    · exact Nat.ne_of_lt (Nat.lt_of_lt_of_le h.1 hx)
    · exact allLt_ne2 h.2 hx q hq
end
end

section
open PySem PySem.W PyProof.Rows PySem.Spec PySem.Calls
section
variable {prog : Program} {w : World} {A : Around} {E : Value → Shared → Prop} {env : Env} {target : Expr} {body : List Stmt} {Q : Flow → Shared → Prop} {s₁ : Shared} {I : Addr} {T : String} {lp : Addr × Obj}
/-- a loop over a written row by an invariant: the body is walked once -/
theorem seq_inv (P : Value → Prop) (J : Nat → Heap → (Str → Option Value) → List (Addr × Obj) → Prop) 
    (turn : ∀ v i g m news (it : Obj) h tk, P v → J i g m news → it.cls = .type T → Fr g env.locals h m → News g env.locals h ((I, it) :: news) →
      wpAny (model prog w) A (assign target env v) (fun _ s₂ => wpAny (model prog w) A (execs body env) (SeqPost env.locals I it lp s₁ (J (i + 1)) Q) E s₂) E { s₁ with heap := h, toks := tk })
    (done : ∀ i g m news h tk, 0 < i → J i g m news → Fr g env.locals h m → News g env.locals h news → Q .next { s₁ with heap := h, toks := tk }) :
    ∀ (vs : List Value) (i : Nat) (g : Heap) (m : Str → Option Value) (news : List (Addr × Obj)), 0 < i ∨ vs ≠ [] → (∀ v ∈ vs, P v) → J i g m news → SeqRest prog w A E env target body Q s₁ I T lp vs g m news
  | [], i, g, m, news, h0, _, j => fun h tk F N => done i g m news h tk (h0.elim id fun x => absurd rfl x) j F N
  | v :: r, i, g, m, news, _, hP, j => fun it h tk hc F N => by
    refine wpAny_mono (turn v i g m news it h tk (hP v List.mem_cons_self) j hc F N) (fun _ s₂ h₂ => wpAny_mono h₂ (fun f s₃ h₃ => ?_) fun _ _ e => e) fun _ _ e => e
    have fin : SeqEnd env.locals I it lp s₁ (J (i + 1)) s₃ → SeqEnd env.locals I it lp s₁ (SeqRest prog w A E env target body Q s₁ I T lp r) s₃ := by
      rintro ⟨h7, tk7, g7, m7, news7, e7, F7, N7, hm7, off7, r7⟩
      exact ⟨h7, tk7, g7, m7, news7, e7, F7, N7, hm7, off7, seq_inv P J turn done r (i + 1) g7 m7 news7 (.inl (Nat.succ_pos _)) (fun x hx => hP x (List.mem_cons_of_mem _ hx)) r7⟩
    cases f with
    | ret v => exact h₃
    | brk => exact h₃
    | next => exact fin h₃
    | cont => exact fin h₃
end
def maskT {α : Type} : List Bool → List α → List α
  | [], _ => []
  | true :: m, a :: l => a :: maskT m l
  | false :: m, _ :: l => maskT m l
  | _ :: _, [] => []
theorem maskT_mem {α : Type} {q : α} : ∀ {m : List Bool} {l : List α}, q ∈ maskT m l → q ∈ l
  | [], _, h => absurd h List.not_mem_nil
  | true :: m, a :: l, h => by
    rcases List.mem_cons.mp h with rfl | h
    · exact List.mem_cons_self
    · exact List.mem_cons_of_mem _ (maskT_mem h)
  | false :: m, _ :: l, h => List.mem_cons_of_mem _ (maskT_mem (m := m) h)
  | true :: _, [], h => absurd h List.not_mem_nil
  | false :: _, [], h => absurd h List.not_mem_nil
/-- what every turn of such a loop finds: the fixed cells, two cells that the turn may write, the table of lambdas -/
def LoopJ (G : Heap → Prop) (M : Option Value → Str → Option Value) (fix rest : List (Addr × Obj)) (LV LB T : Nat) (ps1 : Array Value) (qual : Str) (k j I i : Nat) (g : Heap) (m : Str → Option Value) (news : List (Addr × Obj)) : Prop :=
  G g ∧ ∃ u ov vv ob vb ps mid, m = M u ∧ ov.data = .cell vv ∧ ob.data = .cell vb ∧ LamSt qual k j ps1 I i ps mid ∧ news = fix ++ (LV, ov) :: (LB, ob) :: (T, tabObj ps) :: (rest ++ mid)
theorem loop_end {L I LV LB T k j i : Nat} {it : Obj} {lp : Addr × Obj} {s₁ : Shared} {G : Heap → Prop} {M : Option Value → Str → Option Value} {fix rest rs all : List (Addr × Obj)} {ps1 ps' : Array Value} {qual : Str} {g h : Heap} {tk : Nat} {m' : Str → Option Value} {u : Option Value} {ov ob oc' : Obj} {vv vb : Option Value} {c' : Addr} {vs : Array Value} {t : Tok}
    (F : Fr g L h m') (N : News g L h all) (hm' : m' = M u) (hG : G g) (mI : (I, it) ∈ all) (hfix : ∀ q ∈ fix, q ∈ all) (mV : (LV, ov) ∈ all) (mB : (LB, ob) ∈ all) (mT : (T, tabObj ps') ∈ all) (hps : ps' = ps1 ++ #[rawInt k, rawInt j, .ref c']) (mc : (c', oc') ∈ all) (hrs : ∀ q ∈ rest, q ∈ rs) (mr : ∀ q ∈ rs, q ∈ all)
    (dV : ov.data = .cell vv) (dB : ob.data = .cell vb) (d1 : oc'.data = .fields vs) (d2 : vs[1]? = some (.str qual t)) (uc : Und I c') (hmem : lp ∈ fix) (ofix : ∀ q ∈ fix, @LT.lt Nat _ q.1 I) (uV : Und LV I) (uB : Und LB I) (uT : Und T I) (orest : ∀ q ∈ rest, q.1 ≠ I) :
    SeqEnd L I it lp s₁ (LoopJ G M fix rest LV LB T ps1 qual k j I (i + 1)) { s₁ with heap := h, toks := tk } := by
  subst hps
  refine ⟨h, tk, g, m', fix ++ (LV, ov) :: (LB, ob) :: (T, tabObj (ps1 ++ #[rawInt k, rawInt j, .ref c'])) :: (rest ++ [(c', oc')]), rfl, F, List.forall_mem_cons.mpr ⟨N _ mI, fun q hq => ?_⟩, List.mem_append_left _ hmem, fun q hq => ?_, hG, u, ov, vv, ob, vb, _, _, hm', dV, dB, .inr ⟨Nat.succ_pos _, c', oc', vs, t, rfl, rfl, d1, d2, uc⟩, rfl⟩
  · simp only [List.mem_cons, List.mem_append, List.not_mem_nil, or_false] at hq
    rcases hq with hq | rfl | rfl | rfl | hq | rfl
    · exact N _ (hfix q hq)
    · exact N _ mV
    · exact N _ mB
    · exact N _ mT
    · exact N _ (mr q (hrs q hq))
    · exact N _ mc
  · simp only [List.mem_cons, List.mem_append, List.not_mem_nil, or_false] at hq
    rcases hq with hq | rfl | rfl | rfl | hq | rfl
    · exact Nat.ne_of_lt (ofix q hq)
    · exact uV.ne
    · exact uB.ne
    · exact uT.ne
    · exact orest q hq
    · exact uc.ne2
theorem loop_src {prog : Program} {w : World} {A : Around} {E : Value → Shared → Prop} {env : Env} {target : Expr} {body : List Stmt} {Q : Flow → Shared → Prop} {s₁ : Shared} {ax : Addr} {vs : List Value} {n : Nat} {g0 : Heap} {all fix rest : List (Addr × Obj)} {ps1 : Array Value} {ov ob : Obj} {vv vb u : Option Value} {m0 : Str → Option Value} {LV LB T : Nat} {C : String} {it : String} 
    (qual : Str) (k j : Nat) (mk : List Bool) (G : Heap → Prop) (P : Value → Prop) (M : Option Value → Str → Option Value) (F : Fr g0 env.locals s₁.heap m0) (N : News g0 env.locals s₁.heap all) (hM : m0 = M u)
    (hfix : fix = maskT mk all) (hm : (ax, ({ cls := .type C, data := .seq (List.toArray vs) n } : Obj)) ∈ fix) (mV : (LV, ov) ∈ all) (mB : (LB, ob) ∈ all) (dV : ov.data = .cell vv) (dB : ob.data = .cell vb) (mT : (T, tabObj ps1) ∈ all) (mf : ∀ q ∈ rest, q ∈ all) (h0 : vs ≠ []) (hP : ∀ v ∈ vs, P v) (hG : G g0)
    (rV : ∀ q ∈ rest, q.1 ≠ LV) (rB : ∀ q ∈ rest, q.1 ≠ LB) (rT : ∀ q ∈ rest, q.1 ≠ T)
    (turn : ∀ I v u i g ov vv ob vb ps mid rs (itr : Obj) h tk, (∀ q ∈ fix, @LT.lt Nat _ q.1 I) → Und LV I → Und LB I → Und T I → (∀ q ∈ rest, q.1 ≠ I) → P v → G g → LamSt qual k j ps1 I i ps mid → (∀ q ∈ mid, q ∈ rs) → (∀ q ∈ rest, q ∈ rs) → (∀ q ∈ rs, q.1 ≠ LV) → (∀ q ∈ rs, q.1 ≠ LB) → (∀ q ∈ rs, q.1 ≠ T) → (∀ q ∈ mid, q.1 ≠ I) →
      itr.cls = .type it → ov.data = .cell vv → ob.data = .cell vb → Fr g env.locals h (M u) → News g env.locals h ((I, itr) :: (fix ++ (LV, ov) :: (LB, ob) :: (T, tabObj ps) :: rs)) →
      wpAny (model prog w) A (assign target env v) (fun _ s₂ => wpAny (model prog w) A (execs body env) (SeqPost env.locals I itr (ax, ({ cls := .type C, data := .seq (List.toArray vs) n } : Obj)) s₁ (LoopJ G M fix rest LV LB T ps1 qual k j I (i + 1)) Q) E s₂) E { s₁ with heap := h, toks := tk })
    (done : ∀ u g ov vv ob vb c h tk, G g → ov.data = .cell vv → ob.data = .cell vb → Fr g env.locals h (M u) → News g env.locals h (fix ++ (LV, ov) :: (LB, ob) :: (T, tabObj (ps1 ++ #[rawInt k, rawInt j, .ref c])) :: rest) → Q .next { s₁ with heap := h, toks := tk }) :
    SeqSrc prog w A E env target body Q C it (.ref ax) s₁ := by
  have hf : ∀ q ∈ fix, q ∈ all := fun q hq => maskT_mem (hfix ▸ hq)
  clear hfix
  refine ⟨ax, vs, n, g0, m0, fix ++ (LV, ov) :: (LB, ob) :: (T, tabObj ps1) :: rest, rfl, F, fun q hq => ?_, List.mem_append_left _ hm, fun I l1 => ?_⟩
  · simp only [List.mem_cons, List.mem_append] at hq
    rcases hq with hq | rfl | rfl | rfl | hq
    · exact N _ (hf q hq)
    · exact N _ mV
    · exact N _ mB
    · exact N _ mT
    · exact N _ (mf q hq)
  · have lf : ∀ q ∈ fix, @LT.lt Nat _ q.1 I := fun q hq => l1 q (List.mem_append_left _ hq)
    have lV : @LT.lt Nat _ LV I := l1 (LV, ov) (by simp)
    have lB : @LT.lt Nat _ LB I := l1 (LB, ob) (by simp)
    have lT : @LT.lt Nat _ T I := l1 (T, tabObj ps1) (by simp)
    have lr : ∀ q ∈ rest, @LT.lt Nat _ q.1 I := fun q hq => l1 q (by simp [hq])
    refine seq_inv P (LoopJ G M fix rest LV LB T ps1 qual k j I) ?_ ?_ vs 0 g0 m0 _ (.inr h0) hP ⟨hG, u, ov, vv, ob, vb, ps1, [], hM, dV, dB, LamSt.start, by rw [List.append_nil]⟩
    · intro v i g m news itr h tk hv hh9 hc F N
      refine foldP ?_
      intro P9
      obtain ⟨hg, u, ov, vv, ob, vb, ps, mid, e91, dV, dB, S0, e92⟩ := hh9
      k_unfold
      clear P9
      subst e91
      subst e92
      have rs : ∀ {x : Nat}, @LT.lt Nat _ x I → (∀ q ∈ rest, q.1 ≠ x) → ∀ q ∈ rest ++ mid, q.1 ≠ x := fun hx hr q hq => (List.mem_append.mp hq).elim (hr q) (S0.ne (Nat.le_of_lt hx) q)
      exact turn I v u i g ov vv ob vb ps mid (rest ++ mid) itr h tk lf lV lB lT (fun q hq => Nat.ne_of_lt (lr q hq)) hv hg S0 (fun q hq => List.mem_append_right _ hq) (fun q hq => List.mem_append_left _ hq) (rs lV rV) (rs lB rB) (rs lT rT) (S0.ne (Nat.le_refl _)) hc dV dB F N
    · intro i g m news h tk hi hh9 F N
      refine foldP ?_
      intro P9
      obtain ⟨hg, u, ov, vv, ob, vb, ps, mid, e91, dV, dB, S0, e92⟩ := hh9
      k_unfold
      clear P9
      subst e91
      subst e92
      rcases S0 with ⟨h0, _⟩ | ⟨_, c, oc, vs, tq, rfl, rfl, hoc, hvs, hLc⟩
      · exact absurd h0 (Nat.ne_of_gt hi)
      · refine done u g ov vv ob vb c h tk hg dV dB F fun q hq => N q ?_
        simp only [List.mem_cons, List.mem_append] at hq ⊢
        rcases hq with h | h | h | h | h <;> simp [h]
theorem map_in {m : Str → Option Value} {x : Str} : m = fun y => if y = x then m x else m y := by
  funext y
  by_cases h : y = x
  · subst h; simp
  · simp [h]
theorem map_twice {x : Str} {v u : Option Value} {r : Str → Option Value} : (fun y => if y = x then v else if y = x then u else r y) = fun y => if y = x then v else r y := by
  funext y
  by_cases h : y = x <;> simp [h]
theorem loop_srcX {prog : Program} {w : World} {A : Around} {E : Value → Shared → Prop} {env : Env} {target : Expr} {body : List Stmt} {Q : Flow → Shared → Prop} {s₁ : Shared} {ax : Addr} {vs : List Value} {n : Nat} {g0 : Heap} {all fix rest : List (Addr × Obj)} {ps1 : Array Value} {ov ob : Obj} {vv vb : Option Value} {m0 : Str → Option Value} {LV LB T : Nat} {C : String} {it : String} 
    (qual : Str) (k j : Nat) (mk : List Bool) (G : Heap → Prop) (P : Value → Prop) (x : Str) (F : Fr g0 env.locals s₁.heap m0) (N : News g0 env.locals s₁.heap all)
    (hfix : fix = maskT mk all) (hm : (ax, ({ cls := .type C, data := .seq (List.toArray vs) n } : Obj)) ∈ fix) (mV : (LV, ov) ∈ all) (mB : (LB, ob) ∈ all) (dV : ov.data = .cell vv) (dB : ob.data = .cell vb) (mT : (T, tabObj ps1) ∈ all) (mf : ∀ q ∈ rest, q ∈ all) (h0 : vs ≠ []) (hP : ∀ v ∈ vs, P v) (hG : G g0)
    (rV : ∀ q ∈ rest, q.1 ≠ LV) (rB : ∀ q ∈ rest, q.1 ≠ LB) (rT : ∀ q ∈ rest, q.1 ≠ T)
    (turn : ∀ I v u i g ov vv ob vb ps mid rs (itr : Obj) h tk, (∀ q ∈ fix, @LT.lt Nat _ q.1 I) → Und LV I → Und LB I → Und T I → (∀ q ∈ rest, q.1 ≠ I) → P v → G g → LamSt qual k j ps1 I i ps mid → (∀ q ∈ mid, q ∈ rs) → (∀ q ∈ rest, q ∈ rs) → (∀ q ∈ rs, q.1 ≠ LV) → (∀ q ∈ rs, q.1 ≠ LB) → (∀ q ∈ rs, q.1 ≠ T) → (∀ q ∈ mid, q.1 ≠ I) →
      itr.cls = .type it → ov.data = .cell vv → ob.data = .cell vb → Fr g env.locals h (fun y => if y = x then u else m0 y) → News g env.locals h ((I, itr) :: (fix ++ (LV, ov) :: (LB, ob) :: (T, tabObj ps) :: rs)) →
      wpAny (model prog w) A (assign target env v) (fun _ s₂ => wpAny (model prog w) A (execs body env) (SeqPost env.locals I itr (ax, ({ cls := .type C, data := .seq (List.toArray vs) n } : Obj)) s₁ (LoopJ G (fun u y => if y = x then u else m0 y) fix rest LV LB T ps1 qual k j I (i + 1)) Q) E s₂) E { s₁ with heap := h, toks := tk })
    (done : ∀ u g ov vv ob vb c h tk, G g → ov.data = .cell vv → ob.data = .cell vb → Fr g env.locals h (fun y => if y = x then u else m0 y) → News g env.locals h (fix ++ (LV, ov) :: (LB, ob) :: (T, tabObj (ps1 ++ #[rawInt k, rawInt j, .ref c])) :: rest) → Q .next { s₁ with heap := h, toks := tk }) :
    SeqSrc prog w A E env target body Q C it (.ref ax) s₁ :=
  loop_src qual k j mk G P (fun u y => if y = x then u else m0 y) F N (u := m0 x) map_in hfix hm mV mB dV dB mT mf h0 hP hG rV rB rT turn done
end

section
open PySem PySem.W PyProof.Rows
/-- the text's statements, without the names of its files -/
noncomputable def vw : Program := PySem.W.view PySem.Challenge.pw_on0340_01 [0, 2, 3, 4, 6, 7, 8, 9, 10, 11, 12, 13, 14, 15, 16, 17, 19, 20, 21, 22, 23, 24, 25, 26, 27, 28, 29, 31, 32, 33, 34, 36, 37, 38, 39, 40, 41, 42, 43, 44, 45, 46, 47]
def ats : List Addr := [2,3,15,17,18,20,21,22,29,31,32,34,35,36,37,38,39,42,49,50,51,54,61,62,63,73,74,76,77,79,80,81,83,84,86,87,88,90,91,93,94,95,97,98,100,101,102,104,105,107,108,109,111,112,114,115,116,117,118,119,120,123,125,126,128,129,130,132,133,135,136,137,139,140,142,143,144,146,147,149,150,151,153,154,156,157,158,160,161,163,164,165,167,168,170,171,172,174,175,177,178,179,181,182,184,185,186,188,189,191,192,193,195,196,198,199,200,203,204,205,207,208,210,211,212,214,215,217,218,219,221,222,224,225,226,228,229,231,232,233,235,236,238,239,240,242,243,245,246,247,249,250,252,253,254,256,257,259,260,261,263,264,266,267,268,271,272,273,275,276,278,279,280,282,283,285,286,287,289,290,292,293,294,297,298,299,301,302,304,305]
theorem hookPf : ∀ P, ats = (hd.heap_1 P).map (·.1) := fun _ => by kernel_rfl
theorem lawSaid : PySem.Challenge.rw_on0340_01.wellSaid = true := by kernel_rfl
theorem leftO : LeftO PySem.Challenge.rw_on0340_01.row.prog vw [Str.ofString "IpHeader"] (fun s => xlAt vw [] s && recOk (RowW.records PySem.Challenge.rw_on0340_01.row.toRowW) s) (Hook.obs (kmHook hd.heap_1 ats hookPf [295, 288, 281, 255])) (Hook.val (kmHook hd.heap_1 ats hookPf [295, 288, 281, 255])) 4254 := fun w => by kernel_rfl
end

section
open PySem PySem.W PyProof.Rows PySem.Spec PySem.Calls
theorem item_any {prog : Program} {w : World} {A : Around} {E : Value → Shared → Prop} {s : Shared} {value slice : Expr} {a : Addr} {l : List Value} {k : Int} {u : Tok} {Q : Value → Shared → Prop} (hl : s.heap.IsList a l.toArray)
    (h0 : 0 ≤ k) (h1 : k < (l.length : Int)) (h2 : l.length ≤ 1000) (h : ∀ x, l[k.toNat]? = some x → Q x s)
    (hs : subscripted slice false (.ref a) (.int k u) = operate [.ref a, .int k u] (getItem (.ref a) (.int k u)) := by with_unfolding_all rfl) (hg : ∀ r, letTemporaryGo value (.ref a) r = pure () := by intro _; with_unfolding_all rfl) :
    wpAny (model prog w) A (subscriptTail value slice (.ref a) (.int k u)) Q E s :=
  item_listL hl h0 (by omega) (List.getElem?_eq_getElem (by omega)) (h _ (List.getElem?_eq_getElem (by omega))) hs hg
theorem wordsT2x1 : True := by
  k_with_none
  w_top off
  k_with "my k_all" => (with_reducible assumption)
  k_with "exec Raise some none" => ((k_here; (with_reducible show wpAny _ _ (exec (Stmt.Raise (some _) none _) _) _ _ _); k_dflt (refine exec_raise ?qhh0 ?_; (case qhh0 => first | rfl | assumption))))
  k_with "call ref" => ((k_here; (with_reducible show wpAny _ _ (call (Value.ref _) [Value.str _ _]) (fun v s₁ => Rd s₁ v ∧ _) _ _); k_dflt (refine' exc_rd (t := _) ?qhX ?qhhh ?qhhd ?qhhu ?qhhC ?_; (case qhhC => first | exact Or.inl rfl | exact Or.inr rfl); (case qhX => k_in); (case qhhh => first | rfl | assumption); (case qhhd => walk_at "my room"); (case qhhu => walk_at "my room"); k_whole); intro h' e' tk' x'))
  k_with "my room" => (first
  | exact Nat.le_of_ble_eq_true rfl
  | ((try simp only [depth_mark, depth_under_make, depth_under_kw, depth_in1, depth_deeper, units_in1, units_deeper, Around.mark_units, units_caller, ktrTop]); omega))
  k_with "leaving ref" => ((k_here; (with_reducible show wpAny _ _ (leaving _ (Value.ref _)) _ _ _); first
  | (k_dflt (refine' leave_newX ?qhk1 ?qhk0 ?qhk2 ?qhk3 ?qhkf ?qhkk ?_; (case qhk0 => assumption); (case qhk2 => assumption); (case qhk1 => assumption); (case qhk3 => k_asm); (case qhkf => exact rfl); (case qhkk => exact rfl); k_whole); intro h' R' U'; (try dsimp only at R' U' ⊢))
  | (k_dflt (refine' leave_onX ?qhk1 ?qhk2 ?qhk3 ?qhk4 ?qhkf ?_; (case qhk3 => assumption); (case qhk2 => assumption); (case qhk1 => assumption); (case qhk4 => assumption); (case qhkf => exact rfl); k_whole); intro h' R' U'; (try dsimp only at R' U' ⊢))))
  k_with "call ref" => ((k_here; (with_reducible show wpAny _ _ (call (Value.ref 253) _) _ _ _); k_dflt (refine wpAny_call ?_; refine' enterS ?qhk1 ?qhk2 ?qhk3 ?qhk4 ?qhk5 ?qhXB ?qhTB ?qhD ?qhT0 ?qhkA ?qhkf ?qhkK ?qhk6 ?qhk7 ?qhk8 ?qhk9 ?qhkB ?_ ?qhc2 ?qhc3 ?qhc4 ?qhc5; (case qhkA => exact rfl); (case qhkf => exact rfl); (case qhkK => exact rfl); (case qhk1 => k_asm); (case qhk2 => k_asm); (case qhk3 => k_asm); (case qhk4 => k_asm); (case qhk5 => k_asm); (case qhXB => assumption); (case qhTB => assumption); (case qhD => assumption); (case qhT0 => first | assumption | exact KtsTurn.refl); (case qhk6 => k_is); (case qhk7 => k_is); (case qhk8 => ktr_room); (case qhk9 => exact BindsTo.of_eq rfl); (case qhkB => exact locs rfl); (case qhc2 => exact rfl); (case qhc3 => exact rfl); (case qhc4 => exact rfl); (case qhc5 => decide); k_whole; intro g' L' h' FG' F' N' B' X' T' D'; (try dsimp only); (try k_lift B'); (try k_fold))))
  k_with "call ref" => ((k_here; (with_reducible show wpAny _ _ (call (Value.ref 239) _) _ _ _); k_dflt (refine' take_u ?qhk1 ?qhk2 ?qhk3 ?qhk4 ?qhk5 ?qhU ?qhkK ?qha0 ?qhb0 ?qhb1 ?qht0 ?qht1 ?qhkd ?qhku ?_; (case qhk1 => k_asm); (case qhk2 => k_asm); (case qhk3 => k_asm); (case qhk4 => k_asm); (case qhU => k_updF); (case qhk5 => k_asm); (case qhkK => first | exact rfl | assumption); (case qha0 => first | assumption | omega); (case qhb0 => first | assumption | omega); (case qhb1 => first | assumption | omega); (case qht0 => omega); (case qht1 => omega); (case qhkd => ktr_room); (case qhku => walk_at "my units"); k_whole); intro v' a' b' t' ta' tb' h' tk' hv0 hv1 ha' hb' hb1' F' ol' N'; (try dsimp only at N'); (try k_sweep)))
  k_with "my units" => (first | exact Nat.lt_of_succ_le (Nat.le_of_ble_eq_true rfl) | ((try simp only [cLine, units_in1, units_deeper, Around.mark_units, units_caller, ktrTop]); omega) | ktr_units)
  k_with "my enterC0" => ((refine' enterC0 ?qhk1 ?qhk2 ?qhk3 ?qhk4 ?qhk5 ?qhkA ?qhkf ?qhkK ?qhk6 ?qhk7 ?qhk8 ?qhk9 ?qhkB ?qhkD ?_ ?qhc2 ?qhc3 ?qhc4; (case qhkA => exact rfl); (case qhkf => exact rfl); (case qhkK => first | exact rfl | assumption); (case qhk1 => k_asm); (case qhk2 => k_asm); (case qhk3 => k_asm); (case qhk4 => k_asm); (case qhk5 => k_asm); (case qhk6 => k_is); (case qhk7 => k_is); (case qhk8 => ktr_room); (case qhk9 => exact BindsTo.of_eq rfl); (case qhkB => exact rfl); (case qhkD => decide +kernel); (case qhc2 => exact rfl); (case qhc3 => exact rfl); (case qhc4 => exact rfl); k_whole; intro g' L' h' tk' cells' FG' F' N' Y' B' X' T' D' l1; (try k_lt l1); k_cells Y'; (try simp only [List.cons_append, List.nil_append] at N'); (try dsimp only); (try k_lift B'); (try k_fold)))
  k_with "my k_room" => (ktr_room)
  k_with "callWith ref" => ((k_here; k_dflt (refine' callWith_K ?qhk1 ?qhk2 ?_; (case qhk1 => k_asm); (case qhk2 => k_is); k_whole)))
  k_with "my mem" => (first | with_reducible apply List.mem_cons_self | (with_reducible apply List.mem_cons_of_mem; walk_at "my mem"))
  k_with "my memD" => (first | apply List.mem_cons_self | (with_reducible apply List.mem_cons_of_mem; walk_at "my memD"))
  k_with "my all" => (first | with_reducible assumption | with_reducible apply List.forall_mem_nil | (with_reducible apply forall_cons; (k_ne); (walk_at "my all")))
  k_with "call type:bytes" => ((k_here; (with_reducible show wpAny _ _ (call (Value.type "bytes") [Value.bytes _ _]) _ _ _); k_dflt (refine call_bytes_bytes ?_)))
  k_with "call type:bytes" => ((k_here; (with_reducible show wpAny _ _ (call (Value.type "bytes") [Value.int _ _]) _ _ _); k_dflt (refine' call_bytes_int ?qhh0 ?qhh1 ?_; (case qhh0 => omega); (case qhh1 => omega); k_whole); intro _ _ _ _ hz' hzl' hzr'))
  trivial
theorem one_c : ∀ (w : World) (p : Program) (loose : List Str) (mean : ExcName → Option Value) (mg mb : Str → Option Value) (dp un : Nat) (gd : Option (List Code)) (cn : Str) (cs : Scope) (a : Addr) (ccd : Value) (cl : List (Str × Addr)) (outer : List Env) (A₀ : Around) (base h₀ : Heap) (L : Addr) (m : Str → Option Value) (s : Shared) (Q E : Value → Shared → Prop)
    (rest : List (Addr × Obj)) (src th : Addr) (a0 b0 : Int) (ta tb : Tok) (n k : Nat) (vs : List Value),
    Below A₀ base outer h₀ → Fr h₀ L s.heap m → (hd.heap_1 w.params).In h₀ → News h₀ L s.heap ((src, listOf #[.int a0 ta, .int b0 tb] n) :: (th, listOf vs.toArray k) :: rest) → Top p loose mean mg mb h₀ → cs.kind = .function →
    (∀ p ∈ rest, p.1 ≠ src) → th ≠ src → 0 ≤ a0 → 0 ≤ b0 → b0 < 2147483647 → 1 ≤ vs.length → vs.length ≤ 1000 → dp + 20 < 800 → un + 90 < 9000 →
    (∀ (i : Nat) (v : Value) (a1 b1 : Int) (ta tb : Tok) (h' : Heap) (tk' : Nat), vs[i]? = some v → 0 ≤ a1 → 0 ≤ b1 → b1 < 2147483647 → Fr h₀ L h' m → News h₀ L h' ((src, listOf #[.int a1 ta, .int b1 tb] n) :: (th, listOf vs.toArray k) :: rest) → Q v { s with heap := h', toks := tk' }) →
    wpAny (model PySem.Challenge.rw_on0340_01.row.prog w) (ktrTop dp un gd cn cs L a ccd cl outer) (call (.ref 246) [.ref src, .ref th]) Q E s := by
  k_fill
  intro w p loose mean mg mb dp un gd cn cs a ccd cl outer A₀ base h₀ L m s Q E rest src th a0 b0 ta tb n k vs B F X N T hk hrest hne ha0 hb0 hb1 ht1 ht2 hdp hun hret
  refine wpAny_call ?_
  k_dflt cell_enter
  k_steps
  refine Calls.call_len_list (items := vs.toArray) (News.isList (by k_asm) (by k_mem)) (by simp; omega) ?_
  rw [List.size_toArray]
  k_steps
  refine item_any (News.isList (by k_asm) (by k_mem)) (by assumption) (by assumption) (by assumption) ?_
  intro x hx
  k_steps
  refine' hret _ _ _ _ _ _ _ _ hx ?a ?b ?c ?F ?N
  (case N => assumption); (case F => assumption); (case a => assumption); (case b => assumption); (case c => assumption)
section
variable {w : World} {p : Program} {loose : List Str} {mean : ExcName → Option Value} {mg mb : Str → Option Value} {dp un : Nat} {gd : Option (List Code)} {cn : Str} {cs : Scope} {a : Addr} {ccd : Value} {cl : List (Str × Addr)} {outer : List Env} {A₀ : Around} {base h₀ : Heap} {L : Addr} {m : Str → Option Value} {s : Shared} {Q E : Value → Shared → Prop}
    {news : List (Addr × Obj)} {g : Obj → List (Addr × Obj)} {src th : Addr} {a0 b0 : Int} {ta tb : Tok} {n k : Nat} {vs : List Value}
theorem one_u (B : Below A₀ base outer h₀) (F : Fr h₀ L s.heap m) (X : (hd.heap_1 w.params).In h₀) (N : News h₀ L s.heap news) (T : Top p loose mean mg mb h₀) (U : UpdF src (listOf #[.int a0 ta, .int b0 tb] n) news g) (hm : (th, listOf vs.toArray k) ∈ news) (hne : th ≠ src) (hk : cs.kind = .function)
    (ha : 0 ≤ a0) (hb : 0 ≤ b0) (hb1 : b0 < 2147483647) (ht : 1 ≤ vs.length) (ht1 : vs.length ≤ 1000) (hd : dp + 20 < 800) (hu : un + 90 < 9000)
    (hret : ∀ (i : Nat) (v : Value) (a1 b1 : Int) (ta tb : Tok) (h' : Heap) (tk' : Nat), vs[i]? = some v → 0 ≤ a1 → 0 ≤ b1 → b1 < 2147483647 → Fr h₀ L h' m → News h₀ L h' (g (listOf #[.int a1 ta, .int b1 tb] n)) → Q v { s with heap := h', toks := tk' }) :
    wpAny (model PySem.Challenge.rw_on0340_01.row.prog w) (ktrTop dp un gd cn cs L a ccd cl outer) (call (.ref 246) [.ref src, .ref th]) Q E s := by
  obtain ⟨pre, post, rfl, hg, h1, h2⟩ := U.split
  refine one_c w p loose mean mg mb dp un gd cn cs a ccd cl outer A₀ base h₀ L m s Q E (pre ++ post) src th a0 b0 ta tb n k vs B F X (fun q hq => N q ?_) T hk (fun q hq => ?_) hne ha hb hb1 ht ht1 hd hu
    fun i v a1 b1 ta tb h' tk' v0 x0 x1 x2 F' N' => hret i v a1 b1 ta tb h' tk' v0 x0 x1 x2 F' ?_
  · rcases List.mem_cons.mp hq with rfl | hq
    · simp
    · rcases List.mem_cons.mp hq with rfl | hq
      · exact hm
      · rcases List.mem_append.mp hq with hq | hq <;> simp [hq]
  · rcases List.mem_append.mp hq with hq | hq
    · exact h1 q hq
    · exact h2 q hq
  · rw [hg]
    intro q hq
    refine N' q ?_
    rcases List.mem_append.mp hq with hq | hq
    · simp [hq]
    · rcases List.mem_cons.mp hq with rfl | hq
      · simp
      · simp [hq]
theorem one_i {lo hi : Int} (B : Below A₀ base outer h₀) (F : Fr h₀ L s.heap m) (X : (hd.heap_1 w.params).In h₀) (N : News h₀ L s.heap news) (T : Top p loose mean mg mb h₀) (U : UpdF src (listOf #[.int a0 ta, .int b0 tb] n) news g) (hm : (th, listOf vs.toArray k) ∈ news) (hne : th ≠ src) (hk : cs.kind = .function)
    (hv : ∀ v ∈ vs, ∃ x t, v = .int x t ∧ lo ≤ x ∧ x ≤ hi)
    (ha : 0 ≤ a0) (hb : 0 ≤ b0) (hb1 : b0 < 2147483647) (ht : 1 ≤ vs.length) (ht1 : vs.length ≤ 1000) (hd : dp + 20 < 800) (hu : un + 90 < 9000)
    (hret : ∀ (x a1 b1 : Int) (t ta tb : Tok) (h' : Heap) (tk' : Nat), lo ≤ x → x ≤ hi → 0 ≤ a1 → 0 ≤ b1 → b1 < 2147483647 → Fr h₀ L h' m → (let ol : Obj := listOf #[.int a1 ta, .int b1 tb] n; News h₀ L h' (g ol) → Q (.int x t) { s with heap := h', toks := tk' })) :
    wpAny (model PySem.Challenge.rw_on0340_01.row.prog w) (ktrTop dp un gd cn cs L a ccd cl outer) (call (.ref 246) [.ref src, .ref th]) Q E s := by
  refine one_u B F X N T U hm hne hk ha hb hb1 ht ht1 hd hu fun i v a1 b1 ta tb h' tk' v0 x0 x1 x2 F' N' => ?_
  obtain ⟨x, t, rfl, y0, y1⟩ := hv v (List.mem_of_getElem? v0)
  exact hret x a1 b1 t ta tb h' tk' y0 y1 x0 x1 x2 F' N'
end
end

section
open PySem PySem.W PyProof.Rows PySem.Spec PySem.Calls PyProof.Rows.LCg
section
variable {prog : Program} {w : World} {A : Around} {E : Value → Shared → Prop} {s : Shared}
/-- the turns of a list comprehension with one test, its names as they please -/
theorem comp_turns {elt iter ct target : Expr} {scope : Scope} {pos : Pos} {it acc : Value} {env : Env} {R : Result → Shared → Prop} (I : Nat → Shared → Prop)
    (turn : ∀ n s, I n s → wpAny (model prog w) A (pyNext it) (fun r s₁ => match r with
      | none => R (.ok .next) s₁
      | some v => wpAny (model prog w) A (letOwnedTupleGo target it v) (fun _ s₁' => wpAny (model prog w) A (assign target env v) (fun _ s₂ =>
          wpAny (model prog w) A (isTrue ct env (eval ct env)) (fun ok s₃ => if ok = true then
            wpAny (model prog w) A (eval elt env) (fun x s₄ => wpAny (model prog w) A (call (.builtin "list.append") [acc, x]) (fun _ s₅ => ∃ m, m < n ∧ I m s₅) (notedBy (model prog w) A env fun e s' => R (.error e) s') s₄) (notedBy (model prog w) A env fun e s' => R (.error e) s') s₃
            else ∃ m, m < n ∧ I m s₃) (notedBy (model prog w) A env fun e s' => R (.error e) s') s₂)
          (notedBy (model prog w) A env fun e s' => R (.error e) s') s₁') (notedBy (model prog w) A env fun e s' => R (.error e) s') s₁) (notedBy (model prog w) A env fun e s' => R (.error e) s') s)
    (n : Nat) (h : I n s) : codeAny (model prog w) A (.compLoop (.ListComp elt [⟨target, iter, [ct], 0⟩] scope pos) 0 it acc env) R s := by
  refine codeAny_loop rfl I (fun n s hI => ?_) n h
  show wpAny _ A ((compTurn (.ListComp elt [⟨target, iter, [ct], 0⟩] scope pos) 0 it acc env).onRaise (fun x => do noteFrame x env; theTreesLotGoes x)) _ _ s
  refine wpAny_noted ?_
  rw [compTurn_list]
  refine wpAny_bind (wpAny_standAt (wpAny_bind (wpAny_mono (turn n s hI) (fun r s₁ h₁ => ?_) fun _ _ h' => h')))
  cases r with
  | none => exact wpAny_pure h₁
  | some v =>
    refine wpAny_bind (wpAny_mono h₁ (fun _ s₁' h₁' => ?_) fun _ _ h' => h')
    refine wpAny_bind (wpAny_mono h₁' (fun _ s₂ h₂ => wpAny_bind (wpAny_mono (wpAny_tests_one h₂) (fun ok s₃ h₃ => ?_) fun _ _ h' => h')) fun _ _ h' => h')
    cases ok with
    | false =>
      simp only [Bool.false_eq_true, if_false] at h₃ ⊢
      exact wpAny_pure ⟨rfl, h₃⟩
    | true =>
      simp only [if_true] at h₃ ⊢
      exact wpAny_bind (wpAny_bind (wpAny_mono h₃ (fun x s₄ h₄ => wpAny_bind (wpAny_mono h₄ (fun _ s₅ h₅ => wpAny_pure (wpAny_pure ⟨rfl, h₅⟩)) fun _ _ h' => h')) fun _ _ h' => h'))
variable {h₀ : Heap} {L : Addr} {m : Str → Option Value} {env : Env}
abbrev tupO (vs : Array Value) (n : Nat) : Obj := { cls := .type "tuple", data := .seq vs n }
/-- a turn's end of a comprehension -/
def CompStep (h₀ : Heap) (L : Addr) (m : Str → Option Value) (s₁ : Shared) (I : Addr) (oI : Obj) (C : Addr) (oC : Obj) (D : Addr) (oD : Obj) (Jn : List (Addr × Obj) → Prop) (s' : Shared) : Prop :=
  ∃ h tk nw, s' = { s₁ with heap := h, toks := tk } ∧ Fr h₀ L h m ∧ News h₀ L h ((I, oI) :: (C, oC) :: (D, oD) :: nw) ∧ (∀ q ∈ nw, q.1 ≠ I ∧ q.1 ≠ C ∧ q.1 ≠ D) ∧ Jn nw
def CompStepY (h₀ : Heap) (L : Addr) (m : Str → Option Value) (s₁ : Shared) (I : Addr) (oI : Obj) (C : Addr) (oC : Obj) (D : Addr) (oD : Obj) (Jn : Value → List (Addr × Obj) → Prop) (y : Value) (s' : Shared) : Prop := CompStep h₀ L m s₁ I oI C oC D oD (Jn y) s'
def PairSrc (prog : Program) (w : World) (A : Around) (h₀ : Heap) (L : Addr) (m : Str → Option Value) (env : Env) (ct elt : Expr) (x x₂ : Str) (scope : Scope) (cl : List (Str × Addr)) (J : Nat → List Value → List (Addr × Obj) → Prop) (Q : Value → Shared → Prop) (xv : Value) (s₁ : Shared) : Prop :=
  ∃ (ax : Addr) (its : Array Value) (news : List (Addr × Obj)), xv = .ref ax ∧ Fr h₀ L s₁.heap m ∧ News h₀ L s₁.heap news ∧ its.size ≤ sizeLine ∧ J 0 [] news ∧
    (∀ i ys nw, J i ys nw → ∃ k, (ax, ({ cls := .type "list", data := .seq its k } : Obj)) ∈ nw) ∧
    (∀ i ys nw v, J i ys nw → its[i]? = some v → ∃ t v₁ v₂ nt, v = .ref t ∧ (t, tupO #[v₁, v₂] nt) ∈ nw ∧ ∀ I oI C oC D m₂ h tk (E' : Value → Shared → Prop), NsObj oC m₂ → m₂ x = some v₁ → m₂ x₂ = some v₂ →
      Fr h₀ L h m → News h₀ L h ((I, oI) :: (C, oC) :: (D, lst ys) :: nw) → (∀ q ∈ nw, q.1 ≠ I ∧ q.1 ≠ C ∧ q.1 ≠ D) → (@Ne Nat I C ∧ @Ne Nat I D ∧ @Ne Nat C D) →
      wpAny (model prog w) A (isTrue ct (compEnvC scope cl C env) (eval ct (compEnvC scope cl C env))) (fun ok s' => if ok = true then
        wpAny (model prog w) A (eval elt (compEnvC scope cl C env)) (CompStepY h₀ L m s₁ I oI C oC D (lst ys) (fun y => J (i + 1) (ys ++ [y]))) E' s'
        else CompStep h₀ L m s₁ I oI C oC D (lst ys) (J (i + 1) ys) s') E' { s₁ with heap := h, toks := tk }) ∧
    ∀ D ys nw h tk, J its.size ys nw → Fr h₀ L h m → News h₀ L h ((D, lst ys) :: nw) → (∀ q ∈ nw, q.1 ≠ D) → Q (.ref D) { s₁ with heap := h, toks := tk }
theorem comp_pairs {ct elt iter : Expr} {x x₂ : Str} {px px₂ tp : Pos} {tk} {scope : Scope} {cl : List (Str × Addr)} {pos : Pos} {Q : Value → Shared → Prop} (J : Nat → List Value → List (Addr × Obj) → Prop) (hLe : env.locals = L)
    (hclos : closureFor scope env = pure cl) (hcell : ∀ y ∈ scope.names, y.2 ≠ .cell) (hkind : scope.kind = .function)
    (hnames : ∀ y ∈ scope.names, y.2 = .local → scope.names.lookup y.1 = some .local) (hx : scope.names.lookup x = some .local) (hx₂ : scope.names.lookup x₂ = some .local) (hxx : x ≠ x₂) (hh : A.handled = none)
    (h : wpAny (model prog w) A (eval iter env) (PairSrc prog w A h₀ L m env ct elt x x₂ scope cl J Q) E s)
    (hs : ∀ x, foldedSetIterable iter env x = pure x := by intro _; rfl) :
    wpAny (model prog w) A (eval (.ListComp elt [⟨.Tuple [.Name x px, .Name x₂ px₂] tk tp, iter, [ct], 0⟩] scope pos) env) Q E s := by
  rw [eval_ListComp]
  refine wpAny_comprehension_free (use := none) rfl hs hclos hkind hnames (wpAny_mono h (fun xv s₁ h₁ => ?_) fun _ _ e => e)
  refine foldP ?_
  intro P9
  obtain ⟨ax, its, news, e91, F, N, hsz, hJ, hax, turn, done⟩ := h₁
  k_unfold
  clear P9
  subst e91
  have mem : ∀ {g nw} i ys, J i ys nw → News h₀ L g nw → g.IsList ax its := fun i ys j N => by
    obtain ⟨k, hm⟩ := hax i ys _ j
    exact ⟨_, (N _ hm).1, rfl, _, rfl⟩
  have hl := mem 0 [] hJ N
  refine wpAny_pyIter_list hl ?_
  -- the iterator, the new list, the names' object: three new objects
  generalize hG : s₁.heap.push { cls := .type "list_iterator", data := .fields #[.ref ax, .int 0 0] } = G
  have up : ∀ b o, s₁.heap.get? b = some o → G.get? b = some o := fun b o e => hG ▸ Heap.get?_push_of_some _ e
  have hI : G.get? s₁.heap.objs.size = some { cls := .type "list_iterator", data := .fields #[.ref ax, .int 0 0] } := hG ▸ Heap.get?_push_size _ rfl
  have hGs : G.objs.size = s₁.heap.objs.size + 1 := by rw [← hG, Heap.size_push]
  refine wpAny_newObj_type (wpAny_newFunctionEnv hcell (by intro y hy; simp at hy) (fun H₁ hns₁ hsb₁ => ?_) hkind)
  dsimp only at hns₁ hsb₁ ⊢
  generalize hH2 : G.push { cls := .type "list", dict := none, data := .seq ([] : List Value).toArray } = H2 at hns₁ hsb₁ ⊢
  have hCs : H2.objs.size = s₁.heap.objs.size + 1 + 1 := by rw [← hH2, Heap.size_push, hGs]
  have hD2 : H2.get? G.objs.size = some (lst []) := hH2 ▸ Heap.get?_push_size _ rfl
  have up2 : ∀ b o, G.get? b = some o → H2.get? b = some o := fun b o e => hH2 ▸ Heap.get?_push_of_some _ e
  generalize hCe : H2.objs.size = C at *
  generalize hDe : G.objs.size = D at *
  generalize hIe : s₁.heap.objs.size = I at *
  have lt : ∀ {b o}, s₁.heap.get? b = some o → b < I := fun e => hIe ▸ Heap.lt_size e
  have ne3 : ∀ b, b < I → b ≠ I ∧ b ≠ C ∧ b ≠ D := fun b hb => ⟨Nat.ne_of_lt hb, by rw [hCs]; exact Nat.ne_of_lt (Nat.lt_succ_of_lt (Nat.lt_succ_of_lt hb)), by rw [hGs]; exact Nat.ne_of_lt (Nat.lt_succ_of_lt hb)⟩
  have hIC : I ≠ C := by rw [hCs]; exact Nat.ne_of_lt (Nat.lt_succ_of_lt (Nat.lt_succ_self _))
  have hID : I ≠ D := by rw [hGs]; exact Nat.ne_of_lt (Nat.lt_succ_self _)
  have hCD : C ≠ D := by rw [hCs, hGs]; exact Ne.symm (Nat.ne_of_lt (Nat.lt_succ_self _))
  have old : ∀ b o, b ≠ C → H2.get? b = some o → H₁.get? b = some o := fun b o hb e => hsb₁.extBut b o hb (Heap.get?_push_of_some _ e)
  have fresh : ∀ b, I ≤ b → h₀.get? b = none := fun b hb => by
    cases e : h₀.get? b with
    | none => rfl
    | some o => exact absurd (lt (F.keep b o e)) (Nat.not_lt.mpr hb)
  have hI₀ := fresh I (Nat.le_refl _)
  have hC₀ := fresh C (by rw [hCs]; exact Nat.le_succ_of_le (Nat.le_succ _))
  have hD₀ := fresh D (by rw [hGs]; exact Nat.le_succ _)
  have hLlt : L < I := hIe ▸ F.ns.lt
  obtain ⟨hLI, hLC, hLD⟩ := ne3 L hLlt
  have all : ∀ b o, s₁.heap.get? b = some o → H₁.get? b = some o := fun b o e => old b o (ne3 b (lt e)).2.1 (up2 b o (up b o e))
  have W : Walks prog w A I [I, ax] [I] its.size (fun i v => its[i]? = some v) (fun i h => h.IsListIter I ax i ∧ h.IsList ax its) := Walks.list hh I ax (Nat.ne_of_lt (by obtain ⟨_, e, _⟩ := hl; exact lt e)) its
  have loop : ∀ s₃ : Shared, s₃ = { s₁ with heap := H₁, toks := s₁.toks + ([] : List (Str × Value)).length } →
      codeAny (model prog w) A (.compLoop (.ListComp elt [⟨.Tuple [.Name x px, .Name x₂ px₂] tk tp, iter, [ct], 0⟩] scope pos) 0 (.ref I) (.ref D) (compEnvC scope cl C env))
        (compPost (model prog w) A E none Q (.ref D) C) s₃ := by
    rintro s₃ rfl
    refine comp_turns (fun k s' => ∃ h tk i ys mC nw, s' = { s₁ with heap := h, toks := tk } ∧ i ≤ its.size ∧ k = its.size + 1 - i ∧ ys.length ≤ i ∧ h.IsListIter I ax i ∧ Fr h₀ L h m ∧ h.Ns C mC ∧ News h₀ L h ((D, lst ys) :: nw) ∧
      (∀ q ∈ nw, q.1 ≠ I ∧ q.1 ≠ C ∧ q.1 ≠ D) ∧ J i ys nw) ?_ (its.size + 1) ⟨H₁, _, 0, [], _, news, rfl, Nat.zero_le _, rfl, Nat.le_refl _, ?_, F.keeps all, hns₁, ?_, ?_, hJ⟩
    · intro n s' hh9
      refine foldP ?_
      intro P9
      obtain ⟨h, tk', i, ys, mC, nw, e91, hi, e92, hyl, hit, F', hns, N', off, hj⟩ := hh9
      k_unfold
      clear P9
      subst e91
      subst e92
      have N₀ : News h₀ L h nw := fun q hq => N' q (List.mem_cons_of_mem _ hq)
      have st : h.IsListIter I ax i ∧ h.IsList ax its := ⟨hit, mem _ _ hj N₀⟩
      by_cases hlt : i < its.size
      · refine W.item i _ _ _ hlt st fun v h2 tk2 hv st2 hk2 => ?_
        refine foldP ?_
        intro P9
        obtain ⟨t, v₁, v₂, nt, e91, hmt, go⟩ := turn i ys nw v hj hv
        k_unfold
        clear P9
        subst e91
        have k2 : ∀ b o, b ≠ I → h.get? b = some o → h2.get? b = some o := fun b o hb e => hk2 b o (by simpa using hb) e
        have ht : IsTup h2 t #[v₁, v₂] := ⟨_, k2 _ _ (off _ hmt).1 (N₀ _ hmt).1, rfl, nt, rfl⟩
        refine wpAny_letOwnedTupleGo_listiter st2.1 ?_
        refine assign_Tuple_tuple hh ht rfl rfl fun h3 he => ?_
        have k3 : ∀ b o, b ≠ I → h.get? b = some o → h3.get? b = some o := fun b o hb e => he b o (Nat.ne_of_lt (Heap.lt_size (k2 b o hb e))) (k2 b o hb e)
        have hI3 : h3.IsListIter I ax (i + 1) := st2.1.at fun o e => he I o (Nat.ne_of_lt (Heap.lt_size e)) e
        refine assignInOrder_cons (wpAny_assign_Name (wpAny_storeName_local (lookup_relabel_local hx) (hns.at' fun o e => k3 _ o (Ne.symm hIC) e) (fun h4 hn4 hs4 => ?_) (by simp [compEnvC, relabel, hkind])))
        refine assignInOrder_cons (wpAny_assign_Name (wpAny_storeName_local (lookup_relabel_local hx₂) hn4 (fun h5 hn5 hs5 => ?_) (by simp [compEnvC, relabel, hkind])))
        refine assignInOrder_nil ?_
        have k5 : ∀ b o, b ≠ I → b ≠ C → h.get? b = some o → h5.get? b = some o := fun b o hb hc e => hs5.extBut b o hc (hs4.extBut b o hc (k3 b o hb e))
        have hI5 : h5.IsListIter I ax (i + 1) := (hI3.extBut hs4.extBut hIC).extBut hs5.extBut hIC
        obtain ⟨oI, eI, cI⟩ := id hI5
        obtain ⟨oC, eC, nC⟩ := ns_obj hn5
        have F5 : Fr h₀ L h5 m := ⟨F'.ns.at' fun o e => k5 L o hLI hLC e, fun b o e => k5 b o (fun q => by rw [q, hI₀] at e; cases e) (fun q => by rw [q, hC₀] at e; cases e) (F'.keep b o e), F'.above⟩
        have N5 : News h₀ L h5 ((I, oI) :: (C, oC) :: (D, lst ys) :: nw) := fun q hq => by
          rcases List.mem_cons.mp hq with rfl | hq
          · exact ⟨eI, Ne.symm hLI, hI₀⟩
          · rcases List.mem_cons.mp hq with rfl | hq
            · exact ⟨eC, Ne.symm hLC, hC₀⟩
            · have z := N' q hq
              rcases List.mem_cons.mp hq with rfl | hq
              · exact ⟨k5 _ _ (Ne.symm hID) (Ne.symm hCD) z.1, z.2⟩
              · exact ⟨k5 _ _ (off q hq).1 (off q hq).2.1 z.1, z.2⟩
        refine wpAny_mono (go I oI C oC D _ h5 _ _ nC (by simp [hxx]) (by simp) F5 N5 off ⟨hIC, hID, hCD⟩) (fun ok s6 h6 => ?_) fun _ _ e => e
        cases ok with
        | false =>
          simp only [Bool.false_eq_true, if_false] at h6 ⊢
          refine foldP ?_
          intro P9
          obtain ⟨h6, tk6, nw6, e91, F6, N6, off6, j6⟩ := h6
          k_unfold
          clear P9
          subst e91
          have zI := (N6 (I, oI) List.mem_cons_self).1
          have zC := (N6 (C, oC) (List.mem_cons_of_mem _ List.mem_cons_self)).1
          exact ⟨its.size + 1 - (i + 1), by omega, h6, tk6, i + 1, ys, _, nw6, rfl, hlt, rfl, Nat.le_succ_of_le hyl, ⟨oI, zI, cI⟩, F6, nC.ns zC, fun q hq => N6 q (List.mem_cons_of_mem _ (List.mem_cons_of_mem _ hq)), off6, j6⟩
        | true =>
          simp only [if_true] at h6 ⊢
          refine wpAny_mono h6 (fun y s7 h7 => ?_) fun _ _ e => e
          refine foldP ?_
          intro P9
          obtain ⟨h7, tk7, nw7, e91, F7, N7, off7, j7⟩ := h7
          k_unfold
          clear P9
          subst e91
          have zI := (N7 (I, oI) List.mem_cons_self).1
          have zC := (N7 (C, oC) (List.mem_cons_of_mem _ List.mem_cons_self)).1
          have zD := (N7 (D, lst ys) (List.mem_cons_of_mem _ (List.mem_cons_of_mem _ List.mem_cons_self))).1
          refine append_at (hsz := by show ys.toArray.size ≤ sizeLine; rw [List.size_toArray]; omega) zD fun h8 hs8 hD8 => ?_
          refine ⟨its.size + 1 - (i + 1), by omega, h8, tk7, i + 1, ys ++ [y], _, nw7, rfl, hlt, rfl, by simp; omega, ⟨oI, hs8.extBut _ _ hID zI, cI⟩, F7.change hs8 (Ne.symm hLD) hD₀, nC.ns (hs8.extBut _ _ hCD zC), fun q hq => ?_, off7, j7⟩
          rcases List.mem_cons.mp hq with rfl | hq
          · exact ⟨hD8.trans (congrArg some (lst_snoc ys y)), Ne.symm hLD, hD₀⟩
          · have z := N7 q (List.mem_cons_of_mem _ (List.mem_cons_of_mem _ (List.mem_cons_of_mem _ hq)))
            exact ⟨hs8.extBut _ _ (off7 q hq).2.2 z.1, z.2⟩
      · obtain rfl : i = its.size := Nat.le_antisymm hi (Nat.not_lt.mp hlt)
        refine W.done _ _ _ st fun h2 tk2 hk2 => ?_
        have k2 : ∀ b o, b ≠ I → h.get? b = some o → h2.get? b = some o := fun b o hb e => hk2 b o (by simpa using hb) e
        refine ⟨mC, hns.at' fun o e => k2 _ o (Ne.symm hIC) e, fun h'' hs'' => ?_⟩
        have k9 : ∀ b o, b ≠ I → b ≠ C → h.get? b = some o → h''.get? b = some o := fun b o hb hc e => hs''.extBut b o hc (k2 b o hb e)
        refine done D ys nw h'' tk2 hj ⟨F'.ns.at' fun o e => k9 L o hLI hLC e, fun b o e => k9 b o (fun q => by rw [q, hI₀] at e; cases e) (fun q => by rw [q, hC₀] at e; cases e) (F'.keep b o e), F'.above⟩ (fun q hq => ?_) fun q hq => (off q hq).2.2
        have z := N' q hq
        rcases List.mem_cons.mp hq with rfl | hq
        · exact ⟨k9 _ _ (Ne.symm hID) (Ne.symm hCD) z.1, z.2⟩
        · exact ⟨k9 _ _ (off q hq).1 (off q hq).2.1 z.1, z.2⟩
    · exact ⟨_, old _ _ hIC (up2 _ _ hI), rfl, rfl⟩
    · intro q hq
      rcases List.mem_cons.mp hq with rfl | hq
      · exact ⟨old _ _ (Ne.symm hCD) hD2, Ne.symm hLD, hD₀⟩
      · exact ⟨all _ _ (N q hq).1, (N q hq).2⟩
    · exact fun q hq => ne3 _ (lt (N q hq).1)
  refine codeAny_compStart_list (loop _ rfl) (W.self 0 _ _ _ ?_ (loop _ rfl))
  exact ⟨⟨_, old _ _ hIC (up2 _ _ hI), rfl, rfl⟩, by obtain ⟨o, e, c⟩ := hl; exact ⟨o, all _ _ e, c⟩⟩
end
end

section
open PySem PySem.W PyProof.Rows PySem.Spec PySem.Calls PyProof.Rows.LCg
section
variable {prog : Program} {w : World} {A : Around} {E : Value → Shared → Prop} {s : Shared} {env : Env} {h₀ : Heap} {m : Str → Option Value} {body : List Stmt} {Q : Flow → Shared → Prop}
/-- a turn's end of a loop over a list -/
def LoopEnd (h₀ : Heap) (L : Addr) (I : Addr) (oI : Obj) (s₁ : Shared) (Jn : (Str → Option Value) → List (Addr × Obj) → Prop) (Q : Flow → Shared → Prop) (f : Flow) (s' : Shared) : Prop :=
  match f with
  | .ret v => Q (.ret v) s'
  | .brk => Q .next s'
  | _ => ∃ h tk m' nw, s' = { s₁ with heap := h, toks := tk } ∧ Fr h₀ L h m' ∧ News h₀ L h ((I, oI) :: nw) ∧ (∀ q ∈ nw, q.1 ≠ I) ∧ Jn m' nw
/-- for x, x₂ in a list of pairs, by what holds between the turns -/
theorem for_pairs {iter : Expr} {x x₂ : Str} {px px₂ tp pos : Pos} {tk} {ax : Addr} {its : Array Value} {news : List (Addr × Obj)} (J : Nat → (Str → Option Value) → List (Addr × Obj) → Prop)
    (F : Fr h₀ env.locals s.heap m) (N : News h₀ env.locals s.heap news) (hx : env.kindOf x = some .local) (hx₂ : env.kindOf x₂ = some .local) (hh : A.handled = none)
    (hp : (env.scope.kind == .class || (env.scope.kind == .module && env.locals != env.globals)) = false) (hE : PassesOwn (model prog w) A env E)
    (hit : ∀ (Q' : Value → Shared → Prop), Q' (.ref ax) s → wpAny (model prog w) A (eval iter env) Q' E s) (hJ : J 0 m news)
    (hax : ∀ i m nw, J i m nw → ∃ k, (ax, ({ cls := .type "list", data := .seq its k } : Obj)) ∈ nw)
    (turn : ∀ i m nw v, J i m nw → its[i]? = some v → ∃ t v₁ v₂ nt, v = .ref t ∧ (t, tupO #[v₁, v₂] nt) ∈ nw ∧ ∀ I oI h tk, Fr h₀ env.locals h (fun y => if y = x₂ then some v₂ else if y = x then some v₁ else m y) →
      News h₀ env.locals h ((I, oI) :: nw) → (∀ q ∈ nw, q.1 ≠ I) → wpAny (model prog w) A (execs body env) (LoopEnd h₀ env.locals I oI s (J (i + 1)) Q) E { s with heap := h, toks := tk })
    (done : ∀ m nw h tk, J its.size m nw → Fr h₀ env.locals h m → News h₀ env.locals h nw → Q .next { s with heap := h, toks := tk })
    (hs : ∀ x, foldedSetIterable iter env x = pure x := by intro _; rfl) :
    wpAny (model prog w) A (exec (.For (.Tuple [.Name x px, .Name x₂ px₂] tk tp) iter body [] pos) env) Q E s := by
  have mem : ∀ {g nw} i m, J i m nw → News h₀ env.locals g nw → g.IsList ax its := fun i m j N => by
    obtain ⟨k, hm⟩ := hax i m _ j
    exact ⟨_, (N _ hm).1, rfl, _, rfl⟩
  have hl := mem 0 m hJ N
  refine wpAny_For (hit _ (wpAny_pyIter_list hl ?_)) hs
  have up : ∀ b o, s.heap.get? b = some o → (s.heap.push { cls := .type "list_iterator", data := .fields #[.ref ax, .int 0 0] }).get? b = some o := fun b o e => Heap.get?_push_of_some _ e
  have hI : (s.heap.push { cls := .type "list_iterator", data := .fields #[.ref ax, .int 0 0] }).get? s.heap.objs.size = some { cls := .type "list_iterator", data := .fields #[.ref ax, .int 0 0] } := Heap.get?_push_size _ rfl
  generalize s.heap.push { cls := .type "list_iterator", data := .fields #[.ref ax, .int 0 0] } = G at up hI ⊢
  have hI₀ : h₀.get? s.heap.objs.size = none := next_is_new F
  have lt : ∀ {b o}, s.heap.get? b = some o → b < s.heap.objs.size := fun e => Heap.lt_size e
  have hLI : env.locals ≠ s.heap.objs.size := Nat.ne_of_lt F.ns.lt
  have hAI : ax ≠ s.heap.objs.size := Nat.ne_of_lt (by obtain ⟨_, e, _⟩ := hl; exact lt e)
  generalize s.heap.objs.size = I at hI hI₀ lt hLI hAI ⊢
  have W : Walks prog w A I [I, ax] [I] its.size (fun i v => its[i]? = some v) (fun i h => h.IsListIter I ax i ∧ h.IsList ax its) := Walks.list hh I ax hAI its
  refine codeAny_forLoop_any (fun k s' => ∃ h tk i m nw, s' = { s with heap := h, toks := tk } ∧ i ≤ its.size ∧ k = its.size + 1 - i ∧ h.IsListIter I ax i ∧ Fr h₀ env.locals h m ∧ News h₀ env.locals h nw ∧ (∀ q ∈ nw, q.1 ≠ I) ∧ J i m nw) ?_
    (its.size + 1) ⟨G, _, 0, m, news, rfl, Nat.zero_le _, rfl, ⟨_, hI, rfl, rfl⟩, F.keeps up, fun q hq => ⟨up _ _ (N q hq).1, (N q hq).2⟩, fun q hq => Nat.ne_of_lt (lt (N q hq).1), hJ⟩
  intro n s' hh9
  refine foldP ?_
  intro P9
  obtain ⟨h, tk', i, m, nw, e91, hi, e92, hit', F', N', off, hj⟩ := hh9
  k_unfold
  clear P9
  subst e91
  subst e92
  have st : h.IsListIter I ax i ∧ h.IsList ax its := ⟨hit', mem _ _ hj N'⟩
  by_cases hlt : i < its.size
  · refine W.item i _ _ _ hlt st fun v h2 tk2 hv st2 hk2 => ?_
    refine foldP ?_
    intro P9
    obtain ⟨t, v₁, v₂, nt, e91, hmt, go⟩ := turn i m nw v hj hv
    k_unfold
    clear P9
    subst e91
    have k2 : ∀ b o, b ≠ I → h.get? b = some o → h2.get? b = some o := fun b o hb e => hk2 b o (by simpa using hb) e
    have ht : IsTup h2 t #[v₁, v₂] := ⟨_, k2 _ _ (off _ hmt) (N' _ hmt).1, rfl, nt, rfl⟩
    refine wpAny_letOwnedTupleGo_listiter st2.1 ?_
    refine assign_Tuple_tuple hh ht rfl rfl fun h3 he => ?_
    have k3 : ∀ b o, b ≠ I → h.get? b = some o → h3.get? b = some o := fun b o hb e => he b o (Nat.ne_of_lt (Heap.lt_size (k2 b o hb e))) (k2 b o hb e)
    have F3 : Fr h₀ env.locals h3 m := ⟨F'.ns.at' fun o e => k3 _ o hLI e, fun b o e => k3 b o (fun q => by rw [q, hI₀] at e; cases e) (F'.keep b o e), F'.above⟩
    have N3 : News h₀ env.locals h3 nw := fun q hq => ⟨k3 _ _ (off q hq) (N' q hq).1, (N' q hq).2⟩
    have hI3 : h3.IsListIter I ax (i + 1) := st2.1.at fun o e => he I o (Nat.ne_of_lt (Heap.lt_size e)) e
    refine assignInOrder_cons (wpAny_assign_Name (wpAny_storeName_local hx F3.ns (fun h4 hn4 hs4 => ?_) hp))
    have F4 := F3.set hn4 hs4
    have N4 := N3.set hs4
    refine assignInOrder_cons (wpAny_assign_Name (wpAny_storeName_local hx₂ F4.ns (fun h5 hn5 hs5 => ?_) hp))
    have F5 := F4.set hn5 hs5
    have N5 := N4.set hs5
    refine assignInOrder_nil ?_
    have hI5 : h5.IsListIter I ax (i + 1) := (hI3.extBut hs4.extBut (Ne.symm hLI)).extBut hs5.extBut (Ne.symm hLI)
    obtain ⟨oI, eI, cI⟩ := id hI5
    refine wpAny_passesOwn hE (wpAny_mono (go I oI h5 _ F5 (fun q hq => ?_) off) (fun f s6 h6 => ?_) fun _ _ e => e)
    · rcases List.mem_cons.mp hq with rfl | hq
      · exact ⟨eI, Ne.symm hLI, hI₀⟩
      · exact N5 q hq
    · have fin : (∃ h tk m' nw, s6 = { s with heap := h, toks := tk } ∧ Fr h₀ env.locals h m' ∧ News h₀ env.locals h ((I, oI) :: nw) ∧ (∀ q ∈ nw, q.1 ≠ I) ∧ J (i + 1) m' nw) →
          ∃ k, k < its.size + 1 - i ∧ ∃ h tk i m nw, s6 = { s with heap := h, toks := tk } ∧ i ≤ its.size ∧ k = its.size + 1 - i ∧ h.IsListIter I ax i ∧ Fr h₀ env.locals h m ∧ News h₀ env.locals h nw ∧ (∀ q ∈ nw, q.1 ≠ I) ∧ J i m nw := by
        intro hh9
        refine foldP ?_
        intro P9
        obtain ⟨h7, tk7, m7, nw7, e91, F7, N7, off7, j7⟩ := hh9
        k_unfold
        clear P9
        subst e91
        exact ⟨its.size + 1 - (i + 1), by omega, h7, tk7, i + 1, m7, nw7, rfl, hlt, rfl, ⟨oI, (N7 _ List.mem_cons_self).1, cI⟩, F7, fun q hq => N7 q (List.mem_cons_of_mem _ hq), off7, j7⟩
      cases f with
      | ret v => exact h6
      | brk => exact h6
      | next => exact fin h6
      | cont => exact fin h6
  · obtain rfl : i = its.size := Nat.le_antisymm hi (Nat.not_lt.mp hlt)
    refine W.done _ _ _ st fun h2 tk2 hk2 => wpAny_execs_nil ?_
    have k2 : ∀ b o, b ≠ I → h.get? b = some o → h2.get? b = some o := fun b o hb e => hk2 b o (by simpa using hb) e
    exact done m nw h2 tk2 hj ⟨F'.ns.at' fun o e => k2 _ o hLI e, fun b o e => k2 b o (fun q => by rw [q, hI₀] at e; cases e) (F'.keep b o e), F'.above⟩ fun q hq => ⟨k2 _ _ (off q hq) (N' q hq).1, (N' q hq).2⟩
end
end

section
open PySem PySem.W PyProof.Rows PySem.Spec PySem.Calls
open Builtin
theorem bb_bytes : typeLookup (.type "bytes") "__bytes__" = pure (some (.builtin "bytes.__bytes__")) := by rw [typeLookup_type, builtinLookup_eq_fast]; kernel_rfl
theorem bi_bytes : typeLookup (.type "int") "__bytes__" = pure none := by rw [typeLookup_type, builtinLookup_eq_fast]; kernel_rfl
theorem bi_index : typeLookup (.type "int") "__index__" = pure (some (.builtin "int.__index__")) := by rw [typeLookup_type, builtinLookup_eq_fast]; kernel_rfl
section
variable {prog : Program} {w : World} {A : Around} {E : Value → Shared → Prop} {s : Shared}
theorem new_bytes {b : Array UInt8} {t : Tok} {Q : Value → Shared → Prop} (hQ : Q (.bytes b t) s) :
    codeAny (model prog w) A (.call (.builtin "bytes.__new__") ⟨[.type "bytes", .bytes b t], []⟩) (wants Q E) s := by
  refine codeAny_of_tree ?_
  show wpAny _ A.in1 (do checkBuiltinCall "bytes.__new__" ⟨[.type "bytes", .bytes b t], []⟩; again (.builtin "bytes.__new__" ⟨[.type "bytes", .bytes b t], []⟩)) _ _ s
  refine wpAny_bind (wpAny_of_eq (F.bm_newCall _) (wpAny_pure ⟨plainId_quiet F.bm_plain _, codeAny_builtin F.bm_entry ?_⟩))
  rw [Around.under_plainId F.bm_plain _]
  unfold Builtin.«bytes.__new__»
  refine wpAny_bind (wpAny_of_eq (a := true) rfl ?_)
  refine bm_if_false rfl ?_
  refine wpAny_bind (wpAny_of_eq F.bm_sub ?_)
  refine bm_if_false rfl ?_
  refine wpAny_bind (wpAny_of_eq (F.bm_bind _) ?_)
  refine wpAny_bind (wpAny_of_eq (a := ()) rfl ?_)
  refine wpAny_bind (wpAny_of_eq (a := ()) rfl ?_)
  refine bm_if_false rfl ?_
  refine wpAny_bind (wpAny_specialOf (PySem.W.typeIs_bytes s b t) bb_bytes ?_)
  refine wpAny_bind (wpAny_rule ?_)
  refine wpAny_bind (wpAny_typeOf (PySem.W.typeIs_bytes s b t) ?_)
  refine bm_if_true (by decide) ?_
  show wpAny _ _ (if (Value.type "bytes" == Value.type "bytes") = true then _ else _) _ _ _
  refine bm_if_true (by decide) ?_
  first
    | exact wpAny_pure hQ
    | exact wpAny_bind (wpAny_pure (wpAny_pure hQ))
theorem call_bytes_bytes {b : Array UInt8} {t : Tok} {Q : Value → Shared → Prop} (hQ : Q (.bytes b t) s) : wpAny (model prog w) A (call (.type "bytes") [.bytes b t]) Q E s := by
  refine callType_codes (Q₁ := fun obj s₁ => s₁.TypeIs obj "bytes" ∧ Q obj s₁) F.bm_called (F.bm_typeCall _) F.entry_object_init
    (new_bytes ⟨PySem.W.typeIs_bytes _ _ _, hQ⟩) fun obj s₁ h₁ => ?_
  exact ⟨h₁.1, F.args_object_init_2 obj _, object_init_meets F.bm_called.init.lookup F.bm_called.made (by decide) prog w A.in1 _ s₁ ⟨h₁.1, rfl, h₁.2⟩⟩
theorem new_int {n : Int} {t : Tok} {Q : Value → Shared → Prop} (h0 : 0 ≤ n) (h1 : n ≤ 16777216) (hQ : ∀ k t', Q (.bytes (Array.replicate n.toNat 0) t') { s with toks := k }) :
    codeAny (model prog w) A (.call (.builtin "bytes.__new__") ⟨[.type "bytes", .int n t], []⟩) (wants Q E) s := by
  refine codeAny_of_tree ?_
  show wpAny _ A.in1 (do checkBuiltinCall "bytes.__new__" ⟨[.type "bytes", .int n t], []⟩; again (.builtin "bytes.__new__" ⟨[.type "bytes", .int n t], []⟩)) _ _ s
  refine wpAny_bind (wpAny_of_eq (F.bm_newCall _) (wpAny_pure ⟨plainId_quiet F.bm_plain _, codeAny_builtin F.bm_entry ?_⟩))
  rw [Around.under_plainId F.bm_plain _]
  unfold Builtin.«bytes.__new__»
  refine wpAny_bind (wpAny_of_eq (a := true) rfl ?_)
  refine bm_if_false rfl ?_
  refine wpAny_bind (wpAny_of_eq F.bm_sub ?_)
  refine bm_if_false rfl ?_
  refine wpAny_bind (wpAny_of_eq (F.bm_bind _) ?_)
  refine wpAny_bind (wpAny_of_eq (a := ()) rfl ?_)
  refine wpAny_bind (wpAny_of_eq (a := ()) rfl ?_)
  refine bm_if_false rfl ?_
  have hT : s.TypeIs (.int n t) "int" := rfl
  refine wpAny_bind (wpAny_specialOf hT bi_bytes ?_)
  refine wpAny_bind (wpAny_of_eq (a := false) rfl ?_)
  refine bm_if_false rfl ?_
  refine wpAny_bind (wpAny_specialOf hT bi_index ?_)
  refine bm_if_false rfl ?_
  refine wpAny_bind (wpAny_of_eq (a := Except.ok n) rfl ?_)
  dsimp only
  refine bm_if_false (by simp only [Bytes.fitsIndex, Bool.not_eq_false', Bool.and_eq_true, decide_eq_true_eq]; omega) ?_
  refine wpAny_ite (KBy.ite_no (by omega) ?_)
  refine wpAny_ite (KBy.ite_no (by omega) ?_)
  refine bm_if_false (by show decide (n.toNat > sizeLine) = false; rw [decide_eq_false_iff_not, sizeLine_eq]; omega) ?_
  refine wpAny_bind (wpAny_rule ?_)
  refine wpAny_bind (wpAny_mkBytes ?_ (by rw [Array.size_replicate, sizeLine_eq]; omega))
  show wpAny _ _ (if (Value.type "bytes" == Value.type "bytes") = true then _ else _) _ _ _
  refine bm_if_true (by decide) ?_
  first
    | exact wpAny_pure (hQ _ _)
    | exact wpAny_bind (wpAny_pure (wpAny_pure (hQ _ _)))
theorem call_bytes_int {n : Int} {t : Tok} {Q : Value → Shared → Prop} (h0 : 0 ≤ n) (h1 : n ≤ 16777216) (hQ : ∀ k t' z zs, KBw.bInts z = zs → (zs.length : Int) = n → zs = List.replicate n.toNat 0 → Q (.bytes z t') { s with toks := k }) : wpAny (model prog w) A (call (.type "bytes") [.int n t]) Q E s := by
  refine callType_codes (Q₁ := fun obj s₁ => s₁.TypeIs obj "bytes" ∧ Q obj s₁) F.bm_called (F.bm_typeCall _) F.entry_object_init
    (new_int h0 h1 fun k t' => ⟨PySem.W.typeIs_bytes _ _ _, hQ k t' _ (List.replicate n.toNat 0) (by simp [KBw.bInts]) (by rw [List.length_replicate]; omega) rfl⟩) fun obj s₁ h₁ => ?_
  exact ⟨h₁.1, F.args_object_init_2 obj _, object_init_meets F.bm_called.init.lookup F.bm_called.made (by decide) prog w A.in1 _ s₁ ⟨h₁.1, rfl, h₁.2⟩⟩
end
end

section
open PySem PySem.W PyProof.Rows PySem.Spec PySem.Calls
/-- how a row of octets reads -/
inductive Parse : List Int → Option (List (Int × List Int)) → Prop
  | nil : Parse [] (some [])
  | stop (l) : Parse (0 :: l) (some [])
  | one {l r} : Parse l r → Parse (1 :: l) (r.map ((1, []) :: ·))
  | bare {k} : k ≠ 0 → k ≠ 1 → Parse [k] none
  | bad {k z l} : k ≠ 0 → k ≠ 1 → (z < 2 ∨ (l.length : Int) + 2 < z) → Parse (k :: z :: l) none
  | opt {k z l r} : k ≠ 0 → k ≠ 1 → 2 ≤ z → z ≤ (l.length : Int) + 2 → Parse (l.drop (z - 2).toNat) r → Parse (k :: z :: l) (r.map ((k, l.take (z - 2).toNat) :: ·))
theorem Parse.nil_inv {r} (h : Parse [] r) : r = some [] := by cases h; rfl
theorem Parse.stop_inv {l r} (h : Parse (0 :: l) r) : r = some [] := by
  generalize e : (0 : Int) :: l = q at h
  cases h with
  | nil => cases e
  | stop _ => rfl
  | one _ => injection e with e1 _; exact absurd e1 (by decide)
  | bare a _ => injection e with e1 _; exact absurd e1.symm a
  | bad a _ _ => injection e with e1 _; exact absurd e1.symm a
  | opt a _ _ _ _ => injection e with e1 _; exact absurd e1.symm a
theorem Parse.one_inv {x l r} (h : Parse (x :: l) r) (h1 : x = 1) : ∃ r', Parse l r' ∧ r = r'.map ((x, []) :: ·) := by
  subst h1
  generalize e : (1 : Int) :: l = q at h
  cases h with
  | nil => cases e
  | stop _ => injection e with e1 _; exact absurd e1 (by decide)
  | one h => injection e with _ e2; subst e2; exact ⟨_, h, rfl⟩
  | bare _ a => injection e with e1 _; exact absurd e1.symm a
  | bad _ a _ => injection e with e1 _; exact absurd e1.symm a
  | opt _ a _ _ _ => injection e with e1 _; exact absurd e1.symm a
theorem Parse.bare_inv {x r} (h : Parse [x] r) (h0 : x ≠ 0) (h1 : x ≠ 1) : r = none := by
  generalize e : [x] = q at h
  cases h with
  | nil => cases e
  | stop _ => injection e with e1 _; exact absurd e1 h0
  | one _ => injection e with e1 _; exact absurd e1 h1
  | bare _ _ => rfl
  | bad _ _ _ => rfl
  | opt _ _ _ _ _ => injection e with _ e2; cases e2
theorem Parse.bad_inv {x z l r} (h : Parse (x :: z :: l) r) (h0 : x ≠ 0) (h1 : x ≠ 1) (hb : z < 2 ∨ (l.length : Int) + 2 < z) : r = none := by
  generalize e : x :: z :: l = q at h
  cases h with
  | nil => cases e
  | stop _ => injection e with e1 _; exact absurd e1 h0
  | one _ => injection e with e1 _; exact absurd e1 h1
  | bare _ _ => rfl
  | bad _ _ _ => rfl
  | opt _ _ _ _ _ => injection e with _ e2; injection e2 with e2 e3; subst e2 e3; omega
theorem Parse.opt_inv {x z l r} (h : Parse (x :: z :: l) r) (h0 : x ≠ 0) (h1 : x ≠ 1) (h2 : 2 ≤ z) (h3 : z ≤ (l.length : Int) + 2) : ∃ r', Parse (l.drop (z - 2).toNat) r' ∧ r = r'.map ((x, l.take (z - 2).toNat) :: ·) := by
  generalize e : x :: z :: l = q at h
  cases h with
  | nil => cases e
  | stop _ => injection e with e1 _; exact absurd e1 h0
  | one _ => injection e with e1 _; exact absurd e1 h1
  | bare _ _ => injection e with _ e2; cases e2
  | bad _ _ _ => injection e with _ e2; injection e2 with e2 e3; subst e2 e3; omega
  | opt _ _ _ _ h => injection e with e1 e2; injection e2 with e2 e3; subst e1 e2 e3; exact ⟨_, h, rfl⟩
theorem drop_at {ks : List Int} {k : Nat} (h : k < ks.length) : ks.drop k = ks.getD k 0 :: ks.drop (k + 1) := by
  rw [List.drop_eq_getElem_cons h, List.getD_eq_getElem?_getD, List.getElem?_eq_getElem h]; rfl
section
variable {ks : List Int} {k : Nat} {r' : Option (List (Int × List Int))}
theorem at_end (hP : Parse (ks.drop k) r') (h : ¬ (k : Int) < ks.length) : r' = some [] := by
  rw [List.drop_eq_nil_of_le (by omega)] at hP
  exact hP.nil_inv
theorem at_stop (hP : Parse (ks.drop k) r') (h : (k : Int) < ks.length) (h0 : ks.getD (k : Int).toNat 0 = 0) : r' = some [] := by
  rw [drop_at (by omega)] at hP
  rw [Int.toNat_natCast] at h0
  rw [h0] at hP
  exact hP.stop_inv
theorem at_one (hP : Parse (ks.drop k) r') (h : (k : Int) < ks.length) (h0 : ks.getD (k : Int).toNat 0 ≠ 0) (hc : (if ks.getD (k : Int).toNat 0 = 0 then ks.getD (k : Int).toNat 0 == 0 else ks.getD (k : Int).toNat 0 == 1) = true) :
    ∃ r'', Parse (ks.drop (k + 1)) r'' ∧ r' = r''.map ((ks.getD (k : Int).toNat 0, []) :: ·) := by
  rw [if_neg h0, beq_iff_eq] at hc
  rw [drop_at (by omega)] at hP
  rw [Int.toNat_natCast] at hc ⊢
  exact hP.one_inv hc
theorem single_no {x : Int} (h0 : x ≠ 0) (hc : (if x = 0 then x == 0 else x == 1) = false) : x ≠ 1 := by
  rw [if_neg h0] at hc
  simpa using hc
theorem at_bare (hP : Parse (ks.drop k) r') (h : (k : Int) < ks.length) (h0 : ks.getD (k : Int).toNat 0 ≠ 0) (hc : (if ks.getD (k : Int).toNat 0 = 0 then ks.getD (k : Int).toNat 0 == 0 else ks.getD (k : Int).toNat 0 == 1) = false)
    (hl : (ks.length : Int) ≤ (k : Int) + 1) : r' = none := by
  have h1 := single_no h0 hc
  rw [drop_at (by omega), List.drop_eq_nil_of_le (by omega)] at hP
  rw [Int.toNat_natCast] at h0 h1
  exact hP.bare_inv h0 h1
theorem succ_nat : ((k : Int) + 1).toNat = k + 1 := by omega
theorem at_bad (hP : Parse (ks.drop k) r') (h : (k : Int) < ks.length) (h0 : ks.getD (k : Int).toNat 0 ≠ 0) (hc : (if ks.getD (k : Int).toNat 0 = 0 then ks.getD (k : Int).toNat 0 == 0 else ks.getD (k : Int).toNat 0 == 1) = false)
    (hl : ¬ (ks.length : Int) ≤ (k : Int) + 1) (hb : ks.getD ((k : Int) + 1).toNat 0 < 2 ∨ (ks.length : Int) < (k : Int) + ks.getD ((k : Int) + 1).toNat 0) : r' = none := by
  have h1 := single_no h0 hc
  rw [drop_at (by omega), drop_at (k := k + 1) (by omega)] at hP
  rw [Int.toNat_natCast] at h0 h1
  rw [succ_nat] at hb
  refine hP.bad_inv h0 h1 ?_
  rw [List.length_drop]
  omega
theorem clip_le {n : Nat} {i : Int} (h0 : 0 ≤ i) (h1 : i ≤ n) : clipAt n i = i.toNat := by
  obtain ⟨j, rfl⟩ := Int.eq_ofNat_of_zero_le h0
  have e := clipAt_nat n j
  rw [e]
  omega
theorem at_opt (hP : Parse (ks.drop k) r') (h : (k : Int) < ks.length) (h0 : ks.getD (k : Int).toNat 0 ≠ 0) (hc : (if ks.getD (k : Int).toNat 0 = 0 then ks.getD (k : Int).toNat 0 == 0 else ks.getD (k : Int).toNat 0 == 1) = false)
    (hl : ¬ (ks.length : Int) ≤ (k : Int) + 1) (hb : ¬ ks.getD ((k : Int) + 1).toNat 0 < 2) (hb2 : ¬ (ks.length : Int) < (k : Int) + ks.getD ((k : Int) + 1).toNat 0) :
    ∃ k' : Nat, (k : Int) + ks.getD ((k : Int) + 1).toNat 0 = k' ∧ k < k' ∧ k' ≤ ks.length ∧ ∃ r'', Parse (ks.drop k') r'' ∧
      r' = r''.map ((ks.getD (k : Int).toNat 0, (ks.drop (clipAt ks.length ((k : Int) + 2))).take (clipAt ks.length ((k : Int) + ks.getD ((k : Int) + 1).toNat 0) - clipAt ks.length ((k : Int) + 2))) :: ·) := by
  have h1 := single_no h0 hc
  rw [drop_at (by omega), drop_at (k := k + 1) (by omega)] at hP
  rw [Int.toNat_natCast] at h0 h1
  rw [succ_nat] at hb hb2 ⊢
  obtain ⟨r'', p, e⟩ := hP.opt_inv h0 h1 (by omega) (by rw [List.length_drop]; omega)
  refine ⟨k + (ks.getD (k + 1) 0).toNat, by omega, by omega, by omega, r'', ?_, ?_⟩
  · rw [List.drop_drop] at p
    rw [show k + (ks.getD (k + 1) 0).toNat = k + 1 + 1 + (ks.getD (k + 1) 0 - 2).toNat by omega]
    exact p
  · rw [clip_le (by omega) (by omega), clip_le (by omega) (by omega), Int.toNat_natCast, show ((k : Int) + ks.getD (k + 1) 0).toNat - ((k : Int) + 2).toNat = (ks.getD (k + 1) 0 - 2).toNat by omega, show ((k : Int) + 2).toNat = k + 1 + 1 by omega]
    exact e
end
end

section
open PySem PySem.W PyProof.Rows PySem.Spec PySem.Calls PyProof.Rows.LCg
abbrev m3 (x1 : Str) (v1 : Value) (x2 : Str) (v2 : Value) (x3 : Str) (v3 : Value) (u : Str → Option Value) : Str → Option Value := fun y => if y = x1 then some v1 else if y = x2 then some v2 else if y = x3 then some v3 else u y
theorem m3_of {m : Str → Option Value} {x1 : Str} {v1 : Value} {x2 : Str} {v2 : Value} {x3 : Str} {v3 : Value} (h1 : m x1 = some v1) (h2 : m x2 = some v2) (h3 : m x3 = some v3) : m = m3 x1 v1 x2 v2 x3 v3 m := by
  funext y
  show _ = ite _ _ _
  split
  · subst_vars; exact h1
  · split
    · subst_vars; exact h2
    · split
      · subst_vars; exact h3
      · rfl
/-- the pairs read so far, as they lie -/
inductive Pairs (news : List (Addr × Obj)) : List Value → List (Int × List Int) → Prop
  | nil : Pairs news [] []
  | snoc {vs ds a k t b tb n} : Pairs news vs ds → (a, ({ cls := .type "tuple", data := .seq #[.int k t, .bytes b tb] n } : Obj)) ∈ news → Pairs news (vs ++ [.ref a]) (ds ++ [(k, KBw.bInts b)])
theorem Pairs.mono {news news' : List (Addr × Obj)} {vs ds} (h : Pairs news vs ds) (hs : ∀ q ∈ news, q ∈ news') : Pairs news' vs ds := by
  induction h with
  | nil => exact .nil
  | snoc _ hm ih => exact .snoc ih (hs _ hm)
theorem Pairs.at {news : List (Addr × Obj)} {vs ds} (h : Pairs news vs ds) : ∀ {i : Nat} {v : Value}, vs.toArray[i]? = some v → ∃ a k t b tb n, v = .ref a ∧ (a, ({ cls := .type "tuple", data := .seq #[.int k t, .bytes b tb] n } : Obj)) ∈ news ∧ ds[i]? = some (k, KBw.bInts b) := by
  induction h with
  | nil => intro i v hv; simp at hv
  | @snoc vs ds a k t b tb n h hm ih =>
    intro i v hv
    have hlen : vs.length = ds.length := by
      clear hv hm ih
      induction h with
      | nil => rfl
      | snoc _ _ ih => simp [ih]
    by_cases hi : i < vs.length
    · obtain ⟨a', k', t', b', tb', n', e1, e2, e3⟩ := ih (i := i) (v := v) (by simpa [List.getElem?_append_left hi] using hv)
      exact ⟨a', k', t', b', tb', n', e1, e2, by rw [List.getElem?_append_left (by omega)]; exact e3⟩
    · have hi2 : i = vs.length := by
        have : i < (vs ++ [Value.ref a]).length := by
          by_cases hz : i < (vs ++ [Value.ref a]).length
          · exact hz
          · simp [List.getElem?_eq_none (Nat.not_lt.mp hz)] at hv
        simp at this
        omega
      subst hi2
      simp at hv
      refine ⟨a, k, t, b, tb, n, hv.symm, hm, ?_⟩
      rw [hlen]
      simp
theorem Pairs.len {news : List (Addr × Obj)} {vs ds} (h : Pairs news vs ds) : vs.length = ds.length := by
  induction h with
  | nil => rfl
  | snoc _ _ ih => simp [ih]
def big (o : Int × List Int) : Bool := decide (128 ≤ o.1)
/-- what is written of them -/
def encOf (o : Int × List Int) : List Int := if o.1 = 0 ∨ o.1 = 1 then [o.1] else o.1 :: ((o.2.length : Int) + 2) :: o.2
def encs (ds : List (Int × List Int)) : List Int := (ds.map encOf).flatten
def padded (l : List Int) : List Int := l ++ List.replicate ((4 - l.length % 4) % 4) 0
def outOf : Option (List (Int × List Int)) → List Int
  | none => []
  | some ds => padded (encs (ds.filter big))
def CopyJ (base : List (Addr × Obj)) (ds : List (Int × List Int)) (i : Nat) (ys : List Value) (nw : List (Addr × Obj)) : Prop := (∀ q ∈ base, q ∈ nw) ∧ Pairs nw ys ((ds.take i).filter big) ∧ ys.length ≤ i
theorem copied_pairs {prog : Program} {w : World} {A : Around} {E : Value → Shared → Prop} {s : Shared} {env : Env} {h₀ : Heap} {m : Str → Option Value} {ct elt iter : Expr} {x x₂ : Str} {px px₂ tp : Pos} {tk} {scope : Scope} {cl : List (Str × Addr)} {pos : Pos} {Q : Value → Shared → Prop}
    {fa : Addr} {c : Nat} {tl : List (Addr × Obj)} {vs : List Value} {ds : List (Int × List Int)}
    (F₀ : Fr h₀ env.locals s.heap m) (N₀ : News h₀ env.locals s.heap ((fa, listOf vs.toArray c) :: tl)) (hP : Pairs tl vs ds) (hvl : vs.length ≤ 100)
    (hclos : closureFor scope env = pure cl) (hcell : ∀ y ∈ scope.names, y.2 ≠ .cell) (hkind : scope.kind = .function)
    (hnames : ∀ y ∈ scope.names, y.2 = .local → scope.names.lookup y.1 = some .local) (hx : scope.names.lookup x = some .local) (hx₂ : scope.names.lookup x₂ = some .local) (hxx : x ≠ x₂) (hh : A.handled = none)
    (hit : ∀ (Q' : Value → Shared → Prop), Q' (.ref fa) s → wpAny (model prog w) A (eval iter env) Q' E s)
    (turn : ∀ i ys nw ta kk tt bb tbb nn, CopyJ ((fa, listOf vs.toArray c) :: tl) ds i ys nw → (ta, ({ cls := .type "tuple", data := .seq #[.int kk tt, .bytes bb tbb] nn } : Obj)) ∈ nw → ds[i]? = some (kk, KBw.bInts bb) →
      ∀ I oI C oC D m₂ h tk (E' : Value → Shared → Prop), NsObj oC m₂ → m₂ x = some (.int kk tt) → m₂ x₂ = some (.bytes bb tbb) →
      Fr h₀ env.locals h m → News h₀ env.locals h ((I, oI) :: (C, oC) :: (D, lst ys) :: nw) → (∀ q ∈ nw, q.1 ≠ I ∧ q.1 ≠ C ∧ q.1 ≠ D) → (@Ne Nat I C ∧ @Ne Nat I D ∧ @Ne Nat C D) →
      wpAny (model prog w) A (isTrue ct (compEnvC scope cl C env) (eval ct (compEnvC scope cl C env))) (fun ok s' => if ok = true then
        wpAny (model prog w) A (eval elt (compEnvC scope cl C env)) (CompStepY h₀ env.locals m s I oI C oC D (lst ys) (fun y => CopyJ ((fa, listOf vs.toArray c) :: tl) ds (i + 1) (ys ++ [y]))) E' s'
        else CompStep h₀ env.locals m s I oI C oC D (lst ys) (CopyJ ((fa, listOf vs.toArray c) :: tl) ds (i + 1) ys) s') E' { s with heap := h, toks := tk })
    (done : ∀ D ys nw h tk, CopyJ ((fa, listOf vs.toArray c) :: tl) ds vs.length ys nw → Fr h₀ env.locals h m → News h₀ env.locals h ((D, lst ys) :: nw) → (∀ q ∈ nw, q.1 ≠ D) → Q (.ref D) { s with heap := h, toks := tk })
    (hs : ∀ x, foldedSetIterable iter env x = pure x := by intro _; rfl) :
    wpAny (model prog w) A (eval (.ListComp elt [⟨.Tuple [.Name x px, .Name x₂ px₂] tk tp, iter, [ct], 0⟩] scope pos) env) Q E s := by
  refine comp_pairs (m := m) (h₀ := h₀) (CopyJ ((fa, listOf vs.toArray c) :: tl) ds) rfl hclos hcell hkind hnames hx hx₂ hxx hh (hit _ ?_) hs
  refine ⟨fa, vs.toArray, _, rfl, F₀, N₀, (by rw [List.size_toArray, sizeLine_eq]; omega), ⟨fun q hq => hq, .nil, Nat.le_refl _⟩, fun i ys nw hj => ⟨c, hj.1 _ List.mem_cons_self⟩, ?_, ?_⟩
  · intro i ys nw v hj hv
    obtain ⟨ta, kk, tt, bb, tbb, nn, rfl, htm, hds⟩ := hP.at hv
    have htm' := hj.1 _ (List.mem_cons_of_mem _ htm)
    exact ⟨ta, _, _, nn, rfl, htm', turn i ys nw ta kk tt bb tbb nn hj htm' hds⟩
  · intro D ys nw h tk hj F' N' off
    exact done D ys nw h tk (by simpa using hj) F' N' off
/-- an item copied, an item left -/
theorem copy_more {base nw : List (Addr × Obj)} {ds : List (Int × List Int)} {i : Nat} {ys : List Value} {kk : Int} {tx ty : Tok} {bb : Array UInt8} {D : Addr} {nn : Nat} (hj : CopyJ base ds i ys nw) (hds : ds[i]? = some (kk, KBw.bInts bb)) (hb : 128 ≤ kk) :
    CopyJ base ds (i + 1) (ys ++ [.ref D]) ((D, ({ cls := .type "tuple", data := .seq #[.int kk tx, .bytes bb ty] nn } : Obj)) :: nw) := by
  obtain ⟨h1, h2, h3⟩ := hj
  refine ⟨fun q hq => List.mem_cons_of_mem _ (h1 q hq), ?_, by simp; omega⟩
  rw [List.take_add_one, hds, List.filter_append]
  simp only [Option.toList_some, List.filter_cons, big, hb, decide_true, if_true, List.filter_nil]
  exact .snoc (h2.mono fun q hq => List.mem_cons_of_mem _ hq) List.mem_cons_self
theorem copy_less {base nw : List (Addr × Obj)} {ds : List (Int × List Int)} {i : Nat} {ys : List Value} {kk : Int} {bb : Array UInt8} (hj : CopyJ base ds i ys nw) (hds : ds[i]? = some (kk, KBw.bInts bb)) (hb : ¬ 128 ≤ kk) : CopyJ base ds (i + 1) ys nw := by
  obtain ⟨h1, h2, h3⟩ := hj
  refine ⟨h1, ?_, by omega⟩
  rw [List.take_add_one, hds, List.filter_append]
  simp only [Option.toList_some, List.filter_cons, big, hb, decide_false, Bool.false_eq_true, if_false, List.filter_nil, List.append_nil]
  exact h2
theorem copy_end {h₀ h : Heap} {L I C D D' : Addr} {m : Str → Option Value} {s₁ : Shared} {oI oC oD oT : Obj} {nw : List (Addr × Obj)} {Jn : Value → List (Addr × Obj) → Prop} {tk : Nat} {y : Value}
    (F : Fr h₀ L h m) (N : News h₀ L h ((D', oT) :: (I, oI) :: (C, oC) :: (D, oD) :: nw)) (hl : I < D' ∧ C < D' ∧ D < D' ∧ AllLt D' nw) (off : ∀ q ∈ nw, q.1 ≠ I ∧ q.1 ≠ C ∧ q.1 ≠ D) (hj : Jn y ((D', oT) :: nw)) :
    CompStepY h₀ L m s₁ I oI C oC D oD Jn y { s₁ with heap := h, toks := tk } := by
  refine ⟨h, tk, (D', oT) :: nw, rfl, F, fun q hq => N q ?_, fun q hq => ?_, hj⟩
  · simp only [List.mem_cons] at hq ⊢
    rcases hq with h | h | h | h | h <;> simp [h]
  · rcases List.mem_cons.mp hq with rfl | hq
    · exact ⟨Ne.symm (Nat.ne_of_lt hl.1), Ne.symm (Nat.ne_of_lt hl.2.1), Ne.symm (Nat.ne_of_lt hl.2.2.1)⟩
    · exact off q hq
def Fine : Option (List (Int × List Int)) → Prop
  | none => True
  | some ds => (∀ o ∈ ds.filter big, 128 ≤ o.1 ∧ o.1 < 256 ∧ o.2.length ≤ 38) ∧ (encs (ds.filter big)).length ≤ 40
abbrev m1 (x : Str) (v : Value) (u : Str → Option Value) : Str → Option Value := fun y => if y = x then some v else u y
theorem m1_of {m : Str → Option Value} {x : Str} {v : Value} (h : m x = some v) : m = m1 x v m := by
  funext y
  show _ = ite _ _ _
  split
  · subst_vars; exact h
  · rfl
theorem encs_take {es : List (Int × List Int)} {i : Nat} : (encs (es.take i)).length ≤ (encs es).length := by
  conv => rhs; rw [← List.take_append_drop i es]
  unfold encs
  rw [List.map_append, List.flatten_append, List.length_append]
  omega
theorem encs_succ {es : List (Int × List Int)} {i : Nat} {k : Int} {o : List Int} (h : es[i]? = some (k, o)) (hk : 128 ≤ k) : encs (es.take (i + 1)) = encs (es.take i) ++ ([k, (o.length : Int) + 2] ++ o) := by
  unfold encs
  rw [List.take_add_one, h]
  simp only [Option.toList_some, List.map_append, List.flatten_append, List.map_cons, List.map_nil, List.flatten_cons, List.flatten_nil, List.append_nil, encOf]
  rw [if_neg (show ¬ (k = 0 ∨ k = 1) by omega)]
  rfl
def WriteJ (base : List (Addr × Obj)) (es : List (Int × List Int)) (i : Nat) (m : Str → Option Value) (nw : List (Addr × Obj)) : Prop :=
  ∃ u fb tf, m = m1 (Str.ofString "found") (.bytes fb tf) u ∧ (∀ q ∈ base, q ∈ nw) ∧ KBw.bInts fb = encs (es.take i)
theorem write_loop {prog : Program} {w : World} {A : Around} {E : Value → Shared → Prop} {s : Shared} {env : Env} {h₀ : Heap} {m : Str → Option Value} {body : List Stmt} {Q : Flow → Shared → Prop} {iter : Expr} {x x₂ : Str} {px px₂ tp pos : Pos} {tk}
    {D : Addr} {ys : List Value} {es : List (Int × List Int)} {nw0 : List (Addr × Obj)} {t0 : Tok}
    (hfine : ∀ o ∈ es, 128 ≤ o.1 ∧ o.1 < 256 ∧ o.2.length ≤ 38) (hP : Pairs nw0 ys es) (off0 : ∀ q ∈ nw0, q.1 ≠ D)
    (F : Fr h₀ env.locals s.heap m) (N : News h₀ env.locals s.heap ((D, lst ys) :: nw0)) (hm : m (Str.ofString "found") = some (.bytes #[] t0)) (hx : env.kindOf x = some .local) (hx₂ : env.kindOf x₂ = some .local) (hh : A.handled = none)
    (hp : (env.scope.kind == .class || (env.scope.kind == .module && env.locals != env.globals)) = false) (hE : PassesOwn (model prog w) A env E)
    (hit : ∀ (Q' : Value → Shared → Prop), Q' (.ref D) s → wpAny (model prog w) A (eval iter env) Q' E s)
    (turn : ∀ i u nw kk tt bb tbb fb tf ls oo, KBw.bInts bb = oo → KBw.bInts fb = ls → ls = encs (es.take i) → ls.length ≤ (encs es).length → es[i]? = some (kk, oo) → 128 ≤ kk → kk < 256 → oo.length ≤ 38 → (∀ q ∈ (D, lst ys) :: nw0, q ∈ nw) →
      ∀ I oI h tk, Fr h₀ env.locals h (fun y => if y = x₂ then some (.bytes bb tbb) else if y = x then some (.int kk tt) else m1 (Str.ofString "found") (.bytes fb tf) u y) → News h₀ env.locals h ((I, oI) :: nw) → (∀ q ∈ nw, q.1 ≠ I) →
      wpAny (model prog w) A (execs body env) (LoopEnd h₀ env.locals I oI s (WriteJ ((D, lst ys) :: nw0) es (i + 1)) Q) E { s with heap := h, toks := tk })
    (done : ∀ u nw fb tf ls h tk, KBw.bInts fb = ls → ls = encs es → (∀ q ∈ (D, lst ys) :: nw0, q ∈ nw) → Fr h₀ env.locals h (m1 (Str.ofString "found") (.bytes fb tf) u) → News h₀ env.locals h nw → Q .next { s with heap := h, toks := tk })
    (hs : ∀ x, foldedSetIterable iter env x = pure x := by intro _; rfl) :
    wpAny (model prog w) A (exec (.For (.Tuple [.Name x px, .Name x₂ px₂] tk tp) iter body [] pos) env) Q E s := by
  refine for_pairs (its := ys.toArray) (WriteJ ((D, lst ys) :: nw0) es) F N hx hx₂ hh hp hE hit ⟨m, #[], t0, m1_of hm, fun _ h => h, rfl⟩ (fun i m nw hj => ⟨_, hj.choose_spec.choose_spec.choose_spec.2.1 _ List.mem_cons_self⟩) ?_ ?_ hs
  · rintro i m nw v ⟨u, fb, tf, rfl, hsub, hfb⟩ hv
    obtain ⟨ta, kk, tt, bb, tbb, nn, rfl, htm, hds⟩ := hP.at hv
    obtain ⟨f1, f2, f3⟩ := hfine _ (List.mem_of_getElem? hds)
    exact ⟨ta, _, _, nn, rfl, hsub _ (List.mem_cons_of_mem _ htm), turn i u nw kk tt bb tbb fb tf _ _ rfl hfb rfl encs_take hds f1 f2 f3 hsub⟩
  · rintro m nw h tk ⟨u, fb, tf, rfl, hsub, hfb⟩ F' N'
    refine done u nw fb tf _ h tk hfb ?_ hsub F' N'
    rw [List.take_of_length_le (by rw [List.size_toArray, hP.len]; exact Nat.le_refl _)]
def ReadJ (ks : List Int) (b : Array UInt8) (tb : Tok) (r : Option (List (Int × List Int))) (fa : Addr) (news : List (Addr × Obj)) (n : Nat) (m : Str → Option Value) (nw : List (Addr × Obj)) : Prop :=
  ∃ (k : Nat) (t : Tok) (u : Str → Option Value) (ds : List (Int × List Int)) (vs : List Value) (c : Nat) (tl : List (Addr × Obj)) (r' : Option (List (Int × List Int))),
    n = ks.length - k ∧ k ≤ ks.length ∧ m = m3 (Str.ofString "at") (.int k t) (Str.ofString "found") (.ref fa) (Str.ofString "octets") (.bytes b tb) u ∧ nw = (fa, listOf vs.toArray c) :: tl ∧ (∀ q ∈ tl, q.1 ≠ fa) ∧ (∀ q ∈ news, q ∈ tl) ∧
    Pairs tl vs ds ∧ vs.length ≤ k ∧ Parse (ks.drop k) r' ∧ r = r'.map (ds ++ ·)
theorem off_lt {news : List (Addr × Obj)} {a : Addr} (h : ∀ p ∈ news, p.1 < a) : ∀ q ∈ news, q.1 ≠ a := fun q hq => Nat.ne_of_lt (h q hq)
def ReadDone (g : Heap) (L : Addr) (s₁ : Shared) (b : Array UInt8) (tb : Tok) (r : Option (List (Int × List Int))) (fa : Addr) (news : List (Addr × Obj)) (fl : Flow) (s' : Shared) : Prop :=
  fl = .next ∧ ∃ (h : Heap) (tk k t : Nat) (u : Str → Option Value) (ds : List (Int × List Int)) (vs : List Value) (c : Nat) (tl : List (Addr × Obj)), s' = { s₁ with heap := h, toks := tk } ∧
    Fr g L h (m3 (Str.ofString "at") (.int k t) (Str.ofString "found") (.ref fa) (Str.ofString "octets") (.bytes b tb) u) ∧ News g L h ((fa, listOf vs.toArray c) :: tl) ∧ (∀ q ∈ tl, q.1 ≠ fa) ∧ (∀ q ∈ news, q ∈ tl) ∧ Pairs tl vs ds ∧ vs.length ≤ 100 ∧ r = some ds
theorem while_read {prog : Program} {w : World} {A : Around} {E : Value → Shared → Prop} {s : Shared} {env : Env} {test : Expr} {body : List Stmt} {pos : Pos} {Q : Flow → Shared → Prop} {g : Heap} {m : Str → Option Value} {fa : Addr} {news : List (Addr × Obj)} {ks : List Int} {b : Array UInt8} {tb t0 : Tok} {r : Option (List (Int × List Int))}
    (F1 : Fr g env.locals s.heap m) (N1 : News g env.locals s.heap ((fa, listOf #[] 0) :: news)) (hoff : ∀ q ∈ news, q.1 < fa) (hr : Parse ks r) (h1 : m (Str.ofString "at") = some (.int 0 t0)) (h2 : m (Str.ofString "found") = some (.ref fa)) (h3 : m (Str.ofString "octets") = some (.bytes b tb))
    (turn : ∀ n m₁ news₁ h₁ tk₁, Fr g env.locals h₁ m₁ → News g env.locals h₁ news₁ → ReadJ ks b tb r fa news n m₁ news₁ →
      wpAny (model prog w) A (isTrue test env (eval test env)) (fun bb s₂ =>
        if bb = true then wpAny (model prog w) A (execs body env) (WhileStep2 g env.locals s (ReadJ ks b tb r fa news) (ReadDone g env.locals s b tb r fa news) n) E s₂ else ReadDone g env.locals s b tb r fa news .next s₂) E { s with heap := h₁, toks := tk₁ })
    (fin : ∀ s', ReadDone g env.locals s b tb r fa news .next s' → Q .next s') (hE : PassesOwn (model prog w) A env E) :
    wpAny (model prog w) A (exec (.While test body [] pos) env) Q E s :=
  wpAny_mono (While_inv2 (n₀ := ks.length) (Q := ReadDone g env.locals s b tb r fa news) (ReadJ ks b tb r fa news) F1 N1 ⟨0, t0, m, [], [], 0, news, r, rfl, Nat.zero_le _, m3_of h1 h2 h3, rfl, off_lt hoff, fun _ h => h, .nil, Nat.le_refl _, hr, by simp⟩ turn hE)
    (fun fl s' hq => by obtain ⟨rfl, hq⟩ := hq; exact fin s' ⟨rfl, hq⟩) (fun _ _ e => e)
theorem allLt_ne {D : Addr} : ∀ {l : List (Addr × Obj)}, AllLt D l → ∀ q ∈ l, q.1 ≠ D
  | [], _, _, h => absurd h List.not_mem_nil
  | p :: r, h, q, hq => by
    rcases List.mem_cons.mp hq with rfl | hq
    · exact Nat.ne_of_lt h.1
    · exact allLt_ne h.2 q hq
theorem read_end {g : Heap} {Lx : Addr} {s₁ : Shared} {ks : List Int} {b : Array UInt8} {tb : Tok} {r r' : Option (List (Int × List Int))} {fa D : Addr} {news tl : List (Addr × Obj)} {vs : List Value} {ds : List (Int × List Int)} {c k k' nt tk : Nat} {x a : Int} {tx ta t1 : Tok} {oct : Array UInt8} {h : Heap} {m' : Str → Option Value} {Q : Flow → Shared → Prop}
    (F : Fr g Lx h m') (N : News g Lx h ((D, ({ cls := .type "tuple", data := .seq #[.int x tx, .bytes oct ta] nt } : Obj)) :: (fa, listOf (vs.toArray.push (.ref D)) c) :: tl))
    (h1 : m' (Str.ofString "at") = some (.int a t1)) (h2 : m' (Str.ofString "found") = some (.ref fa)) (h3 : m' (Str.ofString "octets") = some (.bytes b tb))
    (hl : fa < D ∧ AllLt D tl) (hoff : ∀ q ∈ tl, q.1 ≠ fa) (hsub : ∀ q ∈ news, q ∈ tl) (hP : Pairs tl vs ds) (hvl : vs.length ≤ k) (ha : a = k') (hk : k < k') (hk' : k' ≤ ks.length)
    {r'' : Option (List (Int × List Int))} (hPr : Parse (ks.drop k') r'') (hr : r = r'.map (ds ++ ·)) (hr' : r' = r''.map ((x, KBw.bInts oct) :: ·)) :
    WhileStep2 g Lx s₁ (ReadJ ks b tb r fa news) Q (ks.length - k) .next { s₁ with heap := h, toks := tk } := by
  subst ha
  refine ⟨h, tk, m', (fa, listOf (vs ++ [Value.ref D]).toArray c) :: (D, { cls := .type "tuple", data := .seq #[.int x tx, .bytes oct ta] nt }) :: tl, ks.length - k', rfl, F, ?_, by omega, k', t1, m', ds ++ [(x, KBw.bInts oct)], vs ++ [.ref D], c, (D, { cls := .type "tuple", data := .seq #[.int x tx, .bytes oct ta] nt }) :: tl, r'', rfl, hk', m3_of h1 h2 h3, rfl, ?_, fun q hq => List.mem_cons_of_mem _ (hsub q hq), ?_, ?_, hPr, ?_⟩
  · intro q hq
    rcases List.mem_cons.mp hq with rfl | hq
    · have z := N (fa, listOf (vs.toArray.push (.ref D)) c) (List.mem_cons_of_mem _ List.mem_cons_self)
      rw [List.push_toArray] at z
      exact z
    · rcases List.mem_cons.mp hq with rfl | hq
      · exact N _ List.mem_cons_self
      · exact N _ (List.mem_cons_of_mem _ (List.mem_cons_of_mem _ hq))
  · intro q hq
    rcases List.mem_cons.mp hq with rfl | hq
    · exact Ne.symm (Nat.ne_of_lt hl.1)
    · exact hoff q hq
  · exact .snoc (hP.mono fun q hq => List.mem_cons_of_mem _ hq) List.mem_cons_self
  · simp; omega
  · rw [hr, hr']
    cases r'' with
    | none => rfl
    | some z => simp
theorem single_big {k : Int} (h : 128 ≤ k) : ¬ (if k = 0 then k == 0 else k == 1) = true := by
  rw [if_neg (by omega), beq_iff_eq]
  omega
theorem pad_all : ∀ n : Nat, n ≤ 40 → 0 ≤ (4 - (n : Int).fmod 4).fmod 4 ∧ (4 - (n : Int).fmod 4).fmod 4 < 4 ∧ (n : Int) + (4 - (n : Int).fmod 4).fmod 4 ≤ 40 ∧ ((4 - (n : Int).fmod 4).fmod 4).toNat = (4 - n % 4) % 4 := by decide +kernel
theorem pad_facts (n : Nat) (h : n ≤ 40) : 0 ≤ (4 - (n : Int).fmod 4).fmod 4 ∧ (4 - (n : Int).fmod 4).fmod 4 < 4 ∧ (n : Int) + (4 - (n : Int).fmod 4).fmod 4 ≤ 40 ∧ ((4 - (n : Int).fmod 4).fmod 4).toNat = (4 - n % 4) % 4 := pad_all n h
theorem some_written {r : Option (List (Int × List Int))} {ds : List (Int × List Int)} {ls zs : List Int} {b : Array UInt8} {n : Int} (hr : r = some ds) (hls : ls = encs (ds.filter big)) (e : KBw.bInts b = ls ++ zs) (hz : zs = List.replicate n.toNat 0) (hn : n.toNat = (4 - ls.length % 4) % 4) : KBw.bInts b = outOf r := by
  rw [e, hr, hz, hn, hls]
  rfl
theorem write_end {h₀ h : Heap} {L I Ix : Addr} {oI oX : Obj} {s₁ : Shared} {base nw : List (Addr × Obj)} {es : List (Int × List Int)} {i tk : Nat} {m' : Str → Option Value} {Q : Flow → Shared → Prop} {kk : Int} {oo ls : List Int} {a b : UInt8} {fb bb : Array UInt8} {t : Tok}
    (F : Fr h₀ L h m') (N : News h₀ L h ((Ix, oX) :: (I, oI) :: nw)) (hm : m' (Str.ofString "found") = some (.bytes (fb ++ (#[a, b] ++ bb)) t)) (off : ∀ q ∈ nw, q.1 ≠ I) (hsub : ∀ q ∈ base, q ∈ nw) (hls : ls = encs (es.take i)) (hes : es[i]? = some (kk, oo)) (hk : 128 ≤ kk)
    (e : KBw.bInts (fb ++ (#[a, b] ++ bb)) = ls ++ (List.map (fun c : UInt8 => ((c.toNat : Nat) : Int)) [a, b] ++ oo)) (ea : ((a.toNat : Nat) : Int) = kk) (eb : ((b.toNat : Nat) : Int) = (oo.length : Int) + 2) :
    LoopEnd h₀ L I oI s₁ (WriteJ base es (i + 1)) Q .next { s₁ with heap := h, toks := tk } := by
  refine ⟨h, tk, m', nw, rfl, F, fun q hq => N q (List.mem_cons_of_mem _ hq), off, m', _, t, m1_of hm, hsub, ?_⟩
  rw [e, encs_succ hes hk, hls]
  simp only [List.map_cons, List.map_nil, ea, eb]
theorem later_ret {Q : Value → Shared → Prop} {L : Addr} {m : Str → Option Value} {news : List (Addr × Obj)} {s : Shared} {fs : List Addr} {g₀ : Heap} {A₀ : Around} {base : Heap} {outer : List Env} {K : Frag} {p : Program} {loose : List Str} {mean : ExcName → Option Value} {mg mb : Str → Option Value} {out : List Int}
    (hret : ∀ (h₀' h' : Heap) (tk' t' : Nat) (b' : Array UInt8), KtsTurn fs g₀ h₀' → Fr h₀' L h' m → News h₀' L h' news → Below A₀ base outer h₀' → K.In h₀' → Top p loose mean mg mb h₀' → KtsDicts fs h₀' → KBw.bInts b' = out →
      Q (.bytes b' t') { s with heap := h', toks := tk' })
    {h₀' h' : Heap} {tk' t' : Nat} {b' : Array UInt8} {all : List (Addr × Obj)} (T : KtsTurn fs g₀ h₀') (F : Fr h₀' L h' m) (N : News h₀' L h' all) (B : Below A₀ base outer h₀') (X : K.In h₀') (P : Top p loose mean mg mb h₀') (D : KtsDicts fs h₀') (hsub : ∀ q ∈ news, q ∈ all) (e : KBw.bInts b' = out) :
    Q (.bytes b' t') { s with heap := h', toks := tk' } := hret h₀' h' tk' t' b' T F (fun q hq => N q (hsub q hq)) B X P D e
theorem none_out {r r' : Option (List (Int × List Int))} {ds : List (Int × List Int)} (hr : r = r'.map (ds ++ ·)) (h : r' = none) : KBw.bInts #[] = outOf r := by rw [hr, h]; rfl
theorem some_out {r r' : Option (List (Int × List Int))} {ds : List (Int × List Int)} (hr : r = r'.map (ds ++ ·)) (h : r' = some []) : r = some ds := by rw [hr, h]; simp
theorem sub_cons {news tl : List (Addr × Obj)} {q₀ : Addr × Obj} (h : ∀ q ∈ news, q ∈ tl) : ∀ q ∈ news, q ∈ q₀ :: tl := fun q hq => List.mem_cons_of_mem _ (h q hq)
end

section
open PySem PySem.W PyProof.Rows PySem.Spec PySem.Calls PyProof.Rows.LCg
abbrev m6 (x1 : Str) (v1 : Value) (x2 : Str) (v2 : Value) (x3 : Str) (v3 : Value) (x4 : Str) (v4 : Value) (x5 : Str) (v5 : Value) (x6 : Str) (v6 : Value) (u : Str → Option Value) : Str → Option Value := fun y => if y = x1 then some v1 else if y = x2 then some v2 else if y = x3 then some v3 else if y = x4 then some v4 else if y = x5 then some v5 else if y = x6 then some v6 else u y
theorem m6_of {m : Str → Option Value} {x1 : Str} {v1 : Value} {x2 : Str} {v2 : Value} {x3 : Str} {v3 : Value} {x4 : Str} {v4 : Value} {x5 : Str} {v5 : Value} {x6 : Str} {v6 : Value}
    (h1 : m x1 = some v1) (h2 : m x2 = some v2) (h3 : m x3 = some v3) (h4 : m x4 = some v4) (h5 : m x5 = some v5) (h6 : m x6 = some v6) : m = m6 x1 v1 x2 v2 x3 v3 x4 v4 x5 v5 x6 v6 m := by
  funext y
  show _ = ite _ _ _
  repeat' (first | (split; (subst_vars; assumption)) | rfl)
/-- what the walk has put together so far -/
def KO (so ko : List Int) (io : Bool) : Prop :=
  (∀ x ∈ so, 0 ≤ x ∧ x < 256) ∧ (∀ x ∈ ko, 0 ≤ x ∧ x < 256) ∧ ∃ ds : List (Int × List Int), encs (ds.filter big) = ko ∧ (∀ o ∈ ds.filter big, 128 ≤ o.1 ∧ o.1 < 256 ∧ o.2.length ≤ 38) ∧
    (io = true → ∀ rest r, Parse rest r → Parse (so ++ rest) (r.map (ds ++ ·))) ∧ (io = false → ∀ rest, Parse (so ++ rest) (some ds))
theorem KO.start : KO [] [] true := ⟨by simp, by simp, [], rfl, by simp, fun _ rest r h => by simpa using h, fun h => by cases h⟩
theorem KO.shut {so ko l : List Int} (h : KO so ko false) (hl : ∀ x ∈ l, 0 ≤ x ∧ x < 256) : KO (so ++ l) ko false := by
  obtain ⟨h1, h2, ds, h3, h4, h5, h6⟩ := h
  refine ⟨fun x hx => (List.mem_append.mp hx).elim (h1 x) (hl x), h2, ds, h3, h4, fun e => (by cases e), fun _ rest => ?_⟩
  rw [List.append_assoc]
  exact h6 rfl _
theorem KO.stop {so ko : List Int} (h : KO so ko true) : KO (so ++ [0]) ko false := by
  obtain ⟨h1, h2, ds, h3, h4, h5, h6⟩ := h
  refine ⟨fun x hx => (List.mem_append.mp hx).elim (h1 x) (fun h => by simp at h; omega), h2, ds, h3, h4, fun e => (by cases e), fun _ rest => ?_⟩
  rw [List.append_assoc]
  have := h5 rfl ([0] ++ rest) (some []) (.stop rest)
  simpa using this
theorem KO.skip {so ko l : List Int} {o : Int × List Int} (h : KO so ko true) (hl : ∀ x ∈ l, 0 ≤ x ∧ x < 256) (hb : big o = false) (hp : ∀ rest r, Parse rest r → Parse (l ++ rest) (r.map (o :: ·))) : KO (so ++ l) ko true := by
  obtain ⟨h1, h2, ds, h3, h4, h5, h6⟩ := h
  have hf : (ds ++ [o]).filter big = ds.filter big := by simp [List.filter_append, List.filter_cons, hb]
  refine ⟨fun x hx => (List.mem_append.mp hx).elim (h1 x) (hl x), h2, ds ++ [o], by rw [hf]; exact h3, by rw [hf]; exact h4, fun _ rest r hr => ?_, fun e => (by cases e)⟩
  rw [List.append_assoc]
  have := h5 rfl (l ++ rest) _ (hp rest r hr)
  cases r <;> simpa using this
theorem KO.keep {so ko l : List Int} {o : Int × List Int} (h : KO so ko true) (hl : ∀ x ∈ l, 0 ≤ x ∧ x < 256) (hb : 128 ≤ o.1 ∧ o.1 < 256 ∧ o.2.length ≤ 38) (he : [o.1, (o.2.length : Int) + 2] ++ o.2 = l) (hp : ∀ rest r, Parse rest r → Parse (l ++ rest) (r.map (o :: ·))) : KO (so ++ l) (ko ++ l) true := by
  obtain ⟨h1, h2, ds, h3, h4, h5, h6⟩ := h
  have hbo : big o = true := by simp [big, hb.1]
  have hf : (ds ++ [o]).filter big = ds.filter big ++ [o] := by simp [List.filter_append, List.filter_cons, hbo]
  refine ⟨fun x hx => (List.mem_append.mp hx).elim (h1 x) (hl x), fun x hx => (List.mem_append.mp hx).elim (h2 x) (hl x), ds ++ [o], ?_, ?_, fun _ rest r hr => ?_, fun e => (by cases e)⟩
  · rw [hf]
    unfold encs at h3 ⊢
    rw [List.map_append, List.flatten_append, h3, ← he]
    simp only [List.map_cons, List.map_nil, List.flatten_cons, List.flatten_nil, List.append_nil, encOf]
    rw [if_neg (show ¬ (o.1 = 0 ∨ o.1 = 1) by omega)]
    rfl
  · rw [hf]
    intro q hq
    rcases List.mem_append.mp hq with hq | hq
    · exact h4 q hq
    · rw [List.mem_singleton.mp hq]; exact hb
  · rw [List.append_assoc]
    have := h5 rfl (l ++ rest) _ (hp rest r hr)
    cases r <;> simpa using this
theorem parse_row {k z : Int} {os : List Int} (h0 : k ≠ 0) (h1 : k ≠ 1) (hz : z = (os.length : Int) + 2) : ∀ rest r, Parse rest r → Parse ((k :: z :: os) ++ rest) (r.map ((k, os) :: ·)) := by
  intro rest r hr
  have e : (z - 2).toNat = os.length := by omega
  have := Parse.opt (k := k) (z := z) (l := os ++ rest) (r := r) h0 h1 (by omega) (by rw [List.length_append]; omega) (by rw [e, List.drop_left]; exact hr)
  rw [e, List.take_left] at this
  exact this
/-- a turn -/
theorem KO.turn {so ko l : List Int} {io : Bool} (h : KO so ko io) (hl : l ∈ [[1], [7, 7, 4, 0, 0, 0, 0], [148, 4, 9, 9], [131, 7, 4, 1, 2, 3, 4], [130, 3, 5], [68, 4, 5, 0], [(0 : Int)]]) :
    KO (so ++ l) (ko ++ if io && (l != [0]) && decide (128 ≤ l.headD 0) then l else []) (io && (l != [0])) := by
  cases io with
  | false =>
    simp only [Bool.false_and, Bool.false_eq_true, if_false, List.append_nil]
    refine h.shut ?_
    simp only [List.mem_cons, List.not_mem_nil, or_false] at hl
    rcases hl with rfl | rfl | rfl | rfl | rfl | rfl | rfl <;> decide
  | true =>
    simp only [List.mem_cons, List.not_mem_nil, or_false] at hl
    rcases hl with rfl | rfl | rfl | rfl | rfl | rfl | rfl
    · have := h.skip (l := [1]) (o := (1, [])) (by decide) (by decide) (fun rest r hr => .one hr)
      have e : (([1] : List Int) != [0]) = true := by decide
      rw [e]
      simpa using this
    · have := h.skip (l := [7, 7, 4, 0, 0, 0, 0]) (o := (7, [4, 0, 0, 0, 0])) (by decide) (by decide) (parse_row (by decide) (by decide) (by decide))
      have e : (([7, 7, 4, 0, 0, 0, 0] : List Int) != [0]) = true := by decide
      rw [e]
      simpa using this
    · have := h.keep (l := [148, 4, 9, 9]) (o := (148, [9, 9])) (by decide) (by decide) (by decide) (parse_row (by decide) (by decide) (by decide))
      have e : (([148, 4, 9, 9] : List Int) != [0]) = true := by decide
      rw [e]
      simpa using this
    · have := h.keep (l := [131, 7, 4, 1, 2, 3, 4]) (o := (131, [4, 1, 2, 3, 4])) (by decide) (by decide) (by decide) (parse_row (by decide) (by decide) (by decide))
      have e : (([131, 7, 4, 1, 2, 3, 4] : List Int) != [0]) = true := by decide
      rw [e]
      simpa using this
    · have := h.keep (l := [130, 3, 5]) (o := (130, [5])) (by decide) (by decide) (by decide) (parse_row (by decide) (by decide) (by decide))
      have e : (([130, 3, 5] : List Int) != [0]) = true := by decide
      rw [e]
      simpa using this
    · have := h.skip (l := [68, 4, 5, 0]) (o := (68, [5, 0])) (by decide) (by decide) (parse_row (by decide) (by decide) (by decide))
      have e : (([68, 4, 5, 0] : List Int) != [0]) = true := by decide
      rw [e]
      simpa using this
    · have := h.stop
      simpa using this
theorem KO.all {so ko : List Int} {io : Bool} (h : KO so ko io) (hk : ko.length ≤ 40) : ∃ r, Parse so r ∧ Fine r ∧ outOf r = ko ++ List.replicate ((0 - (ko.length : Int)).fmod 4).toNat 0 := by
  obtain ⟨h1, h2, ds, h3, h4, h5, h6⟩ := h
  refine ⟨some ds, ?_, ⟨h4, by rw [h3]; exact hk⟩, ?_⟩
  · cases io with
    | true => have := h5 rfl [] (some []) .nil; simpa using this
    | false => have := h6 rfl []; simpa using this
  · have : ((0 - (ko.length : Int)).fmod 4).toNat = (4 - ko.length % 4) % 4 := by
      rw [Int.fmod_eq_emod_of_nonneg _ (by decide : (0 : Int) ≤ 4)]
      omega
    rw [this, ← h3]
    rfl
theorem KO.wrong {so ko l : List Int} {io : Bool} (h : KO so ko io) (hk : ko.length ≤ 40) (hl : l ∈ [[148], [7, 1], [137, 9, 4, 0], [255, (0 : Int)]]) : ∃ r, Parse (so ++ l) r ∧ Fine r ∧ outOf r = if io then [] else ko ++ List.replicate ((0 - (ko.length : Int)).fmod 4).toNat 0 := by
  have hw : Parse l none := by
    simp only [List.mem_cons, List.not_mem_nil, or_false] at hl
    rcases hl with rfl | rfl | rfl | rfl
    · exact .bare (by decide) (by decide)
    · exact .bad (by decide) (by decide) (.inl (by decide))
    · exact .bad (by decide) (by decide) (.inr (by decide))
    · exact .bad (by decide) (by decide) (.inl (by decide))
  obtain ⟨r, p, f, o⟩ := h.all hk
  obtain ⟨h1, h2, ds, h3, h4, h5, h6⟩ := h
  cases io with
  | true =>
    refine ⟨none, ?_, trivial, rfl⟩
    have := h5 rfl l none hw
    simpa using this
  | false =>
    refine ⟨some ds, h6 rfl l, ⟨h4, by rw [h3]; exact hk⟩, ?_⟩
    have : ((0 - (ko.length : Int)).fmod 4).toNat = (4 - ko.length % 4) % 4 := by
      rw [Int.fmod_eq_emod_of_nonneg _ (by decide : (0 : Int) ≤ 4)]
      omega
    rw [if_neg (by decide), this, ← h3]
    rfl
theorem parse_last : Parse [7, 3, 4, 148, 4, 1, 2, 0] (some [(7, [4]), (148, [1, 2])]) := by
  have a := parse_row (k := 148) (z := 4) (os := [1, 2]) (by decide) (by decide) (by decide) [0] _ (.stop [])
  have b := parse_row (k := 7) (z := 3) (os := [4]) (by decide) (by decide) (by decide) _ _ a
  exact b
theorem fine_last : Fine (some [(7, [4]), (148, [1, 2])]) := ⟨by decide, by decide⟩
theorem out_last : outOf (some [(7, [4]), (148, [1, 2])]) = [148, 4, 1, 2] := by decide
def Menu (src : Addr) (fix : List (Addr × Obj)) (kin : Addr) (nss : List (List Int)) : Prop :=
  ∃ (vs : List Value) (c : Nat), (kin, listOf vs.toArray c) ∈ fix ∧ kin ≠ src ∧ vs.length = nss.length ∧ ∀ v ∈ vs, ∃ (ad : Addr) (lv : List Value) (c : Nat) (ln : List Int), v = .ref ad ∧ (ad, listOf lv.toArray c) ∈ fix ∧ IntsAre lv ln ∧ ln ∈ nss ∧ ad ≠ src
abbrev KINDS : List (List Int) := [[1], [7, 7, 4, 0, 0, 0, 0], [148, 4, 9, 9], [131, 7, 4, 1, 2, 3, 4], [130, 3, 5], [68, 4, 5, 0], [0]]
abbrev WRONG : List (List Int) := [[148], [7, 1], [137, 9, 4, 0], [255, 0]]
section
variable {g h : Heap} {L D sA kA wr w1 w2 w3 w4 kin k1 k2 k3 k4 k5 k6 k7 src : Addr} {oD oS : Obj} {rest : List (Addr × Obj)} {m : Str → Option Value} {P : Prop}
  {e6 : Nat} {t11 t21 t22 t23 t24 t25 t26 t27 t31 t32 t33 t34 t41 t42 t43 t44 t45 t46 t47 t51 t52 t53 t61 t62 t63 t64 t71 u11 u21 u22 u31 u32 u33 u34 u41 u42 : Tok} {c1 c2 c3 c4 c5 c6 c7 c8 c9 e1 e2 e3 e4 e5 : Nat}
theorem opt_abs (N : News g L h ((D, oD) :: (kA, listOf #[] c8) :: (sA, listOf #[] c9) :: (wr, listOf #[.ref w1, .ref w2, .ref w3, .ref w4] e5) :: (w4, listOf #[.int 255 u41, .int 0 u42] e4) :: (w3, listOf #[.int 137 u31, .int 9 u32, .int 4 u33, .int 0 u34] e3) ::
      (w2, listOf #[.int 7 u21, .int 1 u22] e2) :: (w1, listOf #[.int 148 u11] e1) :: (kin, listOf #[.ref k1, .ref k2, .ref k3, .ref k4, .ref k5, .ref k6, .ref k7] c1) :: (k7, listOf #[.int 0 t71] c7) :: (k6, listOf #[.int 68 t61, .int 4 t62, .int 5 t63, .int 0 t64] c6) ::
      (k5, listOf #[.int 130 t51, .int 3 t52, .int 5 t53] c5) :: (k4, listOf #[.int 131 t41, .int 7 t42, .int 4 t43, .int 1 t44, .int 2 t45, .int 3 t46, .int 4 t47] c4) :: (k3, listOf #[.int 148 t31, .int 4 t32, .int 9 t33, .int 9 t34] c3) ::
      (k2, listOf #[.int 7 t21, .int 7 t22, .int 4 t23, .int 0 t24, .int 0 t25, .int 0 t26, .int 0 t27] c2) :: (k1, listOf #[.int 1 t11] e6) :: (src, oS) :: rest))
    (hrest : ∀ q ∈ rest, q.1 ≠ src) (l : src < k1 ∧ src < k2 ∧ src < k3 ∧ src < k4 ∧ src < k5 ∧ src < k6 ∧ src < k7 ∧ src < kin ∧ src < w1 ∧ src < w2 ∧ src < w3 ∧ src < w4 ∧ src < wr ∧ src < sA ∧ src < kA)
    (k : ∀ fix, News g L h ((sA, listOf #[] c9) :: (kA, listOf #[] c8) :: (src, oS) :: fix) → Menu src fix kin KINDS → Menu src fix wr WRONG → (∀ q ∈ fix, q.1 ≠ src) → (∀ q ∈ rest, q ∈ fix) → src < sA → src < kA → P) : P := by
  obtain ⟨a1, a2, a3, a4, a5, a6, a7, a8, b1, b2, b3, b4, b5, b6, b7⟩ := l
  refine k ((wr, listOf #[.ref w1, .ref w2, .ref w3, .ref w4] e5) :: (w4, listOf #[.int 255 u41, .int 0 u42] e4) :: (w3, listOf #[.int 137 u31, .int 9 u32, .int 4 u33, .int 0 u34] e3) ::
      (w2, listOf #[.int 7 u21, .int 1 u22] e2) :: (w1, listOf #[.int 148 u11] e1) :: (kin, listOf #[.ref k1, .ref k2, .ref k3, .ref k4, .ref k5, .ref k6, .ref k7] c1) :: (k7, listOf #[.int 0 t71] c7) :: (k6, listOf #[.int 68 t61, .int 4 t62, .int 5 t63, .int 0 t64] c6) ::
      (k5, listOf #[.int 130 t51, .int 3 t52, .int 5 t53] c5) :: (k4, listOf #[.int 131 t41, .int 7 t42, .int 4 t43, .int 1 t44, .int 2 t45, .int 3 t46, .int 4 t47] c4) :: (k3, listOf #[.int 148 t31, .int 4 t32, .int 9 t33, .int 9 t34] c3) ::
      (k2, listOf #[.int 7 t21, .int 7 t22, .int 4 t23, .int 0 t24, .int 0 t25, .int 0 t26, .int 0 t27] c2) :: (k1, listOf #[.int 1 t11] e6) :: rest) ?_ ?_ ?_ (fun q hq => ?_) (fun q hq => by repeat (first | exact hq | apply List.mem_cons_of_mem)) b6 b7
  · iterate 16 refine List.forall_mem_cons.mpr ⟨N _ (by repeat (first | with_reducible exact List.mem_cons_self | apply List.mem_cons_of_mem)), ?_⟩
    exact fun q hq => N q (by repeat (first | with_reducible exact hq | apply List.mem_cons_of_mem))
  · refine ⟨[.ref k1, .ref k2, .ref k3, .ref k4, .ref k5, .ref k6, .ref k7], c1, (by repeat (first | with_reducible exact List.mem_cons_self | apply List.mem_cons_of_mem)), Nat.ne_of_gt a8, rfl, fun v hv => ?_⟩
    simp only [List.mem_cons, List.not_mem_nil, or_false] at hv
    rcases hv with rfl | rfl | rfl | rfl | rfl | rfl | rfl
    · exact ⟨_, [.int 1 t11], e6, [1], rfl, (by repeat (first | with_reducible exact List.mem_cons_self | apply List.mem_cons_of_mem)), .cons _ _ .nil, by decide, Nat.ne_of_gt a1⟩
    · exact ⟨_, [.int 7 t21, .int 7 t22, .int 4 t23, .int 0 t24, .int 0 t25, .int 0 t26, .int 0 t27], c2, [7, 7, 4, 0, 0, 0, 0], rfl, (by repeat (first | with_reducible exact List.mem_cons_self | apply List.mem_cons_of_mem)), .cons _ _ (.cons _ _ (.cons _ _ (.cons _ _ (.cons _ _ (.cons _ _ (.cons _ _ .nil)))))), by decide, Nat.ne_of_gt a2⟩
    · exact ⟨_, [.int 148 t31, .int 4 t32, .int 9 t33, .int 9 t34], c3, [148, 4, 9, 9], rfl, (by repeat (first | with_reducible exact List.mem_cons_self | apply List.mem_cons_of_mem)), .cons _ _ (.cons _ _ (.cons _ _ (.cons _ _ .nil))), by decide, Nat.ne_of_gt a3⟩
    · exact ⟨_, [.int 131 t41, .int 7 t42, .int 4 t43, .int 1 t44, .int 2 t45, .int 3 t46, .int 4 t47], c4, [131, 7, 4, 1, 2, 3, 4], rfl, (by repeat (first | with_reducible exact List.mem_cons_self | apply List.mem_cons_of_mem)), .cons _ _ (.cons _ _ (.cons _ _ (.cons _ _ (.cons _ _ (.cons _ _ (.cons _ _ .nil)))))), by decide, Nat.ne_of_gt a4⟩
    · exact ⟨_, [.int 130 t51, .int 3 t52, .int 5 t53], c5, [130, 3, 5], rfl, (by repeat (first | with_reducible exact List.mem_cons_self | apply List.mem_cons_of_mem)), .cons _ _ (.cons _ _ (.cons _ _ .nil)), by decide, Nat.ne_of_gt a5⟩
    · exact ⟨_, [.int 68 t61, .int 4 t62, .int 5 t63, .int 0 t64], c6, [68, 4, 5, 0], rfl, (by repeat (first | with_reducible exact List.mem_cons_self | apply List.mem_cons_of_mem)), .cons _ _ (.cons _ _ (.cons _ _ (.cons _ _ .nil))), by decide, Nat.ne_of_gt a6⟩
    · exact ⟨_, [.int 0 t71], c7, [0], rfl, (by repeat (first | with_reducible exact List.mem_cons_self | apply List.mem_cons_of_mem)), .cons _ _ .nil, by decide, Nat.ne_of_gt a7⟩
  · refine ⟨[.ref w1, .ref w2, .ref w3, .ref w4], e5, (by repeat (first | with_reducible exact List.mem_cons_self | apply List.mem_cons_of_mem)), Nat.ne_of_gt b5, rfl, fun v hv => ?_⟩
    simp only [List.mem_cons, List.not_mem_nil, or_false] at hv
    rcases hv with rfl | rfl | rfl | rfl
    · exact ⟨_, [.int 148 u11], e1, [148], rfl, (by repeat (first | with_reducible exact List.mem_cons_self | apply List.mem_cons_of_mem)), .cons _ _ .nil, by decide, Nat.ne_of_gt b1⟩
    · exact ⟨_, [.int 7 u21, .int 1 u22], e2, [7, 1], rfl, (by repeat (first | with_reducible exact List.mem_cons_self | apply List.mem_cons_of_mem)), .cons _ _ (.cons _ _ .nil), by decide, Nat.ne_of_gt b2⟩
    · exact ⟨_, [.int 137 u31, .int 9 u32, .int 4 u33, .int 0 u34], e3, [137, 9, 4, 0], rfl, (by repeat (first | with_reducible exact List.mem_cons_self | apply List.mem_cons_of_mem)), .cons _ _ (.cons _ _ (.cons _ _ (.cons _ _ .nil))), by decide, Nat.ne_of_gt b3⟩
    · exact ⟨_, [.int 255 u41, .int 0 u42], e4, [255, 0], rfl, (by repeat (first | with_reducible exact List.mem_cons_self | apply List.mem_cons_of_mem)), .cons _ _ (.cons _ _ .nil), by decide, Nat.ne_of_gt b4⟩
  · simp only [List.mem_cons] at hq
    rcases hq with h | h | h | h | h | h | h | h | h | h | h | h | h | h
    all_goals first | (rw [h]; exact Nat.ne_of_gt (by assumption)) | exact hrest q h
end
def OptJ (src : Addr) (n : Nat) (kin wr : Addr) (fix : List (Addr × Obj)) (i : Nat) (m : Str → Option Value) (news : List (Addr × Obj)) : Prop :=
  ∃ (u : Str → Option Value) (a1 b1 : Int) (ta tb : Tok) (sA kA : Addr) (vs vk : List Value) (cs ck : Nat) (so ko : List Int) (io : Bool),
    m = m6 (Str.ofString "is_open") (.bool io) (Str.ofString "kept") (.ref kA) (Str.ofString "some") (.ref sA) (Str.ofString "wrong") (.ref wr) (Str.ofString "kinds") (.ref kin) (Str.ofString "source") (.ref src) u ∧
    news = (sA, listOf vs.toArray cs) :: (kA, listOf vk.toArray ck) :: (src, listOf #[.int a1 ta, .int b1 tb] n) :: fix ∧ 0 ≤ a1 ∧ 0 ≤ b1 ∧ b1 < 2147483647 ∧ src < sA ∧ src < kA ∧
    IntsAre vs so ∧ IntsAre vk ko ∧ so.length ≤ 7 * i ∧ ko.length ≤ 7 * i ∧ KO so ko io
abbrev OptJH {src : Addr} {fix : List (Addr × Obj)} {kin wr : Addr} (_ : Menu src fix kin KINDS) (_ : Menu src fix wr WRONG) (n : Nat) (g' : Heap) (i : Nat) (g : Heap) (m : Str → Option Value) (news : List (Addr × Obj)) : Prop := g = g' ∧ OptJ src n kin wr fix i m news
theorem range6 {b : Int} (h0 : 0 ≤ b) (h1 : b < 6) : Builtin.Range.small 0 b 1 = true ∧ Builtin.Range.rangeSize 0 b 1 = (b.toNat : Int) := by
  have : b = 0 ∨ b = 1 ∨ b = 2 ∨ b = 3 ∨ b = 4 ∨ b = 5 := by omega
  rcases this with rfl | rfl | rfl | rfl | rfl | rfl <;> decide
theorem rangeT_intro {prog : Program} {w : World} {A : Around} {E : Value → Shared → Prop} {env : Env} {x : Str} {body : List Stmt} {Q : Flow → Shared → Prop} {J : Nat → Heap → (Str → Option Value) → List (Addr × Obj) → Prop} {s₁ : Shared} {r : Addr} {b : Int} {t u v : Tok} {g : Heap} {m : Str → Option Value} {news : List (Addr × Obj)}
    (F : Fr g env.locals s₁.heap m) (N : News g env.locals s₁.heap news) (hr : IsRange s₁.heap r 0 b 1 t u v) (h0 : 0 ≤ b) (h1 : b < 6) (hJ : J 0 g m news)
    (turn : ∀ I i g m news t h tk, i < b.toNat → i < 6 → J i g m news → (∀ q ∈ news, q.1 ≠ I) → Fr g env.locals h (fun y => if y = x then some (.int (0 + (i : Int)) t) else m y) →
        News g env.locals h ((I, itR (0 + ((i + 1 : Nat) : Int)) ((b.toNat : Int) - ((i + 1 : Nat) : Int))) :: news) →
        wpAny (model prog w) A (execs body env) (TurnT env.locals I (itR (0 + ((i + 1 : Nat) : Int)) ((b.toNat : Int) - ((i + 1 : Nat) : Int))) s₁ (J (i + 1)) Q) E { s₁ with heap := h, toks := tk })
    (done : ∀ g m news h tk, J b.toNat g m news → b.toNat < 6 → Fr g env.locals h m → News g env.locals h news → Q .next { s₁ with heap := h, toks := tk }) : RangeT prog w A E env x body Q J (.ref r) s₁ :=
  ⟨r, 0, b, t, u, v, b.toNat, g, m, news, rfl, hr, (range6 h0 h1).1, (range6 h0 h1).2, F, N, hJ, fun I i g m news t h tk hi => turn I i g m news t h tk hi (by omega), fun g m news h tk hJ => done g m news h tk hJ (by omega)⟩
theorem m6_start {src : Addr} {sA kA wr kin : Addr} {m : Str → Option Value} {io : Bool} (h1 : m (Str.ofString "is_open") = some (.bool io)) (h2 : m (Str.ofString "kept") = some (.ref kA)) (h3 : m (Str.ofString "some") = some (.ref sA)) (h4 : m (Str.ofString "wrong") = some (.ref wr)) (h5 : m (Str.ofString "kinds") = some (.ref kin)) (h6 : m (Str.ofString "source") = some (.ref src)) :
    m = m6 (Str.ofString "is_open") (.bool io) (Str.ofString "kept") (.ref kA) (Str.ofString "some") (.ref sA) (Str.ofString "wrong") (.ref wr) (Str.ofString "kinds") (.ref kin) (Str.ofString "source") (.ref src) m := m6_of h1 h2 h3 h4 h5 h6
theorem opt_start {src n kin wr sA kA : Addr} {fix : List (Addr × Obj)} {m : Str → Option Value} {a1 b1 : Int} {ta tb : Tok} {c1 c2 : Nat} {g' : Heap} (hK : Menu src fix kin KINDS) (hW : Menu src fix wr WRONG)
    (h1 : m (Str.ofString "is_open") = some (.bool true)) (h2 : m (Str.ofString "kept") = some (.ref kA)) (h3 : m (Str.ofString "some") = some (.ref sA)) (h4 : m (Str.ofString "wrong") = some (.ref wr)) (h5 : m (Str.ofString "kinds") = some (.ref kin)) (h6 : m (Str.ofString "source") = some (.ref src))
    (ha : 0 ≤ a1) (hb : 0 ≤ b1) (hb' : b1 < 2147483647) (l1 : src < sA) (l2 : src < kA) :
    OptJH hK hW n g' 0 g' m ((sA, listOf #[] c1) :: (kA, listOf #[] c2) :: (src, listOf #[.int a1 ta, .int b1 tb] n) :: fix) :=
  ⟨rfl, m, a1, b1, ta, tb, sA, kA, [], [], c1, c2, [], [], true, m6_of h1 h2 h3 h4 h5 h6, rfl, ha, hb, hb', l1, l2, .nil, .nil, Nat.le_refl _, Nat.le_refl _, KO.start⟩
theorem rep_one {α : Type} {l : List α} : (List.replicate (1 : Int).toNat l).flatten = l := by simp
theorem rep_none {α : Type} {l : List α} : (List.replicate (0 : Int).toNat l).flatten = [] := by simp
theorem KO.turn1 {so ko l : List Int} {io : Bool} (h : KO so ko io) (hl : l ∈ KINDS) (hi : io = true) (h0 : l = [0]) : KO (so ++ l) (ko ++ (List.replicate (if (!decide (l = [0])) = true then (1 : Int) else 0).toNat l).flatten) (!decide (l = [0])) := by
  have t := h.turn hl
  subst hi h0
  simpa using t
theorem KO.turn2 {so ko l : List Int} {io : Bool} (h : KO so ko io) (hl : l ∈ KINDS) (hi : io = true) (h0 : ¬ l = [0]) : KO (so ++ l) (ko ++ (List.replicate (if decide (128 ≤ l.getD (Int.toNat 0) 0) = true then (1 : Int) else 0).toNat l).flatten) (!decide (l = [0])) := by
  have t := h.turn hl
  subst hi
  have e : (l != [0]) = true := by simp [h0]
  have e2 : l.getD (Int.toNat 0) 0 = l.headD 0 := by cases l <;> rfl
  rw [e2]
  simp only [e, Bool.and_true, Bool.true_and] at t
  rw [show (!decide (l = [0])) = true by simp [h0]]
  generalize l.headD 0 = z at t ⊢
  by_cases hb : 128 ≤ z
  · simpa [hb] using t
  · simpa [hb] using t
theorem KO.turn3 {so ko l : List Int} {io : Bool} (h : KO so ko io) (hl : l ∈ KINDS) (hi : io = false) : KO (so ++ l) (ko ++ (List.replicate (if io = true then (1 : Int) else 0).toNat l).flatten) io := by
  have t := h.turn hl
  subst hi
  simpa using t
section
variable {prog : Program} {w : World} {A : Around} {E : Value → Shared → Prop} {s : Shared} {h₀ : Heap} {L : Addr} {m : Str → Option Value} {news : List (Addr × Obj)}
theorem opt_add {l b : Addr} {vs ws : List Value} {c d : Nat} {ns ms : List Int} {Q : Value → Shared → Prop} (F : Fr h₀ L s.heap m) (N : News h₀ L s.heap news) (hl : (l, listOf vs.toArray c) ∈ news) (hb : (b, listOf ws.toArray d) ∈ news)
    (hi : IntsAre vs ns) (hj : IntsAre ws ms) (hsz : ns.length + ms.length ≤ 1000)
    (h : ∀ D h' vs', Fr h₀ L h' m → News h₀ L h' ((D, listOf vs'.toArray 0) :: news) → IntsAre vs' (ns ++ ms) → (∀ q ∈ news, q.1 < D) → Q (.ref D) { s with heap := h' }) :
    wpAny (model prog w) A (binaryOp .Add (.ref l) (.ref b)) Q E s :=
  add_arrays_ints F N (News.isList N hl) (News.isList N hb) hi hj (fun h' F' N' hI => h _ h' _ F' N' hI fun q hq => Heap.lt_size (N q hq).1) (by rw [sizeLine_eq]; omega)
end
theorem opt_end {L I src n kin wr sA kA : Addr} {it : Obj} {fix all : List (Addr × Obj)} {s₁ : Shared} {Q : Flow → Shared → Prop} {g h : Heap} {tk : Nat} {m' : Str → Option Value} {hK : Menu src fix kin KINDS} {hW : Menu src fix wr WRONG} {a1 b1 : Int} {ta tb : Tok} {vs vk : List Value} {cs ck : Nat} {so ko : List Int} {io : Bool} {i : Nat}
    (F : Fr g L h m') (N : News g L h all) (h1 : m' (Str.ofString "is_open") = some (.bool io)) (h2 : m' (Str.ofString "kept") = some (.ref kA)) (h3 : m' (Str.ofString "some") = some (.ref sA)) (h4 : m' (Str.ofString "wrong") = some (.ref wr)) (h5 : m' (Str.ofString "kinds") = some (.ref kin)) (h6 : m' (Str.ofString "source") = some (.ref src))
    (ms : (sA, listOf vs.toArray cs) ∈ all) (mk : (kA, listOf vk.toArray ck) ∈ all) (mr : (src, listOf #[.int a1 ta, .int b1 tb] n) ∈ all) (mI : (I, it) ∈ all) (mf : ∀ q ∈ fix, q ∈ all)
    (ha : 0 ≤ a1) (hb : 0 ≤ b1) (hb' : b1 < 2147483647) (l1 : src < sA) (l2 : src < kA) (o1 : sA ≠ I) (o2 : kA ≠ I) (o3 : src ≠ I) (o4 : ∀ q ∈ fix, q.1 ≠ I) (hso : IntsAre vs so) (hko : IntsAre vk ko) (e1 : so.length ≤ 7 * (i + 1)) (e2 : ko.length ≤ 7 * (i + 1)) (hKO : KO so ko io) :
    TurnT L I it s₁ (OptJH hK hW n g (i + 1)) Q .next { s₁ with heap := h, toks := tk } := by
  refine ⟨h, tk, g, m', (sA, listOf vs.toArray cs) :: (kA, listOf vk.toArray ck) :: (src, listOf #[.int a1 ta, .int b1 tb] n) :: fix, rfl, F, fun q hq => N q ?_, fun q hq => ?_, rfl, m', a1, b1, ta, tb, sA, kA, vs, vk, cs, ck, so, ko, io, m6_of h1 h2 h3 h4 h5 h6, rfl, ha, hb, hb', l1, l2, hso, hko, e1, e2, hKO⟩
  · simp only [List.mem_cons] at hq
    rcases hq with rfl | rfl | rfl | rfl | hq
    · exact mI
    · exact ms
    · exact mk
    · exact mr
    · exact mf q hq
  · simp only [List.mem_cons] at hq
    rcases hq with rfl | rfl | rfl | hq
    · exact o1
    · exact o2
    · exact o3
    · exact o4 q hq
theorem rep_le {c : Prop} [Decidable c] {l : List Int} : (List.replicate (if c then (1 : Int) else 0).toNat l).flatten.length ≤ l.length := by split <;> simp
theorem ints_inj {a b : Array UInt8} (h : KBw.bInts a = KBw.bInts b) : a.toList = b.toList := by
  unfold KBw.bInts at h
  refine List.map_inj_right (fun x y e => ?_) |>.mp h
  exact UInt8.toNat_inj.mp (by exact_mod_cast e)
theorem ints_ne {a b : Array UInt8} {x y : List Int} (h : (a.toList != b.toList) = true) (e1 : KBw.bInts a = x) (e2 : KBw.bInts b = y) (e : x = y) : False := by
  have := ints_inj (e1.trans (e.trans e2.symm))
  rw [this] at h
  simp at h
theorem last_ints : KBw.bInts #[(Int.toNat 7).toUInt8, (Int.toNat 3).toUInt8, (Int.toNat 4).toUInt8, (Int.toNat 148).toUInt8, (Int.toNat 4).toUInt8, (Int.toNat 1).toUInt8, (Int.toNat 2).toUInt8, (Int.toNat 0).toUInt8] = [7, 3, 4, 148, 4, 1, 2, 0] := by decide
theorem last_eq {b : Array UInt8} (h : KBw.bInts b = outOf (some [(7, [4]), (148, [1, 2])])) : (b.toList == [(Int.toNat 148).toUInt8, (Int.toNat 4).toUInt8, (Int.toNat 1).toUInt8, (Int.toNat 2).toUInt8]) = true := by
  have e : KBw.bInts #[(Int.toNat 148).toUInt8, (Int.toNat 4).toUInt8, (Int.toNat 1).toUInt8, (Int.toNat 2).toUInt8] = [148, 4, 1, 2] := by decide
  have := ints_inj (h.trans (out_last.trans e.symm))
  rw [this]
  exact beq_self_eq_true _
theorem opt_ret {Q : Value → Shared → Prop} {h₀ : Heap} {L src n : Nat} {m : Str → Option Value} {rest fix : List (Addr × Obj)} {s : Shared}
    (hret : ∀ (a1 b1 : Int) (ta tb : Tok) (h' : Heap) (tk' : Nat), 0 ≤ a1 → 0 ≤ b1 → b1 < 2147483647 → Fr h₀ L h' m →
      News h₀ L h' ((src, listOf #[.int a1 ta, .int b1 tb] n) :: rest) → Q (.bool true) { s with heap := h', toks := tk' })
    (hfr : ∀ q ∈ rest, q ∈ fix) {a1 b1 : Int} {ta tb : Tok} {h' : Heap} {tk' : Nat} {all : List (Addr × Obj)} {b : Bool} (hb1 : b = true) (F : Fr h₀ L h' m) (N : News h₀ L h' all)
    (m3 : (src, listOf #[.int a1 ta, .int b1 tb] n) ∈ all) (mf : ∀ q ∈ fix, q ∈ all) (ha : 0 ≤ a1) (hb : 0 ≤ b1) (hb' : b1 < 2147483647) : Q (.bool b) { s with heap := h', toks := tk' } := by
  subst hb1
  exact hret a1 b1 ta tb h' tk' ha hb hb' F fun q hq => by
    rcases List.mem_cons.mp hq with rfl | hq
    · exact N _ m3
    · exact N _ (mf _ (hfr _ hq))
end

section
open PySem PySem.W PyProof.Rows PySem.Spec PySem.Calls PyProof.Rows.LCg
theorem wordsLtx1 : True := by
  k_with_none
  w_top off
  k_with "my k_all" => (with_reducible assumption)
  k_with "exec Raise some none" => ((k_here; (with_reducible show wpAny _ _ (exec (Stmt.Raise (some _) none _) _) _ _ _); k_dflt (refine exec_raise ?qhh0 ?_; (case qhh0 => first | rfl | assumption))))
  k_with "call ref" => ((k_here; (with_reducible show wpAny _ _ (call (Value.ref _) [Value.str _ _]) (fun v s₁ => Rd s₁ v ∧ _) _ _); k_dflt (refine' exc_rd (t := _) ?qhX ?qhhh ?qhhd ?qhhu ?qhhC ?_; (case qhhC => first | exact Or.inl rfl | exact Or.inr rfl); (case qhX => k_in); (case qhhh => first | rfl | assumption); (case qhhd => walk_at "my room"); (case qhhu => walk_at "my room"); k_whole); intro h' e' tk' x'))
  k_with "my room" => (first
  | exact Nat.le_of_ble_eq_true rfl
  | ((try simp only [depth_mark, depth_under_make, depth_under_kw, depth_in1, depth_deeper, units_in1, units_deeper, Around.mark_units, units_caller, ktrTop]); omega))
  k_with "leaving ref" => ((k_here; (with_reducible show wpAny _ _ (leaving _ (Value.ref _)) _ _ _); first
  | (k_dflt (refine' leave_newX ?qhk1 ?qhk0 ?qhk2 ?qhk3 ?qhkf ?qhkk ?_; (case qhk0 => assumption); (case qhk2 => assumption); (case qhk1 => assumption); (case qhk3 => k_asm); (case qhkf => exact rfl); (case qhkk => exact rfl); k_whole); intro h' R' U'; (try dsimp only at R' U' ⊢))
  | (k_dflt (refine' leave_onX ?qhk1 ?qhk2 ?qhk3 ?qhk4 ?qhkf ?_; (case qhk3 => assumption); (case qhk2 => assumption); (case qhk1 => assumption); (case qhk4 => assumption); (case qhkf => exact rfl); k_whole); intro h' R' U'; (try dsimp only at R' U' ⊢))))
  k_with "call ref" => ((k_here; (with_reducible show wpAny _ _ (call (Value.ref 253) _) _ _ _); k_dflt (refine wpAny_call ?_; refine' enterS ?qhk1 ?qhk2 ?qhk3 ?qhk4 ?qhk5 ?qhXB ?qhTB ?qhD ?qhT0 ?qhkA ?qhkf ?qhkK ?qhk6 ?qhk7 ?qhk8 ?qhk9 ?qhkB ?_ ?qhc2 ?qhc3 ?qhc4 ?qhc5; (case qhkA => exact rfl); (case qhkf => exact rfl); (case qhkK => exact rfl); (case qhk1 => k_asm); (case qhk2 => k_asm); (case qhk3 => k_asm); (case qhk4 => k_asm); (case qhk5 => k_asm); (case qhXB => with_reducible assumption); (case qhTB => with_reducible assumption); (case qhD => first | with_reducible assumption | assumption); (case qhT0 => first | assumption | exact KtsTurn.refl); (case qhk6 => k_is); (case qhk7 => k_is); (case qhk8 => ktr_room); (case qhk9 => exact BindsTo.of_eq rfl); (case qhkB => exact locs rfl); (case qhc2 => exact rfl); (case qhc3 => exact rfl); (case qhc4 => exact rfl); (case qhc5 => decide); k_whole; intro g' L' h' FG' F' N' B' X' T' D'; (try dsimp only); (try k_lift B'); (try k_fold))))
  k_with "call ref" => ((k_here; (with_reducible show wpAny _ _ (call (Value.ref 239) _) _ _ _); k_dflt (refine' take_u ?qhk1 ?qhk2 ?qhk3 ?qhk4 ?qhk5 ?qhU ?qhkK ?qha0 ?qhb0 ?qhb1 ?qht0 ?qht1 ?qhkd ?qhku ?_; (case qhk1 => k_asm); (case qhk2 => k_asm); (case qhk3 => k_asm); (case qhk4 => k_asm); (case qhU => k_updF); (case qhk5 => k_asm); (case qhkK => first | exact rfl | assumption); (case qha0 => first | assumption | omega); (case qhb0 => first | assumption | omega); (case qhb1 => first | assumption | omega); (case qht0 => omega); (case qht1 => omega); (case qhkd => ktr_room); (case qhku => walk_at "my units"); k_whole); intro v' a' b' t' ta' tb' h' tk' hv0 hv1 ha' hb' hb1' F' ol' N'; (try dsimp only at N'); (try k_sweep)))
  k_with "my units" => (first | exact Nat.lt_of_succ_le (Nat.le_of_ble_eq_true rfl) | ((try simp only [cLine, units_in1, units_deeper, Around.mark_units, units_caller, ktrTop]); omega) | ktr_units)
  k_with "my enterC0" => ((refine' enterC0 ?qhk1 ?qhk2 ?qhk3 ?qhk4 ?qhk5 ?qhkA ?qhkf ?qhkK ?qhk6 ?qhk7 ?qhk8 ?qhk9 ?qhkB ?qhkD ?_ ?qhc2 ?qhc3 ?qhc4; (case qhkA => exact rfl); (case qhkf => exact rfl); (case qhkK => first | exact rfl | assumption); (case qhk1 => k_asm); (case qhk2 => k_asm); (case qhk3 => k_asm); (case qhk4 => k_asm); (case qhk5 => k_asm); (case qhk6 => k_is); (case qhk7 => k_is); (case qhk8 => ktr_room); (case qhk9 => exact BindsTo.of_eq rfl); (case qhkB => exact rfl); (case qhkD => decide +kernel); (case qhc2 => exact rfl); (case qhc3 => exact rfl); (case qhc4 => exact rfl); k_whole; intro g' L' h' tk' cells' FG' F' N' Y' B' X' T' D' l1; (try k_lt l1); k_cells Y'; (try simp only [List.cons_append, List.nil_append] at N'); (try dsimp only); (try k_lift B'); (try k_fold)))
  k_with "my k_room" => (ktr_room)
  k_with "callWith ref" => ((k_here; k_dflt (refine' callWith_K ?qhk1 ?qhk2 ?_; (case qhk1 => k_asm); (case qhk2 => k_is); k_whole)))
  k_with "my mem" => (first | with_reducible apply List.mem_cons_self | (with_reducible apply List.mem_cons_of_mem; walk_at "my mem"))
  k_with "my memD" => (first | apply List.mem_cons_self | (with_reducible apply List.mem_cons_of_mem; walk_at "my memD"))
  k_with "my all" => (first | with_reducible assumption | with_reducible apply List.forall_mem_nil | (with_reducible apply forall_cons; (k_ne); (walk_at "my all")))
  k_with "call type:bytes" => ((k_here; (with_reducible show wpAny _ _ (call (Value.type "bytes") [Value.bytes _ _]) _ _ _); k_dflt (refine call_bytes_bytes ?_)))
  k_with "call type:bytes" => ((k_here; (with_reducible show wpAny _ _ (call (Value.type "bytes") [Value.int _ _]) _ _ _); k_dflt (refine' call_bytes_int ?qhh0 ?qhh1 ?_; (case qhh0 => omega); (case qhh1 => omega); k_whole); intro _ _ _ _ hz' hzl' hzr'))
  k_with "my fold" => (((fail_if_success (with_reducible show wpAny _ _ _ qk _ _)); first | ((with_reducible show wpAny _ _ _ _ ek _); refine fold_q ?_; k_dflt (intro qk)) | (refine fold_wp ?_; k_dflt (intro qk ek))))
  k_with "exec Assign" => (k_fold)
  k_with "exec If" => (k_fold)
  k_with "exec Return some" => (k_fold)
  k_with "eval Call" => (k_fold)
  k_with "exec While BoolOp" => ((k_here; (with_reducible show wpAny _ _ (exec (Stmt.While _ _ _ _) _) _ _ _); refine stop_ ?_))
  k_with "eval ListComp" => ((k_here; (with_reducible show wpAny _ _ (eval (Expr.ListComp _ _ _ _) _) _ _ _); refine stop_ ?_))
  k_with "exec For Tuple Name cons nil" => ((k_here; (with_reducible show wpAny _ _ (exec (Stmt.For _ _ _ _ _) _) _ _ _); refine stop_ ?_))
  k_with "later raise" => ((refine' later_ret ?qhhret ?qhT ?qhF ?qhN ?qhB ?qhX ?qhP ?qhD ?qhhs ?e; (case qhhret => assumption); (case qhT => assumption); (case qhF => assumption); (case qhN => assumption); (case qhB => assumption); (case qhX => assumption); (case qhP => assumption); (case qhD => first | with_reducible assumption | assumption); (case qhhs => exact sub_cons (by assumption))))
  k_with "read end" => (((case F => assumption); (case N => assumption); (case h1 => exact rfl); (case h2 => exact rfl); (case h3 => exact rfl); (case hl => assumption)))
  trivial
theorem later_c : ∀ (w : World) (p : Program) (loose : List Str) (mean : ExcName → Option Value) (mg mb : Str → Option Value) (dp un : Nat) (gd : Option (List Code)) (cn : Str) (cs : Scope) (a : Addr) (ccd : Value) (cl : List (Str × Addr)) (outer : List Env) (A₀ : Around) (base g₀ h₀ : Heap) (L : Addr) (m : Str → Option Value) (s : Shared) (Q E : Value → Shared → Prop)
    (news : List (Addr × Obj)) (ks : List Int) (b : Array UInt8) (tb : Tok) (r : Option (List (Int × List Int))),
    Below A₀ base outer h₀ → Fr h₀ L s.heap m → (hd.heap_1 w.params).In h₀ → (hd.heap_1 w.params).In base → Top p loose mean mg mb base →
    News h₀ L s.heap news → Top p loose mean mg mb h₀ → KtsDicts (outer.filterMap (·.frame)) h₀ → KtsTurn (outer.filterMap (·.frame)) g₀ h₀ → cs.kind = .function →
    KBw.bInts b = ks → ks.length ≤ 100 → Parse ks r → Fine r → dp + 20 < 800 → un + 90 < 9000 →
    (∀ (h₀' h' : Heap) (tk' t' : Nat) (b' : Array UInt8), KtsTurn (outer.filterMap (·.frame)) g₀ h₀' → Fr h₀' L h' m → News h₀' L h' news → Below A₀ base outer h₀' → (hd.heap_1 w.params).In h₀' → Top p loose mean mg mb h₀' → KtsDicts (outer.filterMap (·.frame)) h₀' → KBw.bInts b' = outOf r →
      Q (.bytes b' t') { s with heap := h', toks := tk' }) →
    wpAny (model PySem.Challenge.rw_on0340_01.row.prog w) (ktrTop dp un gd cn cs L a ccd cl outer) (call (.ref 211) [.bytes b tb]) Q E s := by
  k_fill
  intro w p loose mean mg mb dp un gd cn cs a ccd cl outer A₀ base g₀ h₀ L m s Q E news ks b tb r B F X XB TB N T D T0 hk hb hks hr hfi hdp hun hret
  w_strict (k_dflt (refine wpAny_call ?_; refine' enterS ?k1 ?k2 ?k3 ?k4 ?k5 ?XB ?TB ?D ?T0 ?kA ?kf ?kK ?k6 ?k7 ?k8 ?k9 ?kB ?_ ?c2 ?c3 ?c4 ?c5; (case kA => exact rfl); (case kf => exact rfl); (case kK => assumption); (case k1 => k_asm); (case k2 => k_asm); (case k3 => k_asm); (case k4 => k_asm); (case k5 => k_asm); (case XB => with_reducible assumption); (case TB => with_reducible assumption); (case D => first | with_reducible assumption | assumption); (case T0 => first | assumption | exact KtsTurn.refl); (case k6 => k_is); (case k7 => k_is); (case k8 => ktr_room); (case k9 => exact BindsTo.of_eq rfl); (case kB => exact locs rfl); (case c2 => exact rfl); (case c3 => exact rfl); (case c4 => exact rfl); (case c5 => decide)); intro g' L' h' FG' F' N' B' X' T' D'; (try dsimp only); (try k_lift B'); (try k_fold))
  k_steps
  show wpAny _ _ _ _ _ _
  refine' while_read ?F ?N ?off hr ?h1 ?h2 ?h3 ?turn ?fin (by passes_own)
  (case F => assumption); (case N => assumption); (case off => assumption); (case h1 => exact rfl); (case h2 => exact rfl); (case h3 => exact rfl)
  case fin =>
    intro s' hh9
    refine foldP ?_
    intro P9
    obtain ⟨_, h2, tk2, k, t, u, ds, vs, c, tl, e91, F2, N2, hoff, hsub, hP, hvl, hrd⟩ := hh9
    k_unfold
    clear P9
    subst e91
    (try dsimp only)
    iterate 13 walk1
    show wpAny _ _ _ _ _ _
    refine' copied_pairs ?F ?N hP hvl (by with_unfolding_all rfl) (by decide) (by rfl) (by decide) (by rfl) (by rfl) (by decide) (by rfl) ?hit ?cturn ?cdone
    (case F => assumption); (case N => assumption)
    case hit =>
      intro Q' hq
      walk1
      exact hq
    case cturn =>
      intro i ys nw ta kk tt bb tbb nn hj htm hds I oI C oC D m₂ h tk E' hoC hx1 hx2 F' N' off hne
      (try dsimp only)
      k_steps
      · refine' copy_end ?F ?N ?l1 off (copy_more hj hds ?hb)
        (case F => assumption); (case N => assumption); (case l1 => assumption); (case hb => assumption)
      · refine' ⟨_, _, nw, rfl, ?F, ?N, off, copy_less hj hds ?hb⟩
        (case F => assumption); (case N => assumption); (case hb => assumption)
    case cdone =>
      intro D ys nw h tk hj F' N' off
      (try dsimp only)
      k_steps
      show wpAny _ _ _ _ _ _
      refine foldP ?_
      intro P9
      obtain ⟨hj1, hj2, hj3⟩ := hj
      k_unfold
      clear P9
      rw [List.take_of_length_le (by rw [hP.len]; exact Nat.le_refl _)] at hj2
      rw [hrd] at hfi
      have hE40 := hfi.2
      refine' write_loop (es := ds.filter big) ?fine hj2 off ?F ?N ?hm (by rfl) (by rfl) (by rfl) (by rfl) (by passes_own) ?whit ?wturn ?wdone
      (case F => assumption); (case N => assumption); (case hm => rfl)
      case fine => exact hfi.1
      case whit =>
        intro Q' hq
        walk1
        exact hq
      case wturn =>
        intro i u nw kk tt bb tbb fb tf ls oo hbb hfb hls hlen hes f1 f2 f3 hsub2 I oI h tk F' N' off'
        (try dsimp only)
        k_steps
        · exact absurd (by assumption) (single_big f1)
        · exact absurd (by assumption) (single_big f1)
        · refine' write_end ?F ?N ?hm off' hsub2 hls hes f1 ?e ?ea ?eb
          (case F => assumption); (case N => assumption); (case hm => rfl); (case e => assumption); (case ea => assumption); (case eb => assumption)
      case wdone =>
        intro u nw fb tf ls h tk hfb hls hsub2 F' N'
        (try dsimp only)
        have hls40 : ls.length ≤ 40 := by rw [hls]; exact hE40
        refine foldP ?_
        intro P9
        obtain ⟨pd0, pd1, pd2, pd3⟩ := pad_facts ls.length hls40
        k_unfold
        clear P9
        k_steps
        refine' later_ret hret ?T ?F ?N ?B ?X ?P ?D ?hs ?e
        (case T => assumption); (case F => assumption); (case N => assumption); (case B => assumption); (case X => assumption); (case P => assumption); (case D => first | with_reducible assumption | assumption)
        (case hs => exact fun q hq => hsub2 _ (List.mem_cons_of_mem _ (hj1 _ (List.mem_cons_of_mem _ (hsub _ hq)))))
        (case e => exact some_written hrd hls (by assumption) (by assumption) pd3)
  intro n m1 news1 h2 tk2 F2 N2 hJ
  refine foldP ?_
  intro P9
  obtain ⟨k, t, u, ds, vs, c, tl, r', e91, hkl, e92, e93, hoff, hsub, hP, hvl, hPr, hr'⟩ := hJ
  k_unfold
  clear P9
  subst e91
  subst e92
  subst e93
  (try dsimp only)
  iterate 25 walk1
  · rw [if_pos rfl]
    k_steps
    · obtain ⟨r'', p'', e''⟩ := at_one hPr (by assumption) (by assumption) (by assumption)
      refine' read_end (k' := k + 1) ?F ?N ?h1 ?h2 ?h3 ?hl hoff hsub hP hvl ?ha ?hk ?hk' p'' hr' ?he
      walk_at "read end"; (case ha => rfl); (case hk => omega); (case hk' => omega); (case he => exact e'')
    · walk_at "later raise"; case e => exact none_out hr' (at_bare hPr (by assumption) (by assumption) (by assumption) (by assumption))
    · walk_at "later raise"; case e => exact none_out hr' (at_bad hPr (by assumption) (by assumption) (by assumption) (by assumption) (.inl (by assumption)))
    · walk_at "later raise"; case e => exact none_out hr' (at_bad hPr (by assumption) (by assumption) (by assumption) (by assumption) (.inr (by assumption)))
    · obtain ⟨k', e', h1', h2', r'', p'', e''⟩ := at_opt hPr (by assumption) (by assumption) (by assumption) (by assumption) (by assumption) (by assumption)
      refine' read_end (k' := k') ?F ?N ?h1 ?h2 ?h3 ?hl hoff hsub hP hvl ?ha h1' h2' p'' hr' ?he
      walk_at "read end"; (case ha => exact e')
      (case he => rw [e'']; congr 1; funext _; congr 2; exact (by assumption : KBw.bInts (KBy.picked _ _ _) = _).symm)
  · rw [if_neg (by decide)]
    refine ⟨rfl, _, _, k, _, u, ds, vs, c, tl, rfl, (by assumption), (by assumption), hoff, hsub, hP, (by omega), some_out hr' (at_stop hPr (by assumption) (by assumption))⟩
  · rw [if_neg (by decide)]
    refine ⟨rfl, _, _, k, _, u, ds, vs, c, tl, rfl, (by assumption), (by assumption), hoff, hsub, hP, (by omega), some_out hr' (at_end hPr (by assumption))⟩
end

section
open PySem PySem.W PyProof.Rows PySem.Spec PySem.Calls
theorem wordsO1x1 : True := by
  k_with_none
  w_top off
  k_with "my k_all" => (with_reducible assumption)
  k_with "exec Raise some none" => ((k_here; (with_reducible show wpAny _ _ (exec (Stmt.Raise (some _) none _) _) _ _ _); k_dflt (refine exec_raise ?qhh0 ?_; (case qhh0 => first | rfl | assumption))))
  k_with "call ref" => ((k_here; (with_reducible show wpAny _ _ (call (Value.ref _) [Value.str _ _]) (fun v s₁ => Rd s₁ v ∧ _) _ _); k_dflt (refine' exc_rd (t := _) ?qhX ?qhhh ?qhhd ?qhhu ?qhhC ?_; (case qhhC => first | exact Or.inl rfl | exact Or.inr rfl); (case qhX => k_in); (case qhhh => first | rfl | assumption); (case qhhd => walk_at "my room"); (case qhhu => walk_at "my room"); k_whole); intro h' e' tk' x'))
  k_with "my room" => (first
  | exact Nat.le_of_ble_eq_true rfl
  | ((try simp only [depth_mark, depth_under_make, depth_under_kw, depth_in1, depth_deeper, units_in1, units_deeper, Around.mark_units, units_caller, ktrTop]); omega))
  k_with "leaving ref" => ((k_here; (with_reducible show wpAny _ _ (leaving _ (Value.ref _)) _ _ _); first
  | (k_dflt (refine' leave_newX ?qhk1 ?qhk0 ?qhk2 ?qhk3 ?qhkf ?qhkk ?_; (case qhk0 => assumption); (case qhk2 => assumption); (case qhk1 => assumption); (case qhk3 => k_asm); (case qhkf => exact rfl); (case qhkk => exact rfl); k_whole); intro h' R' U'; (try dsimp only at R' U' ⊢))
  | (k_dflt (refine' leave_onX ?qhk1 ?qhk2 ?qhk3 ?qhk4 ?qhkf ?_; (case qhk3 => assumption); (case qhk2 => assumption); (case qhk1 => assumption); (case qhk4 => assumption); (case qhkf => exact rfl); k_whole); intro h' R' U'; (try dsimp only at R' U' ⊢))))
  k_with "call ref" => ((k_here; (with_reducible show wpAny _ _ (call (Value.ref 253) _) _ _ _); k_dflt (refine wpAny_call ?_; refine' enterS ?qhk1 ?qhk2 ?qhk3 ?qhk4 ?qhk5 ?qhXB ?qhTB ?qhD ?qhT0 ?qhkA ?qhkf ?qhkK ?qhk6 ?qhk7 ?qhk8 ?qhk9 ?qhkB ?_ ?qhc2 ?qhc3 ?qhc4 ?qhc5; (case qhkA => exact rfl); (case qhkf => exact rfl); (case qhkK => exact rfl); (case qhk1 => k_asm); (case qhk2 => k_asm); (case qhk3 => k_asm); (case qhk4 => k_asm); (case qhk5 => k_asm); (case qhXB => with_reducible assumption); (case qhTB => with_reducible assumption); (case qhD => first | with_reducible assumption | assumption); (case qhT0 => first | assumption | exact KtsTurn.refl); (case qhk6 => k_is); (case qhk7 => k_is); (case qhk8 => ktr_room); (case qhk9 => exact BindsTo.of_eq rfl); (case qhkB => exact locs rfl); (case qhc2 => exact rfl); (case qhc3 => exact rfl); (case qhc4 => exact rfl); (case qhc5 => decide); k_whole; intro g' L' h' FG' F' N' B' X' T' D'; (try dsimp only); (try k_lift B'); (try k_fold))))
  k_with "call ref" => ((k_here; (with_reducible show wpAny _ _ (call (Value.ref 239) _) _ _ _); k_dflt (refine' take_u ?qhk1 ?qhk2 ?qhk3 ?qhk4 ?qhk5 ?qhU ?qhkK ?qha0 ?qhb0 ?qhb1 ?qht0 ?qht1 ?qhkd ?qhku ?_; (case qhk1 => k_asm); (case qhk2 => k_asm); (case qhk3 => k_asm); (case qhk4 => k_asm); (case qhU => k_updF); (case qhk5 => k_asm); (case qhkK => first | exact rfl | assumption); (case qha0 => first | assumption | omega); (case qhb0 => first | assumption | omega); (case qhb1 => first | assumption | omega); (case qht0 => omega); (case qht1 => omega); (case qhkd => ktr_room); (case qhku => walk_at "my units"); k_whole); intro v' a' b' t' ta' tb' h' tk' hv0 hv1 ha' hb' hb1' F' ol' N'; (try dsimp only at N'); (try k_sweep)))
  k_with "my units" => (first | exact Nat.lt_of_succ_le (Nat.le_of_ble_eq_true rfl) | ((try simp only [cLine, units_in1, units_deeper, Around.mark_units, units_caller, ktrTop]); omega) | ktr_units)
  k_with "my enterC0" => ((refine' enterC0 ?qhk1 ?qhk2 ?qhk3 ?qhk4 ?qhk5 ?qhkA ?qhkf ?qhkK ?qhk6 ?qhk7 ?qhk8 ?qhk9 ?qhkB ?qhkD ?_ ?qhc2 ?qhc3 ?qhc4; (case qhkA => exact rfl); (case qhkf => exact rfl); (case qhkK => first | exact rfl | assumption); (case qhk1 => k_asm); (case qhk2 => k_asm); (case qhk3 => k_asm); (case qhk4 => k_asm); (case qhk5 => k_asm); (case qhk6 => k_is); (case qhk7 => k_is); (case qhk8 => ktr_room); (case qhk9 => exact BindsTo.of_eq rfl); (case qhkB => exact rfl); (case qhkD => decide +kernel); (case qhc2 => exact rfl); (case qhc3 => exact rfl); (case qhc4 => exact rfl); k_whole; intro g' L' h' tk' cells' FG' F' N' Y' B' X' T' D' l1; (try k_lt l1); k_cells Y'; (try simp only [List.cons_append, List.nil_append] at N'); (try dsimp only); (try k_lift B'); (try k_fold)))
  k_with "my k_room" => (ktr_room)
  k_with "callWith ref" => ((k_here; k_dflt (refine' callWith_K ?qhk1 ?qhk2 ?_; (case qhk1 => k_asm); (case qhk2 => k_is); k_whole)))
  k_with "my mem" => (first | with_reducible apply List.mem_cons_self | (with_reducible apply List.mem_cons_of_mem; walk_at "my mem"))
  k_with "my memD" => (first | apply List.mem_cons_self | (with_reducible apply List.mem_cons_of_mem; walk_at "my memD"))
  k_with "my all" => (first | with_reducible assumption | with_reducible apply List.forall_mem_nil | (with_reducible apply forall_cons; (k_ne); (walk_at "my all")))
  k_with "call type:bytes" => ((k_here; (with_reducible show wpAny _ _ (call (Value.type "bytes") [Value.bytes _ _]) _ _ _); k_dflt (refine call_bytes_bytes ?_)))
  k_with "call type:bytes" => ((k_here; (with_reducible show wpAny _ _ (call (Value.type "bytes") [Value.int _ _]) _ _ _); k_dflt (refine' call_bytes_int ?qhh0 ?qhh1 ?_; (case qhh0 => omega); (case qhh1 => omega); k_whole); intro _ _ _ _ hz' hzl' hzr'))
  k_with "my fold" => (((fail_if_success (with_reducible show wpAny _ _ _ qk _ _)); first | ((with_reducible show wpAny _ _ _ _ ek _); refine fold_q ?_; k_dflt (intro qk)) | (refine fold_wp ?_; k_dflt (intro qk ek))))
  k_with "exec Assign" => (k_fold)
  k_with "exec If" => (k_fold)
  k_with "exec Return some" => (k_fold)
  k_with "eval Call" => (k_fold)
  k_with "my fixmem" => (first | with_reducible assumption | (with_reducible apply List.mem_cons_of_mem; walk_at "my fixmem"))
  k_with "exec For Name Call cons nil" => ((k_here; (with_reducible show wpAny _ _ (exec (Stmt.For _ _ _ _ _) _) _ _ _); refine stop_ ?_))
  k_with "call ref" => ((k_here; (with_reducible show wpAny _ _ (call (Value.ref 246) _) _ _ _); refine stop_ ?_))
  trivial
theorem news_cons {g h : Heap} {L : Addr} {all : List (Addr × Obj)} {q : Addr × Obj} (N : News g L h all) (hq : q ∈ all) : News g L h (q :: all) := List.forall_mem_cons.mpr ⟨N q hq, N⟩
theorem wordsO1x2 : True := by
  k_with "opt end" => ((refine' opt_end ?qhF ?qhN ?qhh1 ?qhh2 ?qhh3 ?qhh4 ?qhh5 ?qhh6 ?qhms ?qhmk ?qhmr ?qhmI ?qhmf ?qhha ?qhhb ?qhhb' ?qhl1 ?qhl2 ?qho1 ?qho2 ?qho3 ?qho4 ?qhhso ?qhhko ?qhe1 ?qhe2 ?kk; (case qhF => assumption); (case qhN => assumption); (case qhh1 => exact rfl); (case qhh2 => exact rfl); (case qhh3 => exact rfl); (case qhh4 => exact rfl); (case qhh5 => exact rfl); (case qhh6 => exact rfl); (case qhms => k_mem); (case qhmk => k_mem); (case qhmr => k_mem); (case qhmI => k_mem); (case qhmf => intro q hq; repeat (first | exact hq | apply List.mem_cons_of_mem)); (case qhha => assumption); (case qhhb => assumption); (case qhhb' => assumption); (case qhl1 => refine ltN ?_; omega); (case qhl2 => refine ltN ?_; omega); (case qho1 => k_ne); (case qho2 => k_ne); (case qho3 => k_ne); (case qho4 => assumption); (case qhhso => assumption); (case qhhko => assumption); (case qhe1 => rw [List.length_append]; omega); (case qhe2 => rw [List.length_append]; exact Nat.le_trans (Nat.add_le_add (Nat.le_refl _) rep_le) (by omega))))
  k_with "call ref" => ((k_here; (with_reducible show wpAny _ _ (call (Value.ref 211) _) _ _ _); refine stop_ ?_))
  k_with "my later" => ((refine' later_c _ _ _ _ _ _ _ _ _ _ _ _ _ _ _ _ _ _ _ _ _ _ _ _ _ _ _ _ _ ?qhB ?qhF ?qhX ?qhXB ?qhTB ?qhN ?qhT ?qhD ?qhT0 ?qhhk ?qhhb ?qhhl ?P ?FF ?qhhd ?qhhu ?_; (case qhB => k_asm); (case qhF => k_asm); (case qhX => k_asm); (case qhXB => with_reducible assumption); (case qhTB => with_reducible assumption); (case qhN => k_asm); (case qhT => k_asm); (case qhD => first | with_reducible assumption | assumption); (case qhT0 => first | assumption | exact KtsTurn.refl); (case qhhk => exact rfl); (case qhhb => first | kba_ints | exact last_ints); (case qhhl => first | ((try simp only [List.length_append]); omega) | decide); (case qhhd => walk_at "my room"); (case qhhu => walk_at "my room")))
  k_with "my one" => (((refine' one_u ?qhk1 ?qhk2 ?qhk3 ?qhk4 ?qhk5 ?qhU ?qhhm ?qhhne ?qhkK ?qha0 ?qhb0 ?qhb1 ?qht0 ?qht1 ?qhkd ?qhku ?_); (case qhk1 => k_asm); (case qhk2 => k_asm); (case qhk3 => k_asm); (case qhk4 => k_asm); (case qhU => k_updF); (case qhhm => walk_at "my fixmem"); (case qhhne => first | with_reducible assumption | k_ne); (case qhk5 => k_asm); (case qhkK => first | exact rfl | assumption); (case qha0 => assumption); (case qhb0 => assumption); (case qhb1 => assumption); (case qht0 => first | with_reducible assumption | decide); (case qht1 => first | with_reducible assumption | decide); (case qhkd => walk_at "my room"); (case qhku => ktr_units)))
  k_with "opt ret" => ((refine' opt_ret ?qhhret ?qhhfr ?e ?qhF ?qhN ?qhm3 ?qhmf ?qha ?qhb ?qhc; (case qhhret => assumption); (case qhhfr => assumption); (case qhF => assumption); (case qhN => assumption); (case qhm3 => walk_at "my memD"); (case qhmf => intro q hq; repeat (first | exact hq | apply List.mem_cons_of_mem)); (case qha => assumption); (case qhb => assumption); (case qhc => assumption)))
  trivial
theorem options_c : ∀ (w : World) (p : Program) (loose : List Str) (mean : ExcName → Option Value) (mg mb : Str → Option Value) (dp un : Nat) (gd : Option (List Code)) (cn : Str) (cs : Scope) (a : Addr) (ccd : Value) (cl : List (Str × Addr)) (A₀ : Around) (base h₀ : Heap) (L : Addr) (m : Str → Option Value) (s : Shared) (Q E : Value → Shared → Prop)
    (src : Addr) (a0 b0 : Int) (ta tb : Tok) (n : Nat) (rest : List (Addr × Obj)),
    Below A₀ base [] h₀ → Fr h₀ L s.heap m → (hd.heap_1 w.params).In h₀ → (hd.heap_1 w.params).In base → Top p loose mean mg mb base →
    News h₀ L s.heap ((src, listOf #[.int a0 ta, .int b0 tb] n) :: rest) → Top p loose mean mg mb h₀ → cs.kind = .function →
    (∀ p ∈ rest, p.1 ≠ src) → 0 ≤ a0 → 0 ≤ b0 → b0 < 2147483647 → dp + 30 < 800 → un + 190 < 9000 →
    (∀ (a1 b1 : Int) (ta tb : Tok) (h' : Heap) (tk' : Nat), 0 ≤ a1 → 0 ≤ b1 → b1 < 2147483647 → Fr h₀ L h' m →
      News h₀ L h' ((src, listOf #[.int a1 ta, .int b1 tb] n) :: rest) → Q (.bool true) { s with heap := h', toks := tk' }) →
    wpAny (model PySem.Challenge.rw_on0340_01.row.prog w) (ktrTop dp un gd cn cs L a ccd cl []) (call (.ref 267) [.ref src]) Q E s := by
  k_fill
  intro w p loose mean mg mb dp un gd cn cs a ccd cl A₀ base h₀ L m s Q E src a0 b0 ta tb n rest B F X XB TB N T hk hrest ha0 hb0 hb1 hdp hun hret
  refine wpAny_call ?_
  w_strict (k_dflt (refine' enterC0 ?k1 ?k2 ?k3 ?k4 ?k5 ?kA ?kf ?kK ?k6 ?k7 ?k8 ?k9 ?kB ?kD ?_ ?c2 ?c3 ?c4; (case kA => exact rfl); (case kf => exact rfl); (case kK => first | exact rfl | assumption); (case k1 => k_asm); (case k2 => k_asm); (case k3 => k_asm); (case k4 => k_asm); (case k5 => k_asm); (case k6 => k_is); (case k7 => k_is); (case k8 => ktr_room); (case k9 => exact BindsTo.of_eq rfl); (case kB => exact rfl); (case kD => decide +kernel); (case c2 => exact rfl); (case c3 => exact rfl); (case c4 => exact rfl)))
  intro g' L' h1 tk1 cells' FG' F1 N1 Y' B1 X1 T1 D1 l1
  obtain rfl : cells' = [] := by cases Y'; rfl
  clear Y'
  simp only [List.nil_append] at N1
  k_lt l1
  refine foldP ?_
  intro P9
  obtain ⟨l0, lr⟩ := l1
  k_unfold
  clear P9
  k_lift B1
  k_steps
  show wpAny _ _ _ _ _ _
  refine opt_abs (by assumption) hrest ?ls ?_
  case ls => refine ⟨?_, ?_, ?_, ?_, ?_, ?_, ?_, ?_, ?_, ?_, ?_, ?_, ?_, ?_, ?_⟩ <;> (simp only [*])
  intro fix N2 hK hW hfs hfr hsA hkA
  rename_i F2 _ _
  refine for_rangeT (J := OptJH hK hW n g') rfl rfl (by passes_own) (fun _ => rfl) rfl ?_
  k_steps
  refine' rangeT_intro ?F ?N ?R ?h0 ?h1 (opt_start hK hW ?e1 ?e2 ?e3 ?e4 ?e5 ?e6 ?a ?b ?c hsA hkA) ?turn ?done
  (case N => assumption); (case F => assumption); (case R => assumption); (case h0 => assumption); (case h1 => assumption)
  (case e1 => exact rfl); (case e2 => exact rfl); (case e3 => exact rfl); (case e4 => exact rfl); (case e5 => exact rfl); (case e6 => exact rfl); (case a => assumption); (case b => assumption); (case c => assumption)
  case turn =>
    intro I i g m1 news1 t h tk hi hi6 hJ off F' N'
    refine foldP ?_
    intro P9
    obtain ⟨e91, u, a1, b1, ta1, tb1, sA', kA', vs, vk, cs, ck, so, ko, io, e92, e93, ha1, hb1, hb2, lsA, lkA, hso, hko, hsl, hkl, hKO⟩ := hJ
    k_unfold
    clear P9
    subst e91
    subst e92
    subst e93
    have o1 := neN (off _ (by k_mem : (sA', listOf vs.toArray cs) ∈ _))
    have o2 := neN (off _ (by k_mem : (kA', listOf vk.toArray ck) ∈ _))
    have o3 := neN (off (src, _) (by k_mem))
    have o4 : ∀ q ∈ fix, q.1 ≠ I := fun q hq => off q (by simp [hq])
    clear off
    dsimp only at o1 o2 o3
    k_lt2 lsA
    k_lt2 lkA
    refine foldP ?_
    intro P9
    obtain ⟨kvs, kc, hKm, hKne, hKl, hKv⟩ := id hK
    k_unfold
    clear P9
    have hKl1 : 1 ≤ kvs.length := by rw [hKl]; decide
    have hKl2 : kvs.length ≤ 1000 := by rw [hKl]; decide
    (try dsimp only)
    (try k_fold)
    k_steps
    show wpAny _ _ _ _ _ _
    walk_at "my one"
    intro i2 v2 a2 b2 ta2 tb2 h2 tk2 hv2 ha2 hb2 hb22 F2 N2
    refine foldP ?_
    intro P9
    obtain ⟨ad, lv, lc, ln, e91, had, hln, hlm, hads⟩ := hKv _ (List.mem_of_getElem? hv2)
    k_unfold
    clear P9
    subst e91
    (try dsimp only at N2)
    replace N2 := news_cons (q := (ad, listOf lv.toArray lc)) N2 (by walk_at "my fixmem")
    have hlb : 1 ≤ ln.length ∧ ln.length ≤ 7 := by
      simp only [List.mem_cons, List.not_mem_nil, or_false] at hlm
      rcases hlm with rfl | rfl | rfl | rfl | rfl | rfl | rfl <;> decide
    obtain ⟨hlb1, hlb2⟩ := hlb
    (try k_sweep)
    k_steps
    · refine' opt_add (by k_asm) (by k_asm) (by k_mem) (by k_mem) hko (by k_asm) ?sz ?_
      case sz => exact Nat.le_trans (Nat.add_le_add (Nat.le_refl _) rep_le) (by omega)
      intro D9 h9 vk9 F9 N9 hI9 l9
      k_lt l9
      k_steps
      walk_at "opt end"; case kk => exact KO.turn1 hKO hlm (by assumption) (by assumption)
    · refine' opt_add (by k_asm) (by k_asm) (by k_mem) (by k_mem) hko (by k_asm) ?sz ?_
      case sz => exact Nat.le_trans (Nat.add_le_add (Nat.le_refl _) rep_le) (by omega)
      intro D9 h9 vk9 F9 N9 hI9 l9
      k_lt l9
      k_steps
      walk_at "opt end"; case kk => exact KO.turn2 hKO hlm (by assumption) (by assumption)
    · refine' opt_add (by k_asm) (by k_asm) (by k_mem) (by k_mem) hko (by k_asm) ?sz ?_
      case sz => exact Nat.le_trans (Nat.add_le_add (Nat.le_refl _) rep_le) (by omega)
      intro D9 h9 vk9 F9 N9 hI9 l9
      k_lt l9
      k_steps
      walk_at "opt end"; case kk => exact KO.turn3 hKO hlm (by assumption)
  case done =>
    intro g m1 news1 h tk hJ hi6 F' N'
    refine foldP ?_
    intro P9
    obtain ⟨e91, u, a1, b1, ta1, tb1, sA', kA', vs, vk, cs, ck, so, ko, io, e92, e93, ha1, hb1, hb2, lsA, lkA, hso, hko, hsl, hkl, hKO⟩ := hJ
    k_unfold
    clear P9
    subst e91
    subst e92
    subst e93
    k_lt2 lsA
    k_lt2 lkA
    have hin := hKO.1
    have hkn := hKO.2.1
    have hk35 : ko.length ≤ 35 := by omega
    have hs35 : so.length ≤ 35 := by omega
    obtain ⟨fm0, fm1⟩ := fmod_bd (0 - (ko.length : Int)) (k := 4) (by decide)
    replace F' : Fr g L' _ _ := F'
    replace N' : News g L' _ _ := N'
    (try dsimp only)
    (try k_fold)
    k_steps
    show wpAny _ _ _ _ _ _
    refine foldP ?_
    intro P9
    obtain ⟨r1, p1, q1, z1⟩ := hKO.all (by omega)
    k_unfold
    clear P9
    walk_at "my later"; (case P => exact p1); (case FF => exact q1)
    intro h₁ h' tk' t' b' T1' F' N' B' X' P' D' hb'
    k_steps
    · exact (ints_ne (by assumption) hb' (by assumption) (z1.trans (congrArg (ko ++ ·) (Eq.symm (by assumption))))).elim
    show wpAny _ _ _ _ _ _
    refine foldP ?_
    intro P9
    obtain ⟨kvs, kc, hKm, hKne, hKl, hKv⟩ := id hW
    k_unfold
    clear P9
    have hKl1 : 1 ≤ kvs.length := by rw [hKl]; decide
    have hKl2 : kvs.length ≤ 1000 := by rw [hKl]; decide
    walk_at "my one"
    intro i2 v2 a2 b2 ta2 tb2 h2 tk2 hv2 ha2 hb2 hb22 F2 N2
    refine foldP ?_
    intro P9
    obtain ⟨ad, lv, lc, ln, e91, had, hln, hlm, hads⟩ := hKv _ (List.mem_of_getElem? hv2)
    k_unfold
    clear P9
    subst e91
    (try dsimp only at N2)
    replace N2 := news_cons (q := (ad, listOf lv.toArray lc)) N2 (by walk_at "my fixmem")
    have hlb : (1 ≤ ln.length ∧ ln.length ≤ 4) ∧ ∀ x ∈ ln, 0 ≤ x ∧ x < 256 := by
      simp only [List.mem_cons, List.not_mem_nil, or_false] at hlm
      rcases hlm with rfl | rfl | rfl | rfl <;> exact ⟨by decide, by decide⟩
    obtain ⟨⟨hlb1, hlb2⟩, hlb3⟩ := hlb
    have hin2 : ∀ x ∈ so ++ ln, 0 ≤ x ∧ x < 256 := fun x hx => (List.mem_append.mp hx).elim (hin x) (hlb3 x)
    k_steps
    show wpAny _ _ _ _ _ _
    refine foldP ?_
    intro P9
    obtain ⟨r2, p2, q2, z2⟩ := hKO.wrong (by omega) hlm
    k_unfold
    clear P9
    walk_at "my later"; (case P => exact p2); (case FF => exact q2)
    intro h₁ h' tk' t' b' T1' F' N' B' X' P' D' hb'
    k_steps
    · exact (ints_ne (by assumption) hb' (y := []) rfl (by rw [z2, if_pos (by assumption)])).elim
    · skip
      show wpAny _ _ _ _ _ _
      walk_at "my later"; (case P => exact parse_last); (case FF => exact fine_last)
      intro h₁ h' tk' t' b' T1' F' N' B' X' P' D' hb'
      k_steps
      walk_at "opt ret"; (case e => exact last_eq hb')
    · exact (ints_ne (by assumption) hb' (by assumption) (by rw [z2, if_neg (by simp [*])]; exact congrArg (ko ++ ·) (Eq.symm (by assumption)))).elim
    · skip
      show wpAny _ _ _ _ _ _
      walk_at "my later"; (case P => exact parse_last); (case FF => exact fine_last)
      intro h₁ h' tk' t' b' T1' F' N' B' X' P' D' hb'
      k_steps
      walk_at "opt ret"; (case e => exact last_eq hb')
end

section
open PySem PySem.W PyProof.Rows PySem.Spec PySem.Calls
theorem wordsN1x1 : True := by
  k_with_none
  w_top off
  k_with "my k_all" => (with_reducible assumption)
  k_with "exec Raise some none" => ((k_here; (with_reducible show wpAny _ _ (exec (Stmt.Raise (some _) none _) _) _ _ _); k_dflt (refine exec_raise ?qhh0 ?_; (case qhh0 => first | rfl | assumption))))
  k_with "call ref" => ((k_here; (with_reducible show wpAny _ _ (call (Value.ref _) [Value.str _ _]) (fun v s₁ => Rd s₁ v ∧ _) _ _); k_dflt (refine' exc_rd (t := _) ?qhX ?qhhh ?qhhd ?qhhu ?qhhC ?_; (case qhhC => first | exact Or.inl rfl | exact Or.inr rfl); (case qhX => k_in); (case qhhh => first | rfl | assumption); (case qhhd => walk_at "my room"); (case qhhu => walk_at "my room"); k_whole); intro h' e' tk' x'))
  k_with "my room" => (first
  | exact Nat.le_of_ble_eq_true rfl
  | ((try simp only [depth_mark, depth_under_make, depth_under_kw, depth_in1, depth_deeper, units_in1, units_deeper, Around.mark_units, units_caller, ktrTop]); omega))
  k_with "leaving ref" => ((k_here; (with_reducible show wpAny _ _ (leaving _ (Value.ref _)) _ _ _); first
  | (k_dflt (refine' leave_newX ?qhk1 ?qhk0 ?qhk2 ?qhk3 ?qhkf ?qhkk ?_; (case qhk0 => assumption); (case qhk2 => assumption); (case qhk1 => assumption); (case qhk3 => k_asm); (case qhkf => exact rfl); (case qhkk => exact rfl); k_whole); intro h' R' U'; (try dsimp only at R' U' ⊢))
  | (k_dflt (refine' leave_onX ?qhk1 ?qhk2 ?qhk3 ?qhk4 ?qhkf ?_; (case qhk3 => assumption); (case qhk2 => assumption); (case qhk1 => assumption); (case qhk4 => assumption); (case qhkf => exact rfl); k_whole); intro h' R' U'; (try dsimp only at R' U' ⊢))))
  k_with "call ref" => ((k_here; (with_reducible show wpAny _ _ (call (Value.ref 253) _) _ _ _); k_dflt (refine wpAny_call ?_; refine' enterS ?qhk1 ?qhk2 ?qhk3 ?qhk4 ?qhk5 ?qhXB ?qhTB ?qhD ?qhT0 ?qhkA ?qhkf ?qhkK ?qhk6 ?qhk7 ?qhk8 ?qhk9 ?qhkB ?_ ?qhc2 ?qhc3 ?qhc4 ?qhc5; (case qhkA => exact rfl); (case qhkf => exact rfl); (case qhkK => exact rfl); (case qhk1 => k_asm); (case qhk2 => k_asm); (case qhk3 => k_asm); (case qhk4 => k_asm); (case qhk5 => k_asm); (case qhXB => with_reducible assumption); (case qhTB => with_reducible assumption); (case qhD => first | with_reducible assumption | assumption); (case qhT0 => first | assumption | exact KtsTurn.refl); (case qhk6 => k_is); (case qhk7 => k_is); (case qhk8 => ktr_room); (case qhk9 => exact BindsTo.of_eq rfl); (case qhkB => exact locs rfl); (case qhc2 => exact rfl); (case qhc3 => exact rfl); (case qhc4 => exact rfl); (case qhc5 => decide); k_whole; intro g' L' h' FG' F' N' B' X' T' D'; (try dsimp only); (try k_lift B'); (try k_fold))))
  k_with "call ref" => ((k_here; (with_reducible show wpAny _ _ (call (Value.ref 239) _) _ _ _); k_dflt (refine' take_u ?qhk1 ?qhk2 ?qhk3 ?qhk4 ?qhk5 ?qhU ?qhkK ?qha0 ?qhb0 ?qhb1 ?qht0 ?qht1 ?qhkd ?qhku ?_; (case qhk1 => k_asm); (case qhk2 => k_asm); (case qhk3 => k_asm); (case qhk4 => k_asm); (case qhU => k_updF); (case qhk5 => k_asm); (case qhkK => first | exact rfl | assumption); (case qha0 => first | assumption | omega); (case qhb0 => first | assumption | omega); (case qhb1 => first | assumption | omega); (case qht0 => omega); (case qht1 => omega); (case qhkd => ktr_room); (case qhku => walk_at "my units"); k_whole); intro v' a' b' t' ta' tb' h' tk' hv0 hv1 ha' hb' hb1' F' ol' N'; (try dsimp only at N'); (try k_sweep)))
  k_with "my units" => (first | exact Nat.lt_of_succ_le (Nat.le_of_ble_eq_true rfl) | ((try simp only [cLine, units_in1, units_deeper, Around.mark_units, units_caller, ktrTop]); omega) | ktr_units)
  k_with "my enterC0" => ((refine' enterC0 ?qhk1 ?qhk2 ?qhk3 ?qhk4 ?qhk5 ?qhkA ?qhkf ?qhkK ?qhk6 ?qhk7 ?qhk8 ?qhk9 ?qhkB ?qhkD ?_ ?qhc2 ?qhc3 ?qhc4; (case qhkA => exact rfl); (case qhkf => exact rfl); (case qhkK => first | exact rfl | assumption); (case qhk1 => k_asm); (case qhk2 => k_asm); (case qhk3 => k_asm); (case qhk4 => k_asm); (case qhk5 => k_asm); (case qhk6 => k_is); (case qhk7 => k_is); (case qhk8 => ktr_room); (case qhk9 => exact BindsTo.of_eq rfl); (case qhkB => exact rfl); (case qhkD => decide +kernel); (case qhc2 => exact rfl); (case qhc3 => exact rfl); (case qhc4 => exact rfl); k_whole; intro g' L' h' tk' cells' FG' F' N' Y' B' X' T' D' l1; (try k_lt l1); k_cells Y'; (try simp only [List.cons_append, List.nil_append] at N'); (try dsimp only); (try k_lift B'); (try k_fold)))
  k_with "my k_room" => (ktr_room)
  k_with "callWith ref" => ((k_here; k_dflt (refine' callWith_K ?qhk1 ?qhk2 ?_; (case qhk1 => k_asm); (case qhk2 => k_is); k_whole)))
  k_with "my mem" => (first | with_reducible apply List.mem_cons_self | (with_reducible apply List.mem_cons_of_mem; walk_at "my mem"))
  k_with "my memD" => (first | apply List.mem_cons_self | (with_reducible apply List.mem_cons_of_mem; walk_at "my memD"))
  k_with "my all" => (first | with_reducible assumption | with_reducible apply List.forall_mem_nil | (with_reducible apply forall_cons; (k_ne); (walk_at "my all")))
  k_with "call type:bytes" => ((k_here; (with_reducible show wpAny _ _ (call (Value.type "bytes") [Value.bytes _ _]) _ _ _); k_dflt (refine call_bytes_bytes ?_)))
  k_with "call type:bytes" => ((k_here; (with_reducible show wpAny _ _ (call (Value.type "bytes") [Value.int _ _]) _ _ _); k_dflt (refine' call_bytes_int ?qhh0 ?qhh1 ?_; (case qhh0 => omega); (case qhh1 => omega); k_whole); intro _ _ _ _ hz' hzl' hzr'))
  k_with "my fold" => (((fail_if_success (with_reducible show wpAny _ _ _ qk _ _)); first | ((with_reducible show wpAny _ _ _ _ ek _); refine fold_q ?_; k_dflt (intro qk)) | (refine fold_wp ?_; k_dflt (intro qk ek))))
  k_with "exec Assign" => (k_fold)
  k_with "exec If" => (k_fold)
  k_with "exec Return some" => (k_fold)
  k_with "eval Call" => (k_fold)
  trivial
theorem three_bd {x y z : Int} {t u o : Tok} (hx : 0 ≤ x ∧ x ≤ y) (hz : 0 ≤ z ∧ z ≤ y) : ∀ v ∈ [Value.int x t, .int y u, .int z o], ∃ n t, v = .int n t ∧ 0 ≤ n ∧ n ≤ y := by
  intro w hw
  simp only [List.mem_cons, List.not_mem_nil, or_false] at hw
  rcases hw with rfl | rfl | rfl
  · exact ⟨_, _, rfl, hx⟩
  · exact ⟨_, _, rfl, Int.le_trans hx.1 hx.2, Int.le_refl _⟩
  · exact ⟨_, _, rfl, hz⟩
theorem wordsN1x2 : True := by
  k_with "my fixmem" => (first | with_reducible assumption | (with_reducible apply List.mem_cons_of_mem; walk_at "my fixmem"))
  k_with "CompSrc" => (refine stop_ ?_)
  k_with "call ref" => ((k_here; (with_reducible show wpAny _ _ (call (Value.ref 246) _) _ _ _); k_dflt (refine' one_i (lo := 0) ?qhk1 ?qhk2 ?qhk3 ?qhk4 ?qhk5 ?qhU ?qhhm ?qhhne ?qhkK ?qhhv ?qha0 ?qhb0 ?qhb1 ?qht0 ?qht1 ?qhkd ?qhku ?_; (case qhk1 => k_asm); (case qhk2 => k_asm); (case qhk3 => k_asm); (case qhk4 => k_asm); (case qhU => k_updF); (case qhhm => walk_at "my fixmem"); (case qhhne => assumption); (case qhk5 => k_asm); (case qhkK => first | exact rfl | assumption); (case qhhv => assumption); (case qha0 => assumption); (case qhb0 => assumption); (case qhb1 => assumption); (case qht0 => omega); (case qht1 => omega); (case qhkd => walk_at "my room"); (case qhku => walk_at "my room"); k_whole); intro x' a' b' t' ta' tb' h' tk' hx0' hx1' ha' hb' hb1' F' ol' N'; (try dsimp only at N'); (try k_sweep)))
  trivial
def RowOk (fix : List (Addr × Obj)) (src : Nat) (v : Value) (hi : Int) : Prop := ∃ th vs k, v = .ref th ∧ (th, listOf (List.toArray vs) k) ∈ fix ∧ @Ne Nat th src ∧ vs.length = 3 ∧ ∀ y ∈ vs, ∃ z t, y = .int z t ∧ 0 ≤ z ∧ z ≤ hi
def Got : List Value → List Int → Prop
  | [], _ => True
  | y :: ys, h :: hs => (∃ z t, y = .int z t ∧ 0 ≤ z ∧ z ≤ h) ∧ Got ys hs
  | _ :: _, [] => False
theorem Got.snoc {y : Value} {h : Int} (hy : ∃ z t, y = .int z t ∧ 0 ≤ z ∧ z ≤ h) : ∀ {ys : List Value} {hs : List Int}, Got ys hs → hs[ys.length]? = some h → Got (ys ++ [y]) hs
  | [], [], _, e => by cases e
  | [], h :: hs, _, e => by cases e; exact ⟨hy, trivial⟩
  | _ :: _, [], g, _ => g.elim
  | z :: ys, k :: hs, g, e => ⟨g.1, Got.snoc hy g.2 e⟩
theorem Got.inv : ∀ {ys : List Value} {h : Int} {hs : List Int} {n : Nat}, Got ys (h :: hs) → ys.length = n + 1 → ∃ x t r, ys = .int x t :: r ∧ (0 ≤ x ∧ x ≤ h) ∧ Got r hs ∧ r.length = n
  | [], _, _, _, _, l => by cases l
  | _ :: r, _, _, _, ⟨⟨x, t, e, a⟩, g⟩, l => ⟨x, t, r, by rw [e], a, g, Nat.succ.inj l⟩
theorem got6 {ys : List Value} {h0 h1 h2 h3 h4 h5 : Int} {P : Prop} (g : Got ys [h0, h1, h2, h3, h4, h5]) (l : ys.length = 6)
    (k : ∀ x0 t0 x1 t1 x2 t2 x3 t3 x4 t4 x5 t5, ys = [.int x0 t0, .int x1 t1, .int x2 t2, .int x3 t3, .int x4 t4, .int x5 t5] → 0 ≤ x0 → x0 ≤ h0 → 0 ≤ x1 → x1 ≤ h1 → 0 ≤ x2 → x2 ≤ h2 → 0 ≤ x3 → x3 ≤ h3 → 0 ≤ x4 → x4 ≤ h4 → 0 ≤ x5 → x5 ≤ h5 → P) : P := by
  obtain ⟨x0, t0, r0, rfl, a0, g, l⟩ := g.inv l
  obtain ⟨x1, t1, r1, rfl, a1, g, l⟩ := g.inv l
  obtain ⟨x2, t2, r2, rfl, a2, g, l⟩ := g.inv l
  obtain ⟨x3, t3, r3, rfl, a3, g, l⟩ := g.inv l
  obtain ⟨x4, t4, r4, rfl, a4, g, l⟩ := g.inv l
  obtain ⟨x5, t5, r5, rfl, a5, g, l⟩ := g.inv l
  obtain rfl := List.eq_nil_of_length_eq_zero l
  exact k _ _ _ _ _ _ _ _ _ _ _ _ rfl a0.1 a0.2 a1.1 a1.2 a2.1 a2.2 a3.1 a3.2 a4.1 a4.2 a5.1 a5.2
def NumEnd (h₀ : Heap) (L : Addr) (m : Str → Option Value) (s₀ : Shared) (hd3 fix : List (Addr × Obj)) (src n : Nat) (hi : Int) (y : Value) (s' : Shared) : Prop :=
  ∃ z t a2 b2 ta2 tb2 h' tk', y = .int z t ∧ 0 ≤ z ∧ z ≤ hi ∧ 0 ≤ a2 ∧ 0 ≤ b2 ∧ b2 < 2147483647 ∧ s' = { s₀ with heap := h', toks := tk' } ∧ Fr h₀ L h' m ∧ News h₀ L h' (hd3 ++ (src, listOf #[.int a2 ta2, .int b2 tb2] n) :: fix)
theorem NumEnd.of {h₀ : Heap} {L : Addr} {m : Str → Option Value} {s₀ : Shared} {hd3 fix : List (Addr × Obj)} {src n : Nat} {hi z a2 b2 : Int} {t ta2 tb2 : Tok} {h' : Heap} {tk' : Nat} (F : Fr h₀ L h' m) (N : News h₀ L h' (hd3 ++ (src, listOf #[.int a2 ta2, .int b2 tb2] n) :: fix))
    (z0 : 0 ≤ z) (z1 : z ≤ hi) (x0 : 0 ≤ a2) (x1 : 0 ≤ b2) (x2 : b2 < 2147483647) : NumEnd h₀ L m s₀ hd3 fix src n hi (.int z t) { s₀ with heap := h', toks := tk' } :=
  ⟨z, t, a2, b2, ta2, tb2, h', tk', rfl, z0, z1, x0, x1, x2, rfl, F, N⟩
theorem nums_src {prog : Program} {w : World} {A : Around} {h₀ : Heap} {L : Addr} {m : Str → Option Value} {env : Env} {elt : Expr} {x : Str} {scope : Scope} {cl : List (Str × Addr)} {Fin : Shared → List Value → List (Addr × Obj) → Prop} {s₁ : Shared} {ax lc src n k0 : Nat} {oc : Obj} {its : Array Value} {a0 b0 : Int} {ta tb : Tok} {all fix rest : List (Addr × Obj)}
    (his : List Int) (hh : A.handled = none) (F : Fr h₀ L s₁.heap m) (N : News h₀ L s₁.heap all) (mk : List Bool) (hfe : fix = maskT mk all ++ rest) (mf : ∀ q ∈ rest, q ∈ all) (hm : (ax, ({ cls := .type "list", data := .seq its k0 } : Obj)) ∈ fix) (mc : (lc, oc) ∈ all) (ms : (src, listOf #[.int a0 ta, .int b0 tb] n) ∈ all) (hsz : its.size ≤ sizeLine)
    (ha : 0 ≤ a0) (hb : 0 ≤ b0) (hb1 : b0 < 2147483647) (hne : ∀ q ∈ fix, q.1 ≠ src) (rows : ∀ (i : Nat) (v : Value), its[i]? = some v → ∃ hi, his[i]? = some hi ∧ RowOk fix src v hi)
    (turn : ∀ fx v hi a1 b1 ta tb I oI C oC D oD m₂ g h tk (E' : Value → Shared → Prop), (∀ q ∈ fx, q.1 ≠ src) → RowOk fx src v hi → 0 ≤ a1 → 0 ≤ b1 → b1 < 2147483647 → LCg.NsObj oC m₂ → m₂ x = some v → Fr h₀ L h m →
      News h₀ L h ((I, oI) :: (C, oC) :: (D, oD) :: (lc, oc) :: (src, listOf #[.int a1 ta, .int b1 tb] n) :: fx) → (@Ne Nat lc I ∧ @Ne Nat lc C ∧ @Ne Nat lc D) → (@Ne Nat src I ∧ @Ne Nat src C ∧ @Ne Nat src D) → (@Ne Nat I C ∧ @Ne Nat I D ∧ @Ne Nat C D) →
      wpAny (model prog w) A (eval elt (compEnvC scope cl C env)) (NumEnd h₀ L m { s₁ with heap := g } [(I, oI), (C, oC), (D, oD), (lc, oc)] fx src n hi) E' { s₁ with heap := h, toks := tk })
    (done : ∀ g ys a1 b1 ta tb, Got ys his → ys.length = its.size → 0 ≤ a1 → 0 ≤ b1 → b1 < 2147483647 → Fin { s₁ with heap := g } ys ((lc, oc) :: (src, listOf #[.int a1 ta, .int b1 tb] n) :: fix)) :
    LCg.CompSrc prog w A h₀ L m env elt x scope cl Fin (.ref ax) s₁ := by
  have hfix : ∀ q ∈ fix, q ∈ all := fun q hq => by
    rw [hfe] at hq
    exact (List.mem_append.mp hq).elim maskT_mem (mf q)
  clear hfe
  refine LCg.CompSrc.ledger hh F (news := (lc, oc) :: (src, listOf #[.int a0 ta, .int b0 tb] n) :: fix) (List.forall_mem_cons.mpr ⟨N _ mc, List.forall_mem_cons.mpr ⟨N _ ms, fun q hq => N q (hfix q hq)⟩⟩) (List.mem_cons_of_mem _ (List.mem_cons_of_mem _ hm)) hsz fun g => ?_
  have key : ∀ k i ys a1 b1 ta tb, i + k = its.size → ys.length = i → Got ys his → 0 ≤ a1 → 0 ≤ b1 → b1 < 2147483647 →
      LCg.CompRest prog w A h₀ L m env elt x scope cl { s₁ with heap := g } (LCg.SrcAt h₀ ax its) (fun i v => its[i]? = some v) (Fin { s₁ with heap := g }) k i ys ((lc, oc) :: (src, listOf #[.int a1 ta, .int b1 tb] n) :: fix) := by
    intro k
    induction k with
    | zero => exact fun i ys a1 b1 ta tb hi hl hG x0 x1 x2 => done g ys a1 b1 ta tb hG (by omega) x0 x1 x2
    | succ k ih =>
      intro i ys a1 b1 ta tb hik hl hG x0 x1 x2 v I oI C oC D m₂ h tk E' hv hC hx F N off ne
      obtain ⟨hi, hhi, hrow⟩ := rows i v hv
      refine wpAny_mono (turn fix v hi a1 b1 ta tb I oI C oC D (LCg.lst ys) m₂ g h tk E' hne hrow x0 x1 x2 hC hx F N off.1 off.2.1 ne) (fun y s' hz => ?_) fun _ _ e => e
      refine foldP ?_
      intro P9
      obtain ⟨z, t, a2, b2, ta2, tb2, h', tk', e91, z0, z1, y0, y1, y2, e92, F', N'⟩ := hz
      k_unfold
      clear P9
      subst e91
      subst e92
      exact ⟨h', tk', _, rfl, F', N', off, .inr ⟨_, List.mem_cons_of_mem _ (List.mem_cons_of_mem _ hm), rfl, _, rfl⟩, ih (i + 1) _ a2 b2 ta2 tb2 (by omega) (by simp [hl]) (hG.snoc ⟨z, t, rfl, z0, z1⟩ (hl ▸ hhi)) y0 y1 y2⟩
  exact key its.size 0 [] a0 b0 ta tb (Nat.zero_add _) rfl trivial ha hb hb1
theorem six_of {x0 x1 x2 x3 x4 x5 : Int} (a0 : 0 ≤ x0) (b0 : x0 ≤ 2 ^ Int.toNat 32 - 1) (a1 : 0 ≤ x1) (b1 : x1 ≤ 2 ^ Int.toNat 32 - 1) (a2 : 0 ≤ x2) (b2 : x2 ≤ 255) (a3 : 0 ≤ x3) (b3 : x3 ≤ 65535) (a4 : 0 ≤ x4) (b4 : x4 ≤ 255) (a5 : 0 ≤ x5) (b5 : x5 ≤ 255) : Six x0 x1 x2 x3 x4 x5 := by
  have e : (2 ^ Int.toNat 32 - 1 : Int) = 4294967295 := by decide +kernel
  rw [e] at b0 b1
  refine ⟨⟨?_, ?_⟩, ⟨?_, ?_⟩, ⟨?_, ?_⟩, ⟨?_, ?_⟩, ⟨?_, ?_⟩, ⟨?_, ?_⟩⟩ <;> omega
theorem num_ret {Q : Value → Shared → Prop} {h₀ : Heap} {L src n : Nat} {m : Str → Option Value} {rest : List (Addr × Obj)} {s : Shared}
    (hret : ∀ (D : Addr) (x0 x1 x2 x3 x4 x5 a1 b1 : Int) (t0 t1 t2 t3 t4 t5 ta tb : Tok) (h' : Heap) (tk' : Nat), Six x0 x1 x2 x3 x4 x5 → 0 ≤ a1 → 0 ≤ b1 → b1 < 2147483647 → Fr h₀ L h' m →
      News h₀ L h' ((D, listOf #[.int x0 t0, .int x1 t1, .int x2 t2, .int x3 t3, .int x4 t4, .int x5 t5] 6) :: (src, listOf #[.int a1 ta, .int b1 tb] n) :: rest) → @Ne Nat src D → LCg.Off1 D rest → Q (.ref D) { s with heap := h', toks := tk' })
    {D : Addr} {x0 x1 x2 x3 x4 x5 a1 b1 : Int} {t0 t1 t2 t3 t4 t5 ta tb : Tok} {h' : Heap} {tk' : Nat} {all : List (Addr × Obj)} (F : Fr h₀ L h' m) (N : News h₀ L h' all)
    (mD : (D, listOf #[.int x0 t0, .int x1 t1, .int x2 t2, .int x3 t3, .int x4 t4, .int x5 t5] 6) ∈ all) (m3 : (src, listOf #[.int a1 ta, .int b1 tb] n) ∈ all) (mf : ∀ q ∈ rest, q ∈ all)
    (six : Six x0 x1 x2 x3 x4 x5) (ha : 0 ≤ a1) (hb : 0 ≤ b1) (hb' : b1 < 2147483647) (n1 : @Ne Nat src D) (n2 : LCg.Off1 D rest) : Q (.ref D) { s with heap := h', toks := tk' } :=
  hret D x0 x1 x2 x3 x4 x5 a1 b1 t0 t1 t2 t3 t4 t5 ta tb h' tk' six ha hb hb' F (List.forall_mem_cons.mpr ⟨N _ mD, List.forall_mem_cons.mpr ⟨N _ m3, fun r hr => N r (mf r hr)⟩⟩) n1 n2
theorem numbers_c : ∀ (w : World) (p : Program) (loose : List Str) (mean : ExcName → Option Value) (mg mb : Str → Option Value) (dp un : Nat) (gd : Option (List Code)) (cn : Str) (cs : Scope) (a : Addr) (ccd : Value) (cl : List (Str × Addr)) (outer : List Env) (A₀ : Around) (base h₀ : Heap) (L : Addr) (m : Str → Option Value) (s : Shared) (Q E : Value → Shared → Prop)
    (rest : List (Addr × Obj)) (src : Addr) (a0 b0 : Int) (ta tb : Tok) (n : Nat),
    Below A₀ base outer h₀ → Fr h₀ L s.heap m → (hd.heap_1 w.params).In h₀ → News h₀ L s.heap ((src, listOf #[.int a0 ta, .int b0 tb] n) :: rest) → Top p loose mean mg mb h₀ → cs.kind = .function →
    (∀ p ∈ rest, p.1 ≠ src) → 0 ≤ a0 → 0 ≤ b0 → b0 < 2147483647 → dp + 30 < 800 → un + 190 < 9000 →
    (∀ (D : Addr) (x0 x1 x2 x3 x4 x5 a1 b1 : Int) (t0 t1 t2 t3 t4 t5 ta tb : Tok) (h' : Heap) (tk' : Nat), Six x0 x1 x2 x3 x4 x5 → 0 ≤ a1 → 0 ≤ b1 → b1 < 2147483647 → Fr h₀ L h' m →
      News h₀ L h' ((D, listOf #[.int x0 t0, .int x1 t1, .int x2 t2, .int x3 t3, .int x4 t4, .int x5 t5] 6) :: (src, listOf #[.int a1 ta, .int b1 tb] n) :: rest) → @Ne Nat src D → LCg.Off1 D rest → Q (.ref D) { s with heap := h', toks := tk' }) →
    wpAny (model PySem.Challenge.rw_on0340_01.row.prog w) (ktrTop dp un gd cn cs L a ccd cl outer) (call (.ref 272) [.ref src]) Q E s := by
  k_fill
  intro w p loose mean mg mb dp un gd cn cs a ccd cl outer A₀ base h₀ L m s Q E rest src a0 b0 ta tb n B F X N T hk hrest ha0 hb0 hb1 hdp hun hret
  refine wpAny_call ?_
  w_strict (k_dflt (refine' code_defC ?k1 ?k2 ?k3 ?k4 ?k5 ?kA ?kF ?kK ?k6 ?k7 ?k8 ?k9 ?kB ?kD ?_ ?c2 ?c3 ?c4; (case kA => exact rfl); (case kF => exact rfl); (case kK => first | exact rfl | assumption); (case k1 => k_asm); (case k2 => k_asm); (case k3 => k_asm); (case k4 => k_asm); (case k5 => k_asm); (case k6 => k_is); (case k7 => k_is); (case k8 => k_room); (case k9 => exact BindsTo.of_eq rfl); (case kB => exact rfl); (case kD => decide +kernel); (case c2 => exact rfl); (case c3 => exact rfl); (case c4 => exact rfl); k_whole; intro g' L' h' tk' cells' FG' F' N' Y' B' X' T' l1; (try k_lt l1); k_cells Y'; (try simp only [List.cons_append, List.nil_append] at N'); (try dsimp only); (try k_lift B'); (try k_fold)))
  k_steps
  show LCg.CompSrc _ _ _ _ _ _ _ _ _ _ _ _ _ _
  refine' nums_src (src := src) (lc := L' + 1) (rest := rest) [2 ^ Int.toNat 32 - 1, 2 ^ Int.toNat 32 - 1, 255, 65535, 255, 255] rfl ?zF ?zN [true, true, true, true, true, true, true, false, false] ?zfix ?zmf ?zhm ?zmc ?zms ?zsz ha0 hb0 hb1 ?zne ?zrows ?zturn ?zdone
  (case zF => k_asm); (case zN => k_asm); (case zfix => dsimp only [maskT, List.cons_append, List.nil_append]); (case zmf => intro q hq; repeat (first | exact hq | apply List.mem_cons_of_mem)); (case zhm => exact List.mem_cons_self); (case zms => walk_at "my mem"); (case zmc => walk_at "my mem")
  (case zsz => first | size_fits | exact Nat.le_of_ble_eq_true rfl | decide)
  case zne =>
    repeat refine forall_cons (by dsimp only; refine neN ?_; exact Nat.ne_of_gt (by simp only [*])) ?_
    exact hrest
  case zrows =>
    intro i v hv
    rcases i with _ | _ | _ | _ | _ | _ | i
    all_goals first
      | (obtain rfl : _ = v := Option.some.inj hv; exact ⟨_, rfl, _, _, _, rfl, by walk_at "my mem", Nat.ne_of_gt (by simp only [*]), rfl, three_bd (by decide +kernel) (by decide +kernel)⟩)
      | exact absurd hv (by simp)
  case zturn =>
    intro fx v hi a1 b1 ta1 tb1 I oI C oC D oD m₂ g h tk E' hfx hrow ha hb hb1' hC hx F' N' nl ns ne
    refine foldP ?_
    intro P9
    obtain ⟨th, vs, k, e91, hm, hts, hl3, hv3⟩ := hrow
    obtain ⟨nl1, nl2, nl3⟩ := nl
    obtain ⟨ns1, ns2, ns3⟩ := ns
    obtain ⟨ne1, ne2, ne3⟩ := ne
    k_unfold
    clear P9
    subst e91
    k_steps
    exact NumEnd.of (by assumption) N' (by assumption) (by assumption) (by assumption) (by assumption) (by assumption)
  case zdone =>
    intro g ys a1 b1 ta1 tb1 hG hl ha hb hb1'
    refine got6 hG hl ?_
    clear hG hl
    intro x0 t0 x1 t1 x2 t2 x3 t3 x4 t4 x5 t5 e9 p0 q0 p1 q1 p2 q2 p3 q3 p4 q4 p5 q5
    subst e9
    k_steps
    refine' num_ret hret ?zzF ?zzN ?zzmD ?zzm3 ?zzmf (six_of p0 q0 p1 q1 p2 q2 p3 q3 p4 q4 p5 q5) ?zza ?zzb ?zzc ?zzn1 ?zzn2
    (case zzN => assumption); (case zzF => assumption)
    (case zzmD => exact .head _); (case zzm3 => walk_at "my memD"); (case zzmf => intro q hq; repeat (first | exact hq | apply List.mem_cons_of_mem))
    (case zzn1 => omega)
    (case zzn2 => simp only [*])
    all_goals assumption
section
variable {w : World} {p : Program} {loose : List Str} {mean : ExcName → Option Value} {mg mb : Str → Option Value} {dp un : Nat} {gd : Option (List Code)} {cn : Str} {cs : Scope} {a : Addr} {ccd : Value} {cl : List (Str × Addr)} {outer : List Env} {A₀ : Around} {base h₀ : Heap} {L : Addr} {m : Str → Option Value} {s : Shared} {Q E : Value → Shared → Prop}
    {news : List (Addr × Obj)} {g : Obj → List (Addr × Obj)} {src : Addr} {a0 b0 : Int} {ta tb : Tok} {n : Nat}
theorem off1_at {D : Addr} : ∀ {l : List (Addr × Obj)}, LCg.Off1 D l → ∀ q ∈ l, @Ne Nat q.1 D
  | [], _, _, h => absurd h List.not_mem_nil
  | _ :: _, h, q, hq => by
    rcases List.mem_cons.mp hq with rfl | hq
    · exact h.1
    · exact off1_at h.2 q hq
theorem off1_of {D : Addr} : ∀ {l : List (Addr × Obj)}, (∀ q ∈ l, @Ne Nat q.1 D) → LCg.Off1 D l
  | [], _ => trivial
  | _ :: _, h => ⟨h _ List.mem_cons_self, off1_of fun q hq => h q (List.mem_cons_of_mem _ hq)⟩
theorem numbers_u (B : Below A₀ base outer h₀) (F : Fr h₀ L s.heap m) (X : (hd.heap_1 w.params).In h₀) (N : News h₀ L s.heap news) (T : Top p loose mean mg mb h₀) (U : UpdF src (listOf #[.int a0 ta, .int b0 tb] n) news g) (hk : cs.kind = .function)
    (ha : 0 ≤ a0) (hb : 0 ≤ b0) (hb1 : b0 < 2147483647) (hd : dp + 30 < 800) (hu : un + 190 < 9000)
    (hret : ∀ (D : Addr) (x0 x1 x2 x3 x4 x5 a1 b1 : Int) (t0 t1 t2 t3 t4 t5 ta tb : Tok) (h' : Heap) (tk' : Nat), Six x0 x1 x2 x3 x4 x5 → 0 ≤ a1 → 0 ≤ b1 → b1 < 2147483647 → Fr h₀ L h' m →
      (let od : Obj := listOf #[.int x0 t0, .int x1 t1, .int x2 t2, .int x3 t3, .int x4 t4, .int x5 t5] 6; let ol : Obj := listOf #[.int a1 ta, .int b1 tb] n; News h₀ L h' ((D, od) :: g ol) → LCg.Off1 D news → Q (.ref D) { s with heap := h', toks := tk' })) :
    wpAny (model PySem.Challenge.rw_on0340_01.row.prog w) (ktrTop dp un gd cn cs L a ccd cl outer) (call (.ref 272) [.ref src]) Q E s := by
  obtain ⟨pre, post, rfl, hg, h1, h2⟩ := U.split
  refine numbers_c w p loose mean mg mb dp un gd cn cs a ccd cl outer A₀ base h₀ L m s Q E (pre ++ post) src a0 b0 ta tb n B F X (fun q hq => N q ?_) T hk (fun q hq => ?_) ha hb hb1 hd hu
    fun D x0 x1 x2 x3 x4 x5 a1 b1 t0 t1 t2 t3 t4 t5 ta tb h' tk' six y0 y1 y2 F' N' n1 n2 => hret D x0 x1 x2 x3 x4 x5 a1 b1 t0 t1 t2 t3 t4 t5 ta tb h' tk' six y0 y1 y2 F' ?_ ?_
  · rcases List.mem_cons.mp hq with rfl | hq
    · simp
    · rcases List.mem_append.mp hq with hq | hq <;> simp [hq]
  · rcases List.mem_append.mp hq with hq | hq
    · exact h1 q hq
    · exact h2 q hq
  · rw [hg]
    intro q hq
    refine N' q ?_
    rcases List.mem_cons.mp hq with rfl | hq
    · simp
    · rcases List.mem_append.mp hq with hq | hq
      · simp [hq]
      · rcases List.mem_cons.mp hq with rfl | hq
        · simp
        · simp [hq]
  · refine off1_of fun q hq => ?_
    rcases List.mem_append.mp hq with hq | hq
    · exact off1_at n2 q (by simp [hq])
    · rcases List.mem_cons.mp hq with rfl | hq
      · exact n1
      · exact off1_at n2 q (by simp [hq])
end
end

section
open PySem PySem.W PyProof.Rows PySem.Spec PySem.Calls
theorem wordsW1x1 : True := by
  k_with_none
  w_top off
  k_with "my k_all" => (with_reducible assumption)
  k_with "exec Raise some none" => ((k_here; (with_reducible show wpAny _ _ (exec (Stmt.Raise (some _) none _) _) _ _ _); k_dflt (refine exec_raise ?qhh0 ?_; (case qhh0 => first | rfl | assumption))))
  k_with "call ref" => ((k_here; (with_reducible show wpAny _ _ (call (Value.ref _) [Value.str _ _]) (fun v s₁ => Rd s₁ v ∧ _) _ _); k_dflt (refine' exc_rd (t := _) ?qhX ?qhhh ?qhhd ?qhhu ?qhhC ?_; (case qhhC => first | exact Or.inl rfl | exact Or.inr rfl); (case qhX => k_in); (case qhhh => first | rfl | assumption); (case qhhd => walk_at "my room"); (case qhhu => walk_at "my room"); k_whole); intro h' e' tk' x'))
  k_with "my room" => (first
  | exact Nat.le_of_ble_eq_true rfl
  | ((try simp only [depth_mark, depth_under_make, depth_under_kw, depth_in1, depth_deeper, units_in1, units_deeper, Around.mark_units, units_caller, ktrTop]); omega))
  k_with "leaving ref" => ((k_here; (with_reducible show wpAny _ _ (leaving _ (Value.ref _)) _ _ _); first
  | (k_dflt (refine' leave_newX ?qhk1 ?qhk0 ?qhk2 ?qhk3 ?qhkf ?qhkk ?_; (case qhk0 => assumption); (case qhk2 => assumption); (case qhk1 => assumption); (case qhk3 => k_asm); (case qhkf => exact rfl); (case qhkk => exact rfl); k_whole); intro h' R' U'; (try dsimp only at R' U' ⊢))
  | (k_dflt (refine' leave_onX ?qhk1 ?qhk2 ?qhk3 ?qhk4 ?qhkf ?_; (case qhk3 => assumption); (case qhk2 => assumption); (case qhk1 => assumption); (case qhk4 => assumption); (case qhkf => exact rfl); k_whole); intro h' R' U'; (try dsimp only at R' U' ⊢))))
  k_with "call ref" => ((k_here; (with_reducible show wpAny _ _ (call (Value.ref 253) _) _ _ _); k_dflt (refine wpAny_call ?_; refine' enterS ?qhk1 ?qhk2 ?qhk3 ?qhk4 ?qhk5 ?qhXB ?qhTB ?qhD ?qhT0 ?qhkA ?qhkf ?qhkK ?qhk6 ?qhk7 ?qhk8 ?qhk9 ?qhkB ?_ ?qhc2 ?qhc3 ?qhc4 ?qhc5; (case qhkA => exact rfl); (case qhkf => exact rfl); (case qhkK => exact rfl); (case qhk1 => k_asm); (case qhk2 => k_asm); (case qhk3 => k_asm); (case qhk4 => k_asm); (case qhk5 => k_asm); (case qhXB => with_reducible assumption); (case qhTB => with_reducible assumption); (case qhD => first | with_reducible assumption | assumption); (case qhT0 => first | assumption | exact KtsTurn.refl); (case qhk6 => k_is); (case qhk7 => k_is); (case qhk8 => ktr_room); (case qhk9 => exact BindsTo.of_eq rfl); (case qhkB => exact locs rfl); (case qhc2 => exact rfl); (case qhc3 => exact rfl); (case qhc4 => exact rfl); (case qhc5 => decide); k_whole; intro g' L' h' FG' F' N' B' X' T' D'; (try dsimp only); (try k_lift B'); (try k_fold))))
  k_with "call ref" => ((k_here; (with_reducible show wpAny _ _ (call (Value.ref 239) _) _ _ _); k_dflt (refine' take_u ?qhk1 ?qhk2 ?qhk3 ?qhk4 ?qhk5 ?qhU ?qhkK ?qha0 ?qhb0 ?qhb1 ?qht0 ?qht1 ?qhkd ?qhku ?_; (case qhk1 => k_asm); (case qhk2 => k_asm); (case qhk3 => k_asm); (case qhk4 => k_asm); (case qhU => k_updF); (case qhk5 => k_asm); (case qhkK => first | exact rfl | assumption); (case qha0 => first | assumption | omega); (case qhb0 => first | assumption | omega); (case qhb1 => first | assumption | omega); (case qht0 => omega); (case qht1 => omega); (case qhkd => ktr_room); (case qhku => walk_at "my units"); k_whole); intro v' a' b' t' ta' tb' h' tk' hv0 hv1 ha' hb' hb1' F' ol' N'; (try dsimp only at N'); (try k_sweep)))
  k_with "my units" => (first | exact Nat.lt_of_succ_le (Nat.le_of_ble_eq_true rfl) | ((try simp only [cLine, units_in1, units_deeper, Around.mark_units, units_caller, ktrTop]); omega) | ktr_units)
  k_with "my enterC0" => ((refine' enterC0 ?qhk1 ?qhk2 ?qhk3 ?qhk4 ?qhk5 ?qhkA ?qhkf ?qhkK ?qhk6 ?qhk7 ?qhk8 ?qhk9 ?qhkB ?qhkD ?_ ?qhc2 ?qhc3 ?qhc4; (case qhkA => exact rfl); (case qhkf => exact rfl); (case qhkK => first | exact rfl | assumption); (case qhk1 => k_asm); (case qhk2 => k_asm); (case qhk3 => k_asm); (case qhk4 => k_asm); (case qhk5 => k_asm); (case qhk6 => k_is); (case qhk7 => k_is); (case qhk8 => ktr_room); (case qhk9 => exact BindsTo.of_eq rfl); (case qhkB => exact rfl); (case qhkD => decide +kernel); (case qhc2 => exact rfl); (case qhc3 => exact rfl); (case qhc4 => exact rfl); k_whole; intro g' L' h' tk' cells' FG' F' N' Y' B' X' T' D' l1; (try k_lt l1); k_cells Y'; (try simp only [List.cons_append, List.nil_append] at N'); (try dsimp only); (try k_lift B'); (try k_fold)))
  k_with "my k_room" => (ktr_room)
  k_with "callWith ref" => ((k_here; k_dflt (refine' callWith_K ?qhk1 ?qhk2 ?_; (case qhk1 => k_asm); (case qhk2 => k_is); k_whole)))
  k_with "my mem" => (first | with_reducible apply List.mem_cons_self | (with_reducible apply List.mem_cons_of_mem; walk_at "my mem"))
  k_with "my memD" => (first | apply List.mem_cons_self | (with_reducible apply List.mem_cons_of_mem; walk_at "my memD"))
  k_with "my all" => (first | with_reducible assumption | with_reducible apply List.forall_mem_nil | (with_reducible apply forall_cons; (k_ne); (walk_at "my all")))
  k_with "call type:bytes" => ((k_here; (with_reducible show wpAny _ _ (call (Value.type "bytes") [Value.bytes _ _]) _ _ _); k_dflt (refine call_bytes_bytes ?_)))
  k_with "call type:bytes" => ((k_here; (with_reducible show wpAny _ _ (call (Value.type "bytes") [Value.int _ _]) _ _ _); k_dflt (refine' call_bytes_int ?qhh0 ?qhh1 ?_; (case qhh0 => omega); (case qhh1 => omega); k_whole); intro _ _ _ _ hz' hzl' hzr'))
  k_with "my fold" => (((fail_if_success (with_reducible show wpAny _ _ _ qk _ _)); first | ((with_reducible show wpAny _ _ _ _ ek _); refine fold_q ?_; k_dflt (intro qk)) | (refine fold_wp ?_; k_dflt (intro qk ek))))
  k_with "exec Assign" => (k_fold)
  k_with "exec If" => (k_fold)
  k_with "exec Return some" => (k_fold)
  k_with "eval Call" => (k_fold)
  k_with "my tail" => ((intro _ hq'; repeat (first | with_reducible exact hq' | with_reducible apply List.mem_cons_of_mem)))
  k_with "my off" => (first | with_reducible assumption | with_reducible apply List.forall_mem_nil | (with_reducible apply forall_cons; (k_ne); (walk_at "my off")) | exact allOf (by assumption) (by walk_at "my tail"))
  k_with "my cut" => (first | with_reducible exact Cut.head | (with_reducible apply Cut.tail; walk_at "my cut"))
  k_with "SeqSrc" => ((k_dflt (refine' SeqSrc.of ?qhF ?qhN ?qhhm ?_; (case qhF => k_asm); (case qhN => k_asm); (case qhhm => k_mem); k_whole); intro I' l1; have l9' := l1; (try first | walk_at "my ltall" | k_lt l1)))
  k_with "SeqRest" => ((k_dflt (first | (refine SeqRest.cons ?_; intro it' h' tk' hc' F' N') | (refine SeqRest.nil ?_; intro h' tk' F' N')); (try k_sweep)))
  k_with "SeqPost" => (dsimp only [SeqPost])
  k_with "SeqEnd" => ((k_dflt (refine' SeqEnd.cut ?qhF ?qhN ?qhc ?qhhm ?qhoff ?_; (case qhF => k_asm); (case qhN => k_asm); (case qhc => walk_at "my cut"); (case qhhm => k_mem); (case qhoff => walk_at "my off"); k_whole)))
  k_with "exec For Name Tuple cons nil" => ((k_here; (with_reducible show wpAny _ _ (exec (Stmt.For _ _ _ [] _) _) _ _ _); k_dflt (refine for_tupS (by passes_own) (fun _ => rfl) rfl ?_)))
  k_with "exec For Name List cons nil" => ((k_here; (with_reducible show wpAny _ _ (exec (Stmt.For _ _ _ [] _) _) _ _ _); k_dflt (refine for_listS (by passes_own) (fun _ => rfl) rfl ?_)))
  trivial
theorem within_ret {Q : Value → Shared → Prop} {h₀ : Heap} {L : Addr} {m : Str → Option Value} {s : Shared} {news : List (Addr × Obj)} {x B : Int} {b1 : Bool}
    (hret : ∀ (h' : Heap) (tk' : Nat), Fr h₀ L h' m → News h₀ L h' news → (0 ≤ x ∧ x < B → Q (.bool true) { s with heap := h', toks := tk' }) ∧ (¬ (0 ≤ x ∧ x < B) → Q (.bool false) { s with heap := h', toks := tk' }))
    {h' : Heap} {tk' : Nat} (F : Fr h₀ L h' m) (N : News h₀ L h' news) (e : b1 = decide (0 ≤ x ∧ x < B)) : Q (.bool b1) { s with heap := h', toks := tk' } := by
  subst e
  by_cases h : 0 ≤ x ∧ x < B
  · rw [decide_eq_true h]; exact (hret h' tk' F N).1 h
  · rw [decide_eq_false h]; exact (hret h' tk' F N).2 h
theorem dec_two {P R : Prop} [Decidable P] [Decidable R] (h : P) : decide R = decide (P ∧ R) := by simp [h]
theorem dec_one {P R : Prop} [Decidable P] [Decidable R] (h : ¬ P) : decide P = decide (P ∧ R) := by simp [h]
/-- is_within: what it tells of a number -/
theorem within_c : ∀ (w : World) (p : Program) (loose : List Str) (mean : ExcName → Option Value) (mg mb : Str → Option Value) (dp un : Nat) (gd : Option (List Code)) (cn : Str) (cs : Scope) (a : Addr) (ccd : Value) (cl : List (Str × Addr)) (outer : List Env) (A₀ : Around) (base h₀ : Heap) (L : Addr) (m : Str → Option Value) (s : Shared) (Q E : Value → Shared → Prop)
    (news : List (Addr × Obj)) (x b : Int) (tx tb : Tok),
    Below A₀ base outer h₀ → Fr h₀ L s.heap m → (hd.heap_1 w.params).In h₀ → News h₀ L s.heap news → Top p loose mean mg mb h₀ → cs.kind = .function →
    dp + 10 < 800 → un + 40 < 9000 → 0 ≤ b → b ≤ 64 →
    (∀ (h' : Heap) (tk' : Nat), Fr h₀ L h' m → News h₀ L h' news → (0 ≤ x ∧ x < 2 ^ b.toNat → Q (.bool true) { s with heap := h', toks := tk' }) ∧ (¬ (0 ≤ x ∧ x < 2 ^ b.toNat) → Q (.bool false) { s with heap := h', toks := tk' })) →
    wpAny (model PySem.Challenge.rw_on0340_01.row.prog w) (ktrTop dp un gd cn cs L a ccd cl outer) (call (.ref 129) [.int x tx, .int b tb]) Q E s := by
  k_fill
  intro w p loose mean mg mb dp un gd cn cs a ccd cl outer A₀ base h₀ L m s Q E news x b tx tb B F X N T hk hdp hun hb0 hb1 hret
  refine wpAny_call ?_
  k_dflt cell_enter
  k_steps
  all_goals (
    refine' within_ret hret ?zzF ?zzN ?zze
    (case zzF => assumption); (case zzN => assumption); (case zze => first | exact dec_two (by assumption) | exact dec_one (by assumption)))
section
variable {w : World} {p : Program} {loose : List Str} {mean : ExcName → Option Value} {mg mb : Str → Option Value} {dp un : Nat} {gd : Option (List Code)} {cn : Str} {cs : Scope} {a : Addr} {ccd : Value} {cl : List (Str × Addr)} {outer : List Env} {A₀ : Around} {base h₀ : Heap} {L : Addr} {m : Str → Option Value} {s : Shared} {Q E : Value → Shared → Prop}
    {news : List (Addr × Obj)} {x b : Int} {tx tb : Tok}
theorem within_u (B : Below A₀ base outer h₀) (F : Fr h₀ L s.heap m) (X : (hd.heap_1 w.params).In h₀) (N : News h₀ L s.heap news) (T : Top p loose mean mg mb h₀) (hk : cs.kind = .function)
    (hd : dp + 10 < 800) (hu : un + 40 < 9000) (hb0 : 0 ≤ b) (hb1 : b ≤ 64)
    (hret : ∀ (h' : Heap) (tk' : Nat), Fr h₀ L h' m → News h₀ L h' news → (0 ≤ x ∧ x < 2 ^ b.toNat → Q (.bool true) { s with heap := h', toks := tk' }) ∧ (¬ (0 ≤ x ∧ x < 2 ^ b.toNat) → Q (.bool false) { s with heap := h', toks := tk' })) :
    wpAny (model PySem.Challenge.rw_on0340_01.row.prog w) (ktrTop dp un gd cn cs L a ccd cl outer) (call (.ref 129) [.int x tx, .int b tb]) Q E s :=
  within_c w p loose mean mg mb dp un gd cn cs a ccd cl outer A₀ base h₀ L m s Q E news x b tx tb B F X N T hk hd hu hb0 hb1 hret
end
end

section
open PySem PySem.W PyProof.Rows PySem.Spec PySem.Calls
theorem wordsCkx1 : True := by
  k_with_none
  w_top off
  k_with "my k_all" => (with_reducible assumption)
  k_with "exec Raise some none" => ((k_here; (with_reducible show wpAny _ _ (exec (Stmt.Raise (some _) none _) _) _ _ _); k_dflt (refine exec_raise ?qhh0 ?_; (case qhh0 => first | rfl | assumption))))
  k_with "call ref" => ((k_here; (with_reducible show wpAny _ _ (call (Value.ref _) [Value.str _ _]) (fun v s₁ => Rd s₁ v ∧ _) _ _); k_dflt (refine' exc_rd (t := _) ?qhX ?qhhh ?qhhd ?qhhu ?qhhC ?_; (case qhhC => first | exact Or.inl rfl | exact Or.inr rfl); (case qhX => k_in); (case qhhh => first | rfl | assumption); (case qhhd => walk_at "my room"); (case qhhu => walk_at "my room"); k_whole); intro h' e' tk' x'))
  k_with "my room" => (first
  | exact Nat.le_of_ble_eq_true rfl
  | ((try simp only [depth_mark, depth_under_make, depth_under_kw, depth_in1, depth_deeper, units_in1, units_deeper, Around.mark_units, units_caller, ktrTop]); omega))
  k_with "leaving ref" => ((k_here; (with_reducible show wpAny _ _ (leaving _ (Value.ref _)) _ _ _); first
  | (k_dflt (refine' leave_newX ?qhk1 ?qhk0 ?qhk2 ?qhk3 ?qhkf ?qhkk ?_; (case qhk0 => assumption); (case qhk2 => assumption); (case qhk1 => assumption); (case qhk3 => k_asm); (case qhkf => exact rfl); (case qhkk => exact rfl); k_whole); intro h' R' U'; (try dsimp only at R' U' ⊢))
  | (k_dflt (refine' leave_onX ?qhk1 ?qhk2 ?qhk3 ?qhk4 ?qhkf ?_; (case qhk3 => assumption); (case qhk2 => assumption); (case qhk1 => assumption); (case qhk4 => assumption); (case qhkf => exact rfl); k_whole); intro h' R' U'; (try dsimp only at R' U' ⊢))))
  k_with "call ref" => ((k_here; (with_reducible show wpAny _ _ (call (Value.ref 253) _) _ _ _); k_dflt (refine wpAny_call ?_; refine' enterS ?qhk1 ?qhk2 ?qhk3 ?qhk4 ?qhk5 ?qhXB ?qhTB ?qhD ?qhT0 ?qhkA ?qhkf ?qhkK ?qhk6 ?qhk7 ?qhk8 ?qhk9 ?qhkB ?_ ?qhc2 ?qhc3 ?qhc4 ?qhc5; (case qhkA => exact rfl); (case qhkf => exact rfl); (case qhkK => exact rfl); (case qhk1 => k_asm); (case qhk2 => k_asm); (case qhk3 => k_asm); (case qhk4 => k_asm); (case qhk5 => k_asm); (case qhXB => with_reducible assumption); (case qhTB => with_reducible assumption); (case qhD => first | with_reducible assumption | assumption); (case qhT0 => first | assumption | exact KtsTurn.refl); (case qhk6 => k_is); (case qhk7 => k_is); (case qhk8 => ktr_room); (case qhk9 => exact BindsTo.of_eq rfl); (case qhkB => exact locs rfl); (case qhc2 => exact rfl); (case qhc3 => exact rfl); (case qhc4 => exact rfl); (case qhc5 => decide); k_whole; intro g' L' h' FG' F' N' B' X' T' D'; (try dsimp only); (try k_lift B'); (try k_fold))))
  k_with "call ref" => ((k_here; (with_reducible show wpAny _ _ (call (Value.ref 239) _) _ _ _); k_dflt (refine' take_u ?qhk1 ?qhk2 ?qhk3 ?qhk4 ?qhk5 ?qhU ?qhkK ?qha0 ?qhb0 ?qhb1 ?qht0 ?qht1 ?qhkd ?qhku ?_; (case qhk1 => k_asm); (case qhk2 => k_asm); (case qhk3 => k_asm); (case qhk4 => k_asm); (case qhU => k_updF); (case qhk5 => k_asm); (case qhkK => first | exact rfl | assumption); (case qha0 => first | assumption | omega); (case qhb0 => first | assumption | omega); (case qhb1 => first | assumption | omega); (case qht0 => omega); (case qht1 => omega); (case qhkd => ktr_room); (case qhku => walk_at "my units"); k_whole); intro v' a' b' t' ta' tb' h' tk' hv0 hv1 ha' hb' hb1' F' ol' N'; (try dsimp only at N'); (try k_sweep)))
  k_with "my units" => (first | exact Nat.lt_of_succ_le (Nat.le_of_ble_eq_true rfl) | ((try simp only [cLine, units_in1, units_deeper, Around.mark_units, units_caller, ktrTop]); omega) | ktr_units)
  k_with "my enterC0" => ((refine' enterC0 ?qhk1 ?qhk2 ?qhk3 ?qhk4 ?qhk5 ?qhkA ?qhkf ?qhkK ?qhk6 ?qhk7 ?qhk8 ?qhk9 ?qhkB ?qhkD ?_ ?qhc2 ?qhc3 ?qhc4; (case qhkA => exact rfl); (case qhkf => exact rfl); (case qhkK => first | exact rfl | assumption); (case qhk1 => k_asm); (case qhk2 => k_asm); (case qhk3 => k_asm); (case qhk4 => k_asm); (case qhk5 => k_asm); (case qhk6 => k_is); (case qhk7 => k_is); (case qhk8 => ktr_room); (case qhk9 => exact BindsTo.of_eq rfl); (case qhkB => exact rfl); (case qhkD => decide +kernel); (case qhc2 => exact rfl); (case qhc3 => exact rfl); (case qhc4 => exact rfl); k_whole; intro g' L' h' tk' cells' FG' F' N' Y' B' X' T' D' l1; (try k_lt l1); k_cells Y'; (try simp only [List.cons_append, List.nil_append] at N'); (try dsimp only); (try k_lift B'); (try k_fold)))
  k_with "my k_room" => (ktr_room)
  k_with "callWith ref" => ((k_here; k_dflt (refine' callWith_K ?qhk1 ?qhk2 ?_; (case qhk1 => k_asm); (case qhk2 => k_is); k_whole)))
  k_with "my mem" => (first | with_reducible apply List.mem_cons_self | (with_reducible apply List.mem_cons_of_mem; walk_at "my mem"))
  k_with "my memD" => (first | apply List.mem_cons_self | (with_reducible apply List.mem_cons_of_mem; walk_at "my memD"))
  k_with "my all" => (first | with_reducible assumption | with_reducible apply List.forall_mem_nil | (with_reducible apply forall_cons; (k_ne); (walk_at "my all")))
  k_with "call type:bytes" => ((k_here; (with_reducible show wpAny _ _ (call (Value.type "bytes") [Value.bytes _ _]) _ _ _); k_dflt (refine call_bytes_bytes ?_)))
  k_with "call type:bytes" => ((k_here; (with_reducible show wpAny _ _ (call (Value.type "bytes") [Value.int _ _]) _ _ _); k_dflt (refine' call_bytes_int ?qhh0 ?qhh1 ?_; (case qhh0 => omega); (case qhh1 => omega); k_whole); intro _ _ _ _ hz' hzl' hzr'))
  k_with "my fold" => (((fail_if_success (with_reducible show wpAny _ _ _ qk _ _)); first | ((with_reducible show wpAny _ _ _ _ ek _); refine fold_q ?_; k_dflt (intro qk)) | (refine fold_wp ?_; k_dflt (intro qk ek))))
  k_with "exec Assign" => (k_fold)
  k_with "exec If" => (k_fold)
  k_with "exec Return some" => (k_fold)
  k_with "eval Call" => (k_fold)
  k_with "my tail" => ((intro _ hq'; repeat (first | with_reducible exact hq' | with_reducible apply List.mem_cons_of_mem)))
  k_with "my off" => (first | with_reducible assumption | with_reducible apply List.forall_mem_nil | (with_reducible apply forall_cons; (k_ne); (walk_at "my off")) | exact allOf (by assumption) (by walk_at "my tail"))
  k_with "my cut" => (first | with_reducible exact Cut.head | (with_reducible apply Cut.tail; walk_at "my cut"))
  k_with "SeqSrc" => ((k_dflt (refine' SeqSrc.of ?qhF ?qhN ?qhhm ?_; (case qhF => k_asm); (case qhN => k_asm); (case qhhm => k_mem); k_whole); intro I' l1; have l9' := l1; (try first | walk_at "my ltall" | k_lt l1)))
  k_with "SeqRest" => ((k_dflt (first | (refine SeqRest.cons ?_; intro it' h' tk' hc' F' N') | (refine SeqRest.nil ?_; intro h' tk' F' N')); (try k_sweep)))
  k_with "SeqPost" => (dsimp only [SeqPost])
  k_with "SeqEnd" => ((k_dflt (refine' SeqEnd.cut ?qhF ?qhN ?qhc ?qhhm ?qhoff ?_; (case qhF => k_asm); (case qhN => k_asm); (case qhc => walk_at "my cut"); (case qhhm => k_mem); (case qhoff => walk_at "my off"); k_whole)))
  k_with "exec For Name Tuple cons nil" => ((k_here; (with_reducible show wpAny _ _ (exec (Stmt.For _ _ _ [] _) _) _ _ _); k_dflt (refine for_tupS (by passes_own) (fun _ => rfl) rfl ?_)))
  k_with "exec For Name List cons nil" => ((k_here; (with_reducible show wpAny _ _ (exec (Stmt.For _ _ _ [] _) _) _ _ _); k_dflt (refine for_listS (by passes_own) (fun _ => rfl) rfl ?_)))
  k_with "call ref" => ((k_here; (with_reducible show wpAny _ _ (call (Value.ref 129) _) _ _ _); k_dflt ((refine' within_u ?qhk1 ?qhk2 ?qhk3 ?qhk4 ?qhk5 ?qhkK ?qhkd ?qhku ?qhb0 ?qhb1 ?_; (case qhk1 => k_asm); (case qhk2 => k_asm); (case qhk3 => k_asm); (case qhk4 => k_asm); (case qhk5 => k_asm); (case qhkK => first | exact rfl | assumption); (case qhkd => walk_at "my room"); (case qhku => walk_at "my room"); (case qhb0 => first | decide | omega); (case qhb1 => first | decide | omega); k_whole)); intro h' tk' F' N'; (try k_sweep); refine ⟨fun hw' => ?_, fun hw' => ?_⟩))
  trivial
abbrev headDict (w : World) (k0 k1 k2 k3 k4 k5 k6 k7 k8 k9 : Tok) (v0 v1 v2 v3 v4 v5 v6 v7 v8 v9 : Value) (n : Nat) : Obj :=
  dictOf [{ hash := PyData.keyHash w.params (Str.ofString "source"), key := .str (Str.ofString "source") k0, val := v0 }, { hash := PyData.keyHash w.params (Str.ofString "target"), key := .str (Str.ofString "target") k1, val := v1 },
    { hash := PyData.keyHash w.params (Str.ofString "protocol"), key := .str (Str.ofString "protocol") k2, val := v2 }, { hash := PyData.keyHash w.params (Str.ofString "ident"), key := .str (Str.ofString "ident") k3, val := v3 },
    { hash := PyData.keyHash w.params (Str.ofString "ttl"), key := .str (Str.ofString "ttl") k4, val := v4 }, { hash := PyData.keyHash w.params (Str.ofString "tos"), key := .str (Str.ofString "tos") k5, val := v5 },
    { hash := PyData.keyHash w.params (Str.ofString "dont"), key := .str (Str.ofString "dont") k6, val := v6 }, { hash := PyData.keyHash w.params (Str.ofString "more"), key := .str (Str.ofString "more") k7, val := v7 },
    { hash := PyData.keyHash w.params (Str.ofString "offset"), key := .str (Str.ofString "offset") k8, val := v8 }, { hash := PyData.keyHash w.params (Str.ofString "options"), key := .str (Str.ofString "options") k9, val := v9 }] n
def Far (f : Int) : Prop := f.fmod 8 = 0 ∧ 0 ≤ f.fdiv 8 ∧ f.fdiv 8 < 8192
theorem raised_sub {base G h : Heap} {l : List Env} {e : Addr} {cls : Value} {news all : List (Addr × Obj)} (R : RaisedSN base G l e cls all h) (sub : ∀ q ∈ news, q ∈ all) : RaisedSN base G l e cls news h := by
  obtain ⟨B, a0, hB, hG, hl, hfl⟩ := R
  exact ⟨B, a0, hB, hG, fun q hq => hl q (sub q hq), hfl⟩
theorem ck_bad {P : Prop} {base h₀ : Heap} {L : Addr} {m : Str → Option Value} {fr : List Env} {cls : Value} {s : Shared} {E : Value → Shared → Prop} {news : List (Addr × Obj)}
    (hbad : ¬ P → ∀ (g' h' : Heap) (e : Addr) (tk' : Nat), Fr h₀ L g' m → RaisedSN base g' fr e cls news h' → g'.UpToSlots h' → E (.ref e) { s with heap := h', toks := tk' })
    {g' h' : Heap} {e : Addr} {tk' : Nat} {all : List (Addr × Obj)} (F : Fr h₀ L g' m) (R : RaisedSN base g' fr e cls all h') (U : g'.UpToSlots h') (sub : ∀ q ∈ news, q ∈ all) (c : ¬ P) : E (.ref e) { s with heap := h', toks := tk' } :=
  hbad c g' h' e tk' F (raised_sub R sub) U
theorem ck_good {P : Prop} {h₀ : Heap} {L : Addr} {m : Str → Option Value} {s : Shared} {Q : Value → Shared → Prop} {v : Value} {news : List (Addr × Obj)}
    (hgood : P → ∀ (h' : Heap) (tk' : Nat), Fr h₀ L h' m → News h₀ L h' news → Q v { s with heap := h', toks := tk' })
    {h' : Heap} {tk' : Nat} {all : List (Addr × Obj)} (F : Fr h₀ L h' m) (N : News h₀ L h' all) (sub : ∀ q ∈ news, q ∈ all) (c : P) : Q v { s with heap := h', toks := tk' } :=
  hgood c h' tk' F fun q hq => N q (sub q hq)
theorem p32 : (2 : Int) ^ Int.toNat 32 = 4294967296 := by decide +kernel
theorem p16 : (2 : Int) ^ Int.toNat 16 = 65536 := by decide +kernel
theorem p8 : (2 : Int) ^ Int.toNat 8 = 256 := by decide +kernel
theorem p13 : (2 : Int) ^ Int.toNat 13 = 8192 := by decide +kernel
theorem check_c : ∀ (w : World) (p : Program) (loose : List Str) (mean : ExcName → Option Value) (mg mb : Str → Option Value) (dp un : Nat) (gd : Option (List Code)) (cn : Str) (cs : Scope) (a : Addr) (ccd : Value) (cl : List (Str × Addr)) (outer : List Env) (A₀ : Around) (base h₀ : Heap) (L : Addr) (m : Str → Option Value) (s : Shared) (Q E : Value → Shared → Prop)
    (rest : List (Addr × Obj)) (hx hx2 : Addr) (k0 k1 k2 k3 k4 k5 k6 k7 k8 k9 u0 u1 u2 u3 u4 u5 u6 : Tok) (x0 x1 x2 x3 x4 x5 f : Int) (b6 b7 : Bool) (v9 : Value) (n : Nat),
    Below A₀ base outer h₀ → Fr h₀ L s.heap m → (hd.heap_1 w.params).In h₀ → (hd.heap_1 w.params).In base → Top p loose mean mg mb base → News h₀ L s.heap ((hx, instObj 118 hx2) :: (hx2, headDict w k0 k1 k2 k3 k4 k5 k6 k7 k8 k9 (.int x0 u0) (.int x1 u1) (.int x2 u2) (.int x3 u3) (.int x4 u4) (.int x5 u5) (.bool b6) (.bool b7) (.int f u6) v9 n) :: rest) → Top p loose mean mg mb h₀ → cs.kind = .function →
    dp + 20 < 800 → un + 90 < 9000 →
    (Six x0 x1 x2 x3 x4 x5 ∧ Far f → ∀ (h' : Heap) (tk' : Nat), Fr h₀ L h' m → News h₀ L h' ((hx, instObj 118 hx2) :: (hx2, headDict w k0 k1 k2 k3 k4 k5 k6 k7 k8 k9 (.int x0 u0) (.int x1 u1) (.int x2 u2) (.int x3 u3) (.int x4 u4) (.int x5 u5) (.bool b6) (.bool b7) (.int f u6) v9 n) :: rest) → Q .none { s with heap := h', toks := tk' }) →
    (¬ (Six x0 x1 x2 x3 x4 x5 ∧ Far f) → ∀ (g' h' : Heap) (e : Addr) (tk' : Nat), Fr h₀ L g' m → RaisedSN base g' (envX cn cs L a ccd cl :: outer) e (.ref 51) ((hx, instObj 118 hx2) :: (hx2, headDict w k0 k1 k2 k3 k4 k5 k6 k7 k8 k9 (.int x0 u0) (.int x1 u1) (.int x2 u2) (.int x3 u3) (.int x4 u4) (.int x5 u5) (.bool b6) (.bool b7) (.int f u6) v9 n) :: rest) h' → g'.UpToSlots h' → E (.ref e) { s with heap := h', toks := tk' }) →
    wpAny (model PySem.Challenge.rw_on0340_01.row.prog w) (ktrTop dp un gd cn cs L a ccd cl outer) (call (.ref 136) [.ref hx]) Q E s := by
  k_fill
  intro w p loose mean mg mb dp un gd cn cs a ccd cl outer A₀ base h₀ L m s Q E rest hx hx2 k0 k1 k2 k3 k4 k5 k6 k7 k8 k9 u0 u1 u2 u3 u4 u5 u6 x0 x1 x2 x3 x4 x5 f b6 b7 v9 n B F X XB TB N T hk hdp hun hgood hbad
  refine wpAny_call ?_
  k_dflt cell_enter
  k_steps
  all_goals first
    | (refine' ck_bad hbad ?F ?R ?U ?sub ?c; (case R => assumption); (case F => assumption); (case U => assumption); (case sub => walk_at "my tail"); (case c =>
        intro hc; obtain ⟨⟨⟨c1, c2⟩, ⟨c3, c4⟩, ⟨c5, c6⟩, ⟨c7, c8⟩, ⟨c9, c10⟩, c11, c12⟩, c13, c14, c15⟩ := hc; simp only [p32, p16, p8, p13] at *; omega))
    | (refine' ck_good hgood ?F ?N ?sub ?c; (case F => assumption); (case N => assumption); (case sub => walk_at "my tail"); (case c =>
        simp only [p32, p16, p8, p13] at *; exact ⟨⟨⟨by omega, by omega⟩, ⟨by omega, by omega⟩, ⟨by omega, by omega⟩, ⟨by omega, by omega⟩, ⟨by omega, by omega⟩, by omega, by omega⟩, by omega, by omega, by omega⟩))
section
variable {w : World} {p : Program} {loose : List Str} {mean : ExcName → Option Value} {mg mb : Str → Option Value} {dp un : Nat} {gd : Option (List Code)} {cn : Str} {cs : Scope} {a : Addr} {ccd : Value} {cl : List (Str × Addr)} {outer : List Env} {A₀ : Around} {base h₀ : Heap} {L : Addr} {m : Str → Option Value} {s : Shared} {Q E : Value → Shared → Prop}
    {news : List (Addr × Obj)} {hx hx2 : Addr} {k0 k1 k2 k3 k4 k5 k6 k7 k8 k9 u0 u1 u2 u3 u4 u5 u6 : Tok} {x0 x1 x2 x3 x4 x5 f : Int} {b6 b7 : Bool} {v9 : Value} {n : Nat}
theorem check_u (B : Below A₀ base outer h₀) (F : Fr h₀ L s.heap m) (X : (hd.heap_1 w.params).In h₀) (XB : (hd.heap_1 w.params).In base) (TB : Top p loose mean mg mb base) (N : News h₀ L s.heap news) (T : Top p loose mean mg mb h₀)
    (m1 : (hx, instObj 118 hx2) ∈ news) (m2 : (hx2, headDict w k0 k1 k2 k3 k4 k5 k6 k7 k8 k9 (.int x0 u0) (.int x1 u1) (.int x2 u2) (.int x3 u3) (.int x4 u4) (.int x5 u5) (.bool b6) (.bool b7) (.int f u6) v9 n) ∈ news) (hk : cs.kind = .function)
    (hd : dp + 20 < 800) (hu : un + 90 < 9000)
    (hgood : Six x0 x1 x2 x3 x4 x5 ∧ Far f → ∀ (h' : Heap) (tk' : Nat), Fr h₀ L h' m → News h₀ L h' news → Q .none { s with heap := h', toks := tk' })
    (hbad : ¬ (Six x0 x1 x2 x3 x4 x5 ∧ Far f) → ∀ (g' h' : Heap) (e : Addr) (tk' : Nat), Fr h₀ L g' m → RaisedSN base g' (envX cn cs L a ccd cl :: outer) e (.ref 51) news h' → g'.UpToSlots h' → E (.ref e) { s with heap := h', toks := tk' }) :
    wpAny (model PySem.Challenge.rw_on0340_01.row.prog w) (ktrTop dp un gd cn cs L a ccd cl outer) (call (.ref 136) [.ref hx]) Q E s :=
  check_c w p loose mean mg mb dp un gd cn cs a ccd cl outer A₀ base h₀ L m s Q E news hx hx2 k0 k1 k2 k3 k4 k5 k6 k7 k8 k9 u0 u1 u2 u3 u4 u5 u6 x0 x1 x2 x3 x4 x5 f b6 b7 v9 n B F X XB TB (List.forall_mem_cons.mpr ⟨N _ m1, List.forall_mem_cons.mpr ⟨N _ m2, N⟩⟩) T hk hd hu
    (fun hG h' tk' F' N' => hgood hG h' tk' F' fun q hq => N' q (List.mem_cons_of_mem _ (List.mem_cons_of_mem _ hq)))
    (fun hG g' h' e tk' F' R' U' => hbad hG g' h' e tk' F' (raised_sub R' fun q hq => List.mem_cons_of_mem _ (List.mem_cons_of_mem _ hq)) U')
end
theorem far_of {x : Int} (h0 : 0 ≤ x) (h1 : x ≤ 8191) : Far (8 * x) := by
  refine ⟨?_, ?_, ?_⟩
  · rw [Int.fmod_eq_emod_of_nonneg _ (by decide : (0 : Int) ≤ 8)]; omega
  · rw [Int.fdiv_eq_ediv_of_nonneg _ (by decide : (0 : Int) ≤ 8)]; omega
  · rw [Int.fdiv_eq_ediv_of_nonneg _ (by decide : (0 : Int) ≤ 8)]; omega
end

section
open PySem PySem.W PyProof.Rows PySem.Spec PySem.Calls
theorem wordsM1x1 : True := by
  k_with_none
  w_top off
  k_with "my k_all" => (with_reducible assumption)
  k_with "exec Raise some none" => ((k_here; (with_reducible show wpAny _ _ (exec (Stmt.Raise (some _) none _) _) _ _ _); k_dflt (refine exec_raise ?qhh0 ?_; (case qhh0 => first | rfl | assumption))))
  k_with "call ref" => ((k_here; (with_reducible show wpAny _ _ (call (Value.ref _) [Value.str _ _]) (fun v s₁ => Rd s₁ v ∧ _) _ _); k_dflt (refine' exc_rd (t := _) ?qhX ?qhhh ?qhhd ?qhhu ?qhhC ?_; (case qhhC => first | exact Or.inl rfl | exact Or.inr rfl); (case qhX => k_in); (case qhhh => first | rfl | assumption); (case qhhd => walk_at "my room"); (case qhhu => walk_at "my room"); k_whole); intro h' e' tk' x'))
  k_with "my room" => (first
  | exact Nat.le_of_ble_eq_true rfl
  | ((try simp only [depth_mark, depth_under_make, depth_under_kw, depth_in1, depth_deeper, units_in1, units_deeper, Around.mark_units, units_caller, ktrTop]); omega))
  k_with "leaving ref" => ((k_here; (with_reducible show wpAny _ _ (leaving _ (Value.ref _)) _ _ _); first
  | (k_dflt (refine' leave_newX ?qhk1 ?qhk0 ?qhk2 ?qhk3 ?qhkf ?qhkk ?_; (case qhk0 => assumption); (case qhk2 => assumption); (case qhk1 => assumption); (case qhk3 => k_asm); (case qhkf => exact rfl); (case qhkk => exact rfl); k_whole); intro h' R' U'; (try dsimp only at R' U' ⊢))
  | (k_dflt (refine' leave_onX ?qhk1 ?qhk2 ?qhk3 ?qhk4 ?qhkf ?_; (case qhk3 => assumption); (case qhk2 => assumption); (case qhk1 => assumption); (case qhk4 => assumption); (case qhkf => exact rfl); k_whole); intro h' R' U'; (try dsimp only at R' U' ⊢))))
  k_with "call ref" => ((k_here; (with_reducible show wpAny _ _ (call (Value.ref 253) _) _ _ _); k_dflt (refine wpAny_call ?_; refine' enterS ?qhk1 ?qhk2 ?qhk3 ?qhk4 ?qhk5 ?qhXB ?qhTB ?qhD ?qhT0 ?qhkA ?qhkf ?qhkK ?qhk6 ?qhk7 ?qhk8 ?qhk9 ?qhkB ?_ ?qhc2 ?qhc3 ?qhc4 ?qhc5; (case qhkA => exact rfl); (case qhkf => exact rfl); (case qhkK => exact rfl); (case qhk1 => k_asm); (case qhk2 => k_asm); (case qhk3 => k_asm); (case qhk4 => k_asm); (case qhk5 => k_asm); (case qhXB => with_reducible assumption); (case qhTB => with_reducible assumption); (case qhD => first | with_reducible assumption | assumption); (case qhT0 => first | assumption | exact KtsTurn.refl); (case qhk6 => k_is); (case qhk7 => k_is); (case qhk8 => ktr_room); (case qhk9 => exact BindsTo.of_eq rfl); (case qhkB => exact locs rfl); (case qhc2 => exact rfl); (case qhc3 => exact rfl); (case qhc4 => exact rfl); (case qhc5 => decide); k_whole; intro g' L' h' FG' F' N' B' X' T' D'; (try dsimp only); (try k_lift B'); (try k_fold))))
  k_with "call ref" => ((k_here; (with_reducible show wpAny _ _ (call (Value.ref 239) _) _ _ _); k_dflt (refine' take_u ?qhk1 ?qhk2 ?qhk3 ?qhk4 ?qhk5 ?qhU ?qhkK ?qha0 ?qhb0 ?qhb1 ?qht0 ?qht1 ?qhkd ?qhku ?_; (case qhk1 => k_asm); (case qhk2 => k_asm); (case qhk3 => k_asm); (case qhk4 => k_asm); (case qhU => k_updF); (case qhk5 => k_asm); (case qhkK => first | exact rfl | assumption); (case qha0 => first | assumption | omega); (case qhb0 => first | assumption | omega); (case qhb1 => first | assumption | omega); (case qht0 => omega); (case qht1 => omega); (case qhkd => ktr_room); (case qhku => walk_at "my units"); k_whole); intro v' a' b' t' ta' tb' h' tk' hv0 hv1 ha' hb' hb1' F' ol' N'; (try dsimp only at N'); (try k_sweep)))
  k_with "my units" => (first | exact Nat.lt_of_succ_le (Nat.le_of_ble_eq_true rfl) | ((try simp only [cLine, units_in1, units_deeper, Around.mark_units, units_caller, ktrTop]); omega) | ktr_units)
  k_with "my enterC0" => ((refine' enterC0 ?qhk1 ?qhk2 ?qhk3 ?qhk4 ?qhk5 ?qhkA ?qhkf ?qhkK ?qhk6 ?qhk7 ?qhk8 ?qhk9 ?qhkB ?qhkD ?_ ?qhc2 ?qhc3 ?qhc4; (case qhkA => exact rfl); (case qhkf => exact rfl); (case qhkK => first | exact rfl | assumption); (case qhk1 => k_asm); (case qhk2 => k_asm); (case qhk3 => k_asm); (case qhk4 => k_asm); (case qhk5 => k_asm); (case qhk6 => k_is); (case qhk7 => k_is); (case qhk8 => ktr_room); (case qhk9 => exact BindsTo.of_eq rfl); (case qhkB => exact rfl); (case qhkD => decide +kernel); (case qhc2 => exact rfl); (case qhc3 => exact rfl); (case qhc4 => exact rfl); k_whole; intro g' L' h' tk' cells' FG' F' N' Y' B' X' T' D' l1; (try k_lt l1); k_cells Y'; (try simp only [List.cons_append, List.nil_append] at N'); (try dsimp only); (try k_lift B'); (try k_fold)))
  k_with "my k_room" => (ktr_room)
  k_with "callWith ref" => ((k_here; k_dflt (refine' callWith_K ?qhk1 ?qhk2 ?_; (case qhk1 => k_asm); (case qhk2 => k_is); k_whole)))
  k_with "my mem" => (first | with_reducible apply List.mem_cons_self | (with_reducible apply List.mem_cons_of_mem; walk_at "my mem"))
  k_with "my memD" => (first | apply List.mem_cons_self | (with_reducible apply List.mem_cons_of_mem; walk_at "my memD"))
  k_with "my all" => (first | with_reducible assumption | with_reducible apply List.forall_mem_nil | (with_reducible apply forall_cons; (k_ne); (walk_at "my all")))
  k_with "call type:bytes" => ((k_here; (with_reducible show wpAny _ _ (call (Value.type "bytes") [Value.bytes _ _]) _ _ _); k_dflt (refine call_bytes_bytes ?_)))
  k_with "call type:bytes" => ((k_here; (with_reducible show wpAny _ _ (call (Value.type "bytes") [Value.int _ _]) _ _ _); k_dflt (refine' call_bytes_int ?qhh0 ?qhh1 ?_; (case qhh0 => omega); (case qhh1 => omega); k_whole); intro _ _ _ _ hz' hzl' hzr'))
  k_with "my fold" => (((fail_if_success (with_reducible show wpAny _ _ _ qk _ _)); first | ((with_reducible show wpAny _ _ _ _ ek _); refine fold_q ?_; k_dflt (intro qk)) | (refine fold_wp ?_; k_dflt (intro qk ek))))
  k_with "exec Assign" => (k_fold)
  k_with "exec If" => (k_fold)
  k_with "exec Return some" => (k_fold)
  k_with "eval Call" => (k_fold)
  k_with "callWith ref" => ((k_here; (with_reducible show wpAny _ _ (callWith _ (Value.ref (OfNat.ofNat _)) _ (backTo _ (starEach [] _)) []) _ _ _); k_dflt (refine' callWith_K0 ?qhk1 ?qhk2 ?_; (case qhk1 => exact Frag.In.keeps (by with_reducible assumption) (Fr.keep (by with_reducible assumption))); (case qhk2 => k_is); k_whole); dsimp only [List.nil_append, List.cons_append, List.append_nil]))
  k_with "my tail" => ((intro _ hq'; repeat (first | with_reducible exact hq' | with_reducible apply List.mem_cons_of_mem)))
  k_with "my off" => (first | with_reducible assumption | with_reducible apply List.forall_mem_nil | (with_reducible apply forall_cons; (k_ne); (walk_at "my off")) | exact allOf (by assumption) (by walk_at "my tail"))
  k_with "my cut" => (first | with_reducible exact Cut.head | (with_reducible apply Cut.tail; walk_at "my cut"))
  k_with "SeqSrc" => ((k_dflt (refine' SeqSrc.of ?qhF ?qhN ?qhhm ?_; (case qhF => k_asm); (case qhN => k_asm); (case qhhm => k_mem); k_whole); intro I' l1; have l9' := l1; (try first | walk_at "my ltall" | k_lt l1)))
  k_with "SeqRest" => ((k_dflt (first | (refine SeqRest.cons ?_; intro it' h' tk' hc' F' N') | (refine SeqRest.nil ?_; intro h' tk' F' N')); (try k_sweep)))
  k_with "SeqPost" => (dsimp only [SeqPost])
  k_with "SeqEnd" => ((k_dflt (refine' SeqEnd.cut ?qhF ?qhN ?qhc ?qhhm ?qhoff ?_; (case qhF => k_asm); (case qhN => k_asm); (case qhc => walk_at "my cut"); (case qhhm => k_mem); (case qhoff => walk_at "my off"); k_whole)))
  k_with "exec For Name Tuple cons nil" => ((k_here; (with_reducible show wpAny _ _ (exec (Stmt.For _ _ _ [] _) _) _ _ _); k_dflt (refine for_tupS (by passes_own) (fun _ => rfl) rfl ?_)))
  k_with "exec For Name List cons nil" => ((k_here; (with_reducible show wpAny _ _ (exec (Stmt.For _ _ _ [] _) _) _ _ _); k_dflt (refine for_listS (by passes_own) (fun _ => rfl) rfl ?_)))
  trivial
theorem made_c : ∀ (w : World) (p : Program) (loose : List Str) (mean : ExcName → Option Value) (mg mb : Str → Option Value) (dp un : Nat) (gd : Option (List Code)) (cn : Str) (cs : Scope) (a : Addr) (ccd : Value) (cl : List (Str × Addr)) (outer : List Env) (A₀ : Around) (base h₀ : Heap) (L : Addr) (m : Str → Option Value) (s : Shared) (Q E : Value → Shared → Prop)
    (rest : List (Addr × Obj)) (D : Addr) (vs : List Value) (ns : List Int) (c : Nat) (b6 b7 : Bool) (f : Int) (u6 t9 : Tok) (b9 : Array UInt8),
    Below A₀ base outer h₀ → Fr h₀ L s.heap m → (hd.heap_1 w.params).In h₀ → News h₀ L s.heap ((D, listOf vs.toArray c) :: rest) → Top p loose mean mg mb h₀ → cs.kind = .function → dp + 20 < 800 → un + 90 < 9000 → IntsAre vs ns → ns.length = 6 →
    (∀ (hx hx2 : Addr) (k0 k1 k2 k3 k4 k5 k6 k7 k8 k9 u0 u1 u2 u3 u4 u5 : Tok) (h' : Heap) (tk' : Nat), Fr h₀ L h' m →
      News h₀ L h' ((hx, instObj 118 hx2) :: (hx2, headDict w k0 k1 k2 k3 k4 k5 k6 k7 k8 k9 (.int (ns.getD 0 0) u0) (.int (ns.getD 1 0) u1) (.int (ns.getD 2 0) u2) (.int (ns.getD 3 0) u3) (.int (ns.getD 4 0) u4) (.int (ns.getD 5 0) u5) (.bool b6) (.bool b7) (.int f u6) (.bytes b9 t9) 10) :: (D, listOf vs.toArray c) :: rest) →
      AllLt hx2 ((D, listOf vs.toArray c) :: rest) → @LT.lt Nat _ hx2 hx → Q (.ref hx) { s with heap := h', toks := tk' }) →
    wpAny (model PySem.Challenge.rw_on0340_01.row.prog w) (ktrTop dp un gd cn cs L a ccd cl outer) (call (.ref 279) [.ref D, .bool b6, .bool b7, .int f u6, .bytes b9 t9]) Q E s := by
  k_fill
  intro w p loose mean mg mb dp un gd cn cs a ccd cl outer A₀ base h₀ L m s Q E rest D vs ns c b6 b7 f u6 t9 b9 B F X N T hk hdp hun hvs hns hret
  refine wpAny_call ?_
  k_dflt cell_enter
  k_steps
  exact hret _ _ _ _ _ _ _ _ _ _ _ _ _ _ _ _ _ _ _ _ (by assumption) (by assumption) (by assumption) (by assumption)
theorem flags_ret {Q : Value → Shared → Prop} {h₀ : Heap} {L : Addr} {m : Str → Option Value} {news : List (Addr × Obj)} {s : Shared} {z : Int}
    (hret : ∀ (h' : Heap) (t tk' : Nat), Fr h₀ L h' m → News h₀ L h' news → Q (.int z t) { s with heap := h', toks := tk' })
    {z' : Int} {h' : Heap} {t tk' : Nat} (F : Fr h₀ L h' m) (N : News h₀ L h' news) (e : z' = z) : Q (.int z' t) { s with heap := h', toks := tk' } := by
  subst e; exact hret h' t tk' F N
theorem flags_c : ∀ (w : World) (p : Program) (loose : List Str) (mean : ExcName → Option Value) (mg mb : Str → Option Value) (dp un : Nat) (gd : Option (List Code)) (cn : Str) (cs : Scope) (a : Addr) (ccd : Value) (cl : List (Str × Addr)) (outer : List Env) (A₀ : Around) (base h₀ : Heap) (L : Addr) (m : Str → Option Value) (s : Shared) (Q E : Value → Shared → Prop)
    (rest : List (Addr × Obj)) (hx hx2 : Addr) (k0 k1 k2 k3 k4 k5 k6 k7 k8 k9 u0 u1 u2 u3 u4 u5 u6 t9 : Tok) (x0 x1 x2 x3 x4 x5 f : Int) (b6 b7 : Bool) (b9 : Array UInt8) (n : Nat),
    Below A₀ base outer h₀ → Fr h₀ L s.heap m → (hd.heap_1 w.params).In h₀ → News h₀ L s.heap ((hx, instObj 118 hx2) :: (hx2, headDict w k0 k1 k2 k3 k4 k5 k6 k7 k8 k9 (.int x0 u0) (.int x1 u1) (.int x2 u2) (.int x3 u3) (.int x4 u4) (.int x5 u5) (.bool b6) (.bool b7) (.int f u6) (.bytes b9 t9) n) :: rest) → Top p loose mean mg mb h₀ → cs.kind = .function → dp + 20 < 800 → un + 90 < 9000 → 0 ≤ f.fdiv 8 → f.fdiv 8 < 8192 →
    (∀ (h' : Heap) (t tk' : Nat), Fr h₀ L h' m → News h₀ L h' ((hx, instObj 118 hx2) :: (hx2, headDict w k0 k1 k2 k3 k4 k5 k6 k7 k8 k9 (.int x0 u0) (.int x1 u1) (.int x2 u2) (.int x3 u3) (.int x4 u4) (.int x5 u5) (.bool b6) (.bool b7) (.int f u6) (.bytes b9 t9) n) :: rest) → Q (.int (f.fdiv 8 + 16384 * (if b6 = true then 1 else 0) + 8192 * (if b7 = true then 1 else 0)) t) { s with heap := h', toks := tk' }) →
    wpAny (model PySem.Challenge.rw_on0340_01.row.prog w) (ktrTop dp un gd cn cs L a ccd cl outer) (call (.ref 150) [.ref hx]) Q E s := by
  k_fill
  intro w p loose mean mg mb dp un gd cn cs a ccd cl outer A₀ base h₀ L m s Q E rest hx hx2 k0 k1 k2 k3 k4 k5 k6 k7 k8 k9 u0 u1 u2 u3 u4 u5 u6 t9 x0 x1 x2 x3 x4 x5 f b6 b7 b9 n B F X N T hk hdp hun hf0 hf1 hret
  refine wpAny_call ?_
  k_dflt cell_enter
  k_steps
  all_goals (refine' flags_ret hret ?F ?N ?e; (case F => assumption); (case N => assumption); (case e => cases b6 <;> cases b7 <;> first | contradiction | simp))
theorem row_c : ∀ (w : World) (p : Program) (loose : List Str) (mean : ExcName → Option Value) (mg mb : Str → Option Value) (dp un : Nat) (gd : Option (List Code)) (cn : Str) (cs : Scope) (a : Addr) (ccd : Value) (cl : List (Str × Addr)) (outer : List Env) (A₀ : Around) (base h₀ : Heap) (L : Addr) (m : Str → Option Value) (s : Shared) (Q E : Value → Shared → Prop)
    (rest : List (Addr × Obj)) (hx hx2 : Addr) (k0 k1 k2 k3 k4 k5 k6 k7 k8 k9 u0 u1 u2 u3 u4 u5 u6 t9 : Tok) (x0 x1 x2 x3 x4 x5 f : Int) (b6 b7 : Bool) (b9 : Array UInt8) (n : Nat),
    Below A₀ base outer h₀ → Fr h₀ L s.heap m → (hd.heap_1 w.params).In h₀ → News h₀ L s.heap ((hx, instObj 118 hx2) :: (hx2, headDict w k0 k1 k2 k3 k4 k5 k6 k7 k8 k9 (.int x0 u0) (.int x1 u1) (.int x2 u2) (.int x3 u3) (.int x4 u4) (.int x5 u5) (.bool b6) (.bool b7) (.int f u6) (.bytes b9 t9) n) :: rest) → Top p loose mean mg mb h₀ → cs.kind = .function → dp + 20 < 800 → un + 90 < 9000 →
    (∀ (D : Addr) (h' : Heap) (tk' : Nat), Fr h₀ L h' m → News h₀ L h' ((D, ({ cls := .type "tuple", data := .seq #[.int x0 u0, .int x1 u1, .int x2 u2, .int x3 u3, .int x4 u4, .int x5 u5, .bool b6, .bool b7, .int f u6, .bytes b9 t9] } : Obj)) :: (hx, instObj 118 hx2) :: (hx2, headDict w k0 k1 k2 k3 k4 k5 k6 k7 k8 k9 (.int x0 u0) (.int x1 u1) (.int x2 u2) (.int x3 u3) (.int x4 u4) (.int x5 u5) (.bool b6) (.bool b7) (.int f u6) (.bytes b9 t9) n) :: rest) → AllLt D ((hx, instObj 118 hx2) :: (hx2, headDict w k0 k1 k2 k3 k4 k5 k6 k7 k8 k9 (.int x0 u0) (.int x1 u1) (.int x2 u2) (.int x3 u3) (.int x4 u4) (.int x5 u5) (.bool b6) (.bool b7) (.int f u6) (.bytes b9 t9) n) :: rest) → Q (.ref D) { s with heap := h', toks := tk' }) →
    wpAny (model PySem.Challenge.rw_on0340_01.row.prog w) (ktrTop dp un gd cn cs L a ccd cl outer) (call (.ref 115) [.ref hx]) Q E s := by
  k_fill
  intro w p loose mean mg mb dp un gd cn cs a ccd cl outer A₀ base h₀ L m s Q E rest hx hx2 k0 k1 k2 k3 k4 k5 k6 k7 k8 k9 u0 u1 u2 u3 u4 u5 u6 t9 x0 x1 x2 x3 x4 x5 f b6 b7 b9 n B F X N T hk hdp hun hret
  refine wpAny_call ?_
  k_dflt cell_enter
  k_steps
  exact hret _ _ _ (by assumption) (by assumption) (by assumption)
theorem part_c : ∀ (w : World) (p : Program) (loose : List Str) (mean : ExcName → Option Value) (mg mb : Str → Option Value) (dp un : Nat) (gd : Option (List Code)) (cn : Str) (cs : Scope) (a : Addr) (ccd : Value) (cl : List (Str × Addr)) (outer : List Env) (A₀ : Around) (base h₀ : Heap) (L : Addr) (m : Str → Option Value) (s : Shared) (Q E : Value → Shared → Prop)
    (rest : List (Addr × Obj)) (hx hx2 : Addr) (k0 k1 k2 k3 k4 k5 k6 k7 k8 k9 u0 u1 u2 u3 u4 u5 u6 t9 g6 g9 : Tok) (x0 x1 x2 x3 x4 x5 f f' : Int) (b6 b7 b8 : Bool) (b9 c9 : Array UInt8) (n : Nat),
    Below A₀ base outer h₀ → Fr h₀ L s.heap m → (hd.heap_1 w.params).In h₀ → News h₀ L s.heap ((hx, instObj 118 hx2) :: (hx2, headDict w k0 k1 k2 k3 k4 k5 k6 k7 k8 k9 (.int x0 u0) (.int x1 u1) (.int x2 u2) (.int x3 u3) (.int x4 u4) (.int x5 u5) (.bool b6) (.bool b7) (.int f u6) (.bytes b9 t9) n) :: rest) → Top p loose mean mg mb h₀ → cs.kind = .function → dp + 20 < 800 → un + 90 < 9000 →
    (∀ (kx kx2 : Addr) (j0 j1 j2 j3 j4 j5 j6 j7 j8 j9 : Tok) (h' : Heap) (tk' : Nat), Fr h₀ L h' m →
      News h₀ L h' ((kx, instObj 118 kx2) :: (kx2, headDict w j0 j1 j2 j3 j4 j5 j6 j7 j8 j9 (.int x0 u0) (.int x1 u1) (.int x2 u2) (.int x3 u3) (.int x4 u4) (.int x5 u5) (.bool b6) (.bool b8) (.int f' g6) (.bytes c9 g9) 10) :: (hx, instObj 118 hx2) :: (hx2, headDict w k0 k1 k2 k3 k4 k5 k6 k7 k8 k9 (.int x0 u0) (.int x1 u1) (.int x2 u2) (.int x3 u3) (.int x4 u4) (.int x5 u5) (.bool b6) (.bool b7) (.int f u6) (.bytes b9 t9) n) :: rest) →
      AllLt kx2 ((hx, instObj 118 hx2) :: (hx2, headDict w k0 k1 k2 k3 k4 k5 k6 k7 k8 k9 (.int x0 u0) (.int x1 u1) (.int x2 u2) (.int x3 u3) (.int x4 u4) (.int x5 u5) (.bool b6) (.bool b7) (.int f u6) (.bytes b9 t9) n) :: rest) → @LT.lt Nat _ kx2 kx → Q (.ref kx) { s with heap := h', toks := tk' }) →
    wpAny (model PySem.Challenge.rw_on0340_01.row.prog w) (ktrTop dp un gd cn cs L a ccd cl outer) (call (.ref 218) [.ref hx, .int f' g6, .bool b8, .bytes c9 g9]) Q E s := by
  k_fill
  intro w p loose mean mg mb dp un gd cn cs a ccd cl outer A₀ base h₀ L m s Q E rest hx hx2 k0 k1 k2 k3 k4 k5 k6 k7 k8 k9 u0 u1 u2 u3 u4 u5 u6 t9 g6 g9 x0 x1 x2 x3 x4 x5 f f' b6 b7 b8 b9 c9 n B F X N T hk hdp hun hret
  refine wpAny_call ?_
  k_dflt cell_enter
  k_steps
  exact hret _ _ _ _ _ _ _ _ _ _ _ _ _ _ (by assumption) (by assumption) (by assumption) (by assumption)
section
variable {w : World} {p : Program} {loose : List Str} {mean : ExcName → Option Value} {mg mb : Str → Option Value} {dp un : Nat} {gd : Option (List Code)} {cn : Str} {cs : Scope} {a : Addr} {ccd : Value} {cl : List (Str × Addr)} {outer : List Env} {A₀ : Around} {base h₀ : Heap} {L : Addr} {m : Str → Option Value} {s : Shared} {Q E : Value → Shared → Prop}
    {news : List (Addr × Obj)} {D hx hx2 : Addr} {vs : List Value} {ns : List Int} {c n : Nat} {k0 k1 k2 k3 k4 k5 k6 k7 k8 k9 u0 u1 u2 u3 u4 u5 u6 t9 t0 t1 t2 t3 t4 t5 g6 g9 : Tok} {x0 x1 x2 x3 x4 x5 f f' : Int} {b6 b7 b8 : Bool} {b9 c9 : Array UInt8}
theorem news_two {g h : Heap} {L : Addr} {p q : Addr × Obj} {r l : List (Addr × Obj)} (N : News g L h (p :: q :: (r ++ l))) : News g L h (p :: q :: l) := fun x hx => N x (by
  simp only [List.mem_cons, List.mem_append] at hx ⊢
  rcases hx with h | h | h <;> simp [h])
theorem made_u (B : Below A₀ base outer h₀) (F : Fr h₀ L s.heap m) (X : (hd.heap_1 w.params).In h₀) (N : News h₀ L s.heap news) (T : Top p loose mean mg mb h₀) (hk : cs.kind = .function) (hd : dp + 20 < 800) (hu : un + 90 < 9000) (m1 : (D, listOf vs.toArray c) ∈ news) (hvs : IntsAre vs ns) (hns : ns.length = 6)
    (hret : ∀ (hx hx2 : Addr) (k0 k1 k2 k3 k4 k5 k6 k7 k8 k9 u0 u1 u2 u3 u4 u5 : Tok) (h' : Heap) (tk' : Nat), Fr h₀ L h' m →
      (let od : Obj := headDict w k0 k1 k2 k3 k4 k5 k6 k7 k8 k9 (.int (ns.getD 0 0) u0) (.int (ns.getD 1 0) u1) (.int (ns.getD 2 0) u2) (.int (ns.getD 3 0) u3) (.int (ns.getD 4 0) u4) (.int (ns.getD 5 0) u5) (.bool b6) (.bool b7) (.int f u6) (.bytes b9 t9) 10; News h₀ L h' ((hx, instObj 118 hx2) :: (hx2, od) :: news) →
      AllLt hx2 news → @LT.lt Nat _ hx2 hx → Q (.ref hx) { s with heap := h', toks := tk' })) :
    wpAny (model PySem.Challenge.rw_on0340_01.row.prog w) (ktrTop dp un gd cn cs L a ccd cl outer) (call (.ref 279) [.ref D, .bool b6, .bool b7, .int f u6, .bytes b9 t9]) Q E s :=
  made_c w p loose mean mg mb dp un gd cn cs a ccd cl outer A₀ base h₀ L m s Q E news D vs ns c b6 b7 f u6 t9 b9 B F X (List.forall_mem_cons.mpr ⟨N _ m1, N⟩) T hk hd hu hvs hns
    fun hx hx2 k0 k1 k2 k3 k4 k5 k6 k7 k8 k9 u0 u1 u2 u3 u4 u5 h' tk' F' N' l1 l2 => hret hx hx2 k0 k1 k2 k3 k4 k5 k6 k7 k8 k9 u0 u1 u2 u3 u4 u5 h' tk' F' (news_two (r := [(D, listOf vs.toArray c)]) N') l1.2 l2
theorem made_six (B : Below A₀ base outer h₀) (F : Fr h₀ L s.heap m) (X : (hd.heap_1 w.params).In h₀) (N : News h₀ L s.heap news) (T : Top p loose mean mg mb h₀) (hk : cs.kind = .function) (hd : dp + 20 < 800) (hu : un + 90 < 9000) (m1 : (D, listOf #[.int x0 t0, .int x1 t1, .int x2 t2, .int x3 t3, .int x4 t4, .int x5 t5] c) ∈ news)
    (hret : ∀ (hx hx2 : Addr) (k0 k1 k2 k3 k4 k5 k6 k7 k8 k9 u0 u1 u2 u3 u4 u5 : Tok) (h' : Heap) (tk' : Nat), Fr h₀ L h' m →
      (let od : Obj := headDict w k0 k1 k2 k3 k4 k5 k6 k7 k8 k9 (.int x0 u0) (.int x1 u1) (.int x2 u2) (.int x3 u3) (.int x4 u4) (.int x5 u5) (.bool b6) (.bool b7) (.int f u6) (.bytes b9 t9) 10; News h₀ L h' ((hx, instObj 118 hx2) :: (hx2, od) :: news) →
      AllLt hx2 news → @LT.lt Nat _ hx2 hx → Q (.ref hx) { s with heap := h', toks := tk' })) :
    wpAny (model PySem.Challenge.rw_on0340_01.row.prog w) (ktrTop dp un gd cn cs L a ccd cl outer) (call (.ref 279) [.ref D, .bool b6, .bool b7, .int f u6, .bytes b9 t9]) Q E s :=
  made_u (vs := [.int x0 t0, .int x1 t1, .int x2 t2, .int x3 t3, .int x4 t4, .int x5 t5]) (ns := [x0, x1, x2, x3, x4, x5]) B F X N T hk hd hu m1 (.cons _ _ (.cons _ _ (.cons _ _ (.cons _ _ (.cons _ _ (.cons _ _ .nil)))))) rfl hret
theorem flags_u (B : Below A₀ base outer h₀) (F : Fr h₀ L s.heap m) (X : (hd.heap_1 w.params).In h₀) (N : News h₀ L s.heap news) (T : Top p loose mean mg mb h₀) (hk : cs.kind = .function) (hd : dp + 20 < 800) (hu : un + 90 < 9000) (m1 : (hx, instObj 118 hx2) ∈ news) (m2 : (hx2, headDict w k0 k1 k2 k3 k4 k5 k6 k7 k8 k9 (.int x0 u0) (.int x1 u1) (.int x2 u2) (.int x3 u3) (.int x4 u4) (.int x5 u5) (.bool b6) (.bool b7) (.int f u6) (.bytes b9 t9) n) ∈ news) (hf0 : 0 ≤ f.fdiv 8) (hf1 : f.fdiv 8 < 8192)
    (hret : ∀ (h' : Heap) (t tk' : Nat), Fr h₀ L h' m → News h₀ L h' news → Q (.int (f.fdiv 8 + 16384 * (if b6 = true then 1 else 0) + 8192 * (if b7 = true then 1 else 0)) t) { s with heap := h', toks := tk' }) :
    wpAny (model PySem.Challenge.rw_on0340_01.row.prog w) (ktrTop dp un gd cn cs L a ccd cl outer) (call (.ref 150) [.ref hx]) Q E s :=
  flags_c w p loose mean mg mb dp un gd cn cs a ccd cl outer A₀ base h₀ L m s Q E news hx hx2 k0 k1 k2 k3 k4 k5 k6 k7 k8 k9 u0 u1 u2 u3 u4 u5 u6 t9 x0 x1 x2 x3 x4 x5 f b6 b7 b9 n B F X (List.forall_mem_cons.mpr ⟨N _ m1, List.forall_mem_cons.mpr ⟨N _ m2, N⟩⟩) T hk hd hu hf0 hf1
    fun h' t tk' F' N' => hret h' t tk' F' fun q hq => N' q (List.mem_cons_of_mem _ (List.mem_cons_of_mem _ hq))
theorem row_u (B : Below A₀ base outer h₀) (F : Fr h₀ L s.heap m) (X : (hd.heap_1 w.params).In h₀) (N : News h₀ L s.heap news) (T : Top p loose mean mg mb h₀) (hk : cs.kind = .function) (hd : dp + 20 < 800) (hu : un + 90 < 9000) (m1 : (hx, instObj 118 hx2) ∈ news) (m2 : (hx2, headDict w k0 k1 k2 k3 k4 k5 k6 k7 k8 k9 (.int x0 u0) (.int x1 u1) (.int x2 u2) (.int x3 u3) (.int x4 u4) (.int x5 u5) (.bool b6) (.bool b7) (.int f u6) (.bytes b9 t9) n) ∈ news)
    (hret : ∀ (D : Addr) (h' : Heap) (tk' : Nat), Fr h₀ L h' m → (let ot : Obj := ({ cls := .type "tuple", data := .seq #[.int x0 u0, .int x1 u1, .int x2 u2, .int x3 u3, .int x4 u4, .int x5 u5, .bool b6, .bool b7, .int f u6, .bytes b9 t9] } : Obj); News h₀ L h' ((D, ot) :: news) → AllLt D news → Q (.ref D) { s with heap := h', toks := tk' })) :
    wpAny (model PySem.Challenge.rw_on0340_01.row.prog w) (ktrTop dp un gd cn cs L a ccd cl outer) (call (.ref 115) [.ref hx]) Q E s :=
  row_c w p loose mean mg mb dp un gd cn cs a ccd cl outer A₀ base h₀ L m s Q E news hx hx2 k0 k1 k2 k3 k4 k5 k6 k7 k8 k9 u0 u1 u2 u3 u4 u5 u6 t9 x0 x1 x2 x3 x4 x5 f b6 b7 b9 n B F X (List.forall_mem_cons.mpr ⟨N _ m1, List.forall_mem_cons.mpr ⟨N _ m2, N⟩⟩) T hk hd hu
    fun D h' tk' F' N' l1 => hret D h' tk' F' (List.forall_mem_cons.mpr ⟨N' _ List.mem_cons_self, fun q hq => N' q (List.mem_cons_of_mem _ (List.mem_cons_of_mem _ (List.mem_cons_of_mem _ hq)))⟩) l1.2.2
theorem part_u (B : Below A₀ base outer h₀) (F : Fr h₀ L s.heap m) (X : (hd.heap_1 w.params).In h₀) (N : News h₀ L s.heap news) (T : Top p loose mean mg mb h₀) (hk : cs.kind = .function) (hd : dp + 20 < 800) (hu : un + 90 < 9000) (m1 : (hx, instObj 118 hx2) ∈ news) (m2 : (hx2, headDict w k0 k1 k2 k3 k4 k5 k6 k7 k8 k9 (.int x0 u0) (.int x1 u1) (.int x2 u2) (.int x3 u3) (.int x4 u4) (.int x5 u5) (.bool b6) (.bool b7) (.int f u6) (.bytes b9 t9) n) ∈ news)
    (hret : ∀ (kx kx2 : Addr) (j0 j1 j2 j3 j4 j5 j6 j7 j8 j9 : Tok) (h' : Heap) (tk' : Nat), Fr h₀ L h' m →
      (let od : Obj := headDict w j0 j1 j2 j3 j4 j5 j6 j7 j8 j9 (.int x0 u0) (.int x1 u1) (.int x2 u2) (.int x3 u3) (.int x4 u4) (.int x5 u5) (.bool b6) (.bool b8) (.int f' g6) (.bytes c9 g9) 10; News h₀ L h' ((kx, instObj 118 kx2) :: (kx2, od) :: news) →
      AllLt kx2 news → @LT.lt Nat _ kx2 kx → Q (.ref kx) { s with heap := h', toks := tk' })) :
    wpAny (model PySem.Challenge.rw_on0340_01.row.prog w) (ktrTop dp un gd cn cs L a ccd cl outer) (call (.ref 218) [.ref hx, .int f' g6, .bool b8, .bytes c9 g9]) Q E s :=
  part_c w p loose mean mg mb dp un gd cn cs a ccd cl outer A₀ base h₀ L m s Q E news hx hx2 k0 k1 k2 k3 k4 k5 k6 k7 k8 k9 u0 u1 u2 u3 u4 u5 u6 t9 g6 g9 x0 x1 x2 x3 x4 x5 f f' b6 b7 b8 b9 c9 n B F X (List.forall_mem_cons.mpr ⟨N _ m1, List.forall_mem_cons.mpr ⟨N _ m2, N⟩⟩) T hk hd hu
    fun kx kx2 j0 j1 j2 j3 j4 j5 j6 j7 j8 j9 h' tk' F' N' l1 l2 => hret kx kx2 j0 j1 j2 j3 j4 j5 j6 j7 j8 j9 h' tk' F' (news_two (r := [(hx, instObj 118 hx2), (hx2, headDict w k0 k1 k2 k3 k4 k5 k6 k7 k8 k9 (.int x0 u0) (.int x1 u1) (.int x2 u2) (.int x3 u3) (.int x4 u4) (.int x5 u5) (.bool b6) (.bool b7) (.int f u6) (.bytes b9 t9) n)]) N') l1.2.2 l2
end
end

section
open PySem PySem.W PyProof.Rows PySem.Spec PySem.Calls PySem.SeqAt
theorem eqAt_bytes {A : Around} {s : Shared} (b : Array UInt8) (t u : Tok) : EqAt A s (.bytes b t) (.bytes b u) true := fun prog w E Q h => by
  unfold eqBool
  refine wpAny_holding ?_
  refine wpAny_ite_split (fun hab => ?_) (fun _ => ?_)
  · exact wpAny_bind (wpAny_rule (wpAny_pure h))
  · have z : wpAny (model prog w) A (compareOp .Eq (.bytes b t) (.bytes b u)) (fun v s => wpAny (model prog w) A (truthOfDropped v) Q E s) E s := by
      refine eq_bytes ?_
      rw [beq_self_eq_true]
      exact wpAny_truthy_bool h
    exact wpAny_bind z
inductive SameV : Value → Value → Prop
  | int (x : Int) (t u : Tok) : SameV (.int x t) (.int x u)
  | bool (b : Bool) : SameV (.bool b) (.bool b)
  | bytes {b c : Array UInt8} (t u : Tok) (h : b = c) : SameV (.bytes b t) (.bytes c u)
theorem SameV.at {A : Around} {s : Shared} {v u : Value} (h : SameV v u) : EqAt A s v u true := by
  cases h with
  | int x t u => have := EqAt.int_int (A := A) (s := s) x t x u; rwa [beq_self_eq_true] at this
  | bool b => have := EqAt.bool_bool (A := A) (s := s) b b; rwa [beq_self_eq_true] at this
  | bytes t u h => subst h; exact eqAt_bytes _ t u
inductive SameAll : List Value → List Value → Prop
  | nil : SameAll [] []
  | cons {v u vs us} : SameV v u → SameAll vs us → SameAll (v :: vs) (u :: us)
theorem SameAll.len {vs us : List Value} (h : SameAll vs us) : vs.length = us.length := by
  induction h with
  | nil => rfl
  | cons _ _ ih => simp [ih]
theorem SameAll.at {vs us : List Value} (h : SameAll vs us) : ∀ j (h1 : j < vs.length) (h2 : j < us.length), SameV vs[j] us[j] := by
  induction h with
  | nil => intro j h1; exact absurd h1 (Nat.not_lt_zero _)
  | cons a _ ih =>
    intro j h1 h2
    cases j with
    | zero => exact a
    | succ j => exact ih j (by simpa using h1) (by simpa using h2)
theorem tup_ne_same {prog : Program} {w : World} {A : Around} {E : Value → Shared → Prop} {s : Shared} {g : Heap} {L a b : Addr} {news : List (Addr × Obj)} {vs ws : Array Value} {n1 n2 : Nat} {Q : Value → Shared → Prop} (N : News g L s.heap news)
    (m1 : (a, ({ cls := .type "tuple", data := .seq vs n1 } : Obj)) ∈ news) (m2 : (b, ({ cls := .type "tuple", data := .seq ws n2 } : Obj)) ∈ news) (hs : SameAll vs.toList ws.toList) (hu : A.units < cLine) (h : Q (.bool false) s) :
    wpAny (model prog w) A (compareOp .NotEq (.ref a) (.ref b)) Q E s := by
  have t1 : s.heap.IsTuple a vs := ⟨_, (N _ m1).1, rfl, n1, rfl⟩
  have t2 : s.heap.IsTuple b ws := ⟨_, (N _ m2).1, rfl, n2, rfl⟩
  have hl : vs.size = ws.size := by have := hs.len; simpa using this
  refine RcNeAt.tuples (e := fun _ => true) t1 t2 hu (fun j h1 h2 => (hs.at j (by simpa using h1) (by simpa using h2)).at) prog w E Q ?_
  have ha : (List.range (min vs.size ws.size)).all (fun _ => true) = true := List.all_eq_true.mpr fun _ _ => rfl
  have e : (!((List.range (min vs.size ws.size)).all (fun _ => true) && vs.size == ws.size)) = false := by rw [ha, hl, beq_self_eq_true]; rfl
  rw [e]
  exact h
theorem bytes_same {z y : Array UInt8} {zs ys : List Int} {n : Nat} (h1 : KBw.bInts z = zs) (h2 : zs = List.replicate n 0) (h3 : KBw.bInts y = ys) (h4 : ys = List.replicate n 0) : z = y := by
  have : KBw.bInts z = KBw.bInts y := by rw [h1, h2, h3, h4]
  unfold KBw.bInts at this
  have e := List.map_inj_right (fun x y e => UInt8.toNat_inj.mp (by exact_mod_cast e)) |>.mp this
  exact Array.toList_inj.mp e
section
variable {prog : Program} {w : World} {A : Around} {E : Value → Shared → Prop} {s : Shared} {h₀ : Heap} {L : Addr} {m : Str → Option Value} {news : List (Addr × Obj)}
theorem list_add {l b : Addr} {vs ws : List Value} {c d : Nat} {ns ms : List Int} {Q : Value → Shared → Prop} (F : Fr h₀ L s.heap m) (N : News h₀ L s.heap news) (hl : (l, listOf vs.toArray c) ∈ news) (hb : (b, listOf ws.toArray d) ∈ news)
    (hi : IntsAre vs ns) (hj : IntsAre ws ms) (hsz : ns.length + ms.length ≤ 1000)
    (h : ∀ D h' vs', Fr h₀ L h' m → News h₀ L h' ((D, listOf (List.toArray vs') 0) :: news) → (∀ q ∈ news, q.1 < D) → IntsAre vs' (ns ++ ms) → Q (.ref D) { s with heap := h' }) :
    wpAny (model prog w) A (binaryOp .Add (.ref l) (.ref b)) Q E s :=
  add_arrays_ints F N (News.isList N hl) (News.isList N hb) hi hj (fun h' F' N' hI => h _ h' _ F' N' (fun q hq => Heap.lt_size (N q hq).1) hI) (by rw [sizeLine_eq]; omega)
end
end

section
open PySem PySem.W PyProof.Rows PySem.Spec PySem.Calls
theorem spot_cases {v : Int} (h0 : 0 ≤ v) (h1 : v < 6) : v = 0 ∨ v = 1 ∨ v = 2 ∨ v = 3 ∨ v = 4 ∨ v = 5 := by omega
theorem bits_bd {v : Int} (h0 : 0 ≤ v) (h1 : v < 6) : 8 ≤ ([32, 32, 8, 16, 8, 8] : List Int).getD v.toNat 0 ∧ ([32, 32, 8, 16, 8, 8] : List Int).getD v.toNat 0 ≤ 32 ∧ 0 < (2 : Int) ^ (([32, 32, 8, 16, 8, 8] : List Int).getD v.toNat 0).toNat := by
  rcases spot_cases h0 h1 with rfl | rfl | rfl | rfl | rfl | rfl <;> decide +kernel
theorem bent_bad {x0 x1 x2 x3 x4 x5 v y f : Int} {ns : List Int} (h0 : 0 ≤ v) (h1 : v < 6) (e : ns = [x0, x1, x2, x3, x4, x5]) (hy : y < 0 ∨ y = 2 ^ (([32, 32, 8, 16, 8, 8] : List Int).getD v.toNat 0).toNat)
    (h : Six ((ns.take v.toNat ++ [y] ++ ns.drop (v + 1).toNat).getD 0 0) ((ns.take v.toNat ++ [y] ++ ns.drop (v + 1).toNat).getD 1 0) ((ns.take v.toNat ++ [y] ++ ns.drop (v + 1).toNat).getD 2 0) ((ns.take v.toNat ++ [y] ++ ns.drop (v + 1).toNat).getD 3 0)
      ((ns.take v.toNat ++ [y] ++ ns.drop (v + 1).toNat).getD 4 0) ((ns.take v.toNat ++ [y] ++ ns.drop (v + 1).toNat).getD 5 0) ∧ Far f) : False := by
  subst e
  obtain ⟨⟨⟨a0, b0⟩, ⟨a1, b1⟩, ⟨a2, b2⟩, ⟨a3, b3⟩, ⟨a4, b4⟩, a5, b5⟩, _⟩ := h
  have p32 : (2 : Int) ^ Int.toNat 32 = 4294967296 := by decide +kernel
  have p16 : (2 : Int) ^ Int.toNat 16 = 65536 := by decide +kernel
  have p8 : (2 : Int) ^ Int.toNat 8 = 256 := by decide +kernel
  rcases spot_cases h0 h1 with rfl | rfl | rfl | rfl | rfl | rfl
  · have : 0 ≤ y ∧ y < 4294967296 := ⟨a0, b0⟩
    rcases hy with hy | hy
    · omega
    · replace hy : y = 2 ^ Int.toNat 32 := hy
      omega
  · have : 0 ≤ y ∧ y < 4294967296 := ⟨a1, b1⟩
    rcases hy with hy | hy
    · omega
    · replace hy : y = 2 ^ Int.toNat 32 := hy
      omega
  · have : 0 ≤ y ∧ y < 256 := ⟨a2, b2⟩
    rcases hy with hy | hy
    · omega
    · replace hy : y = 2 ^ Int.toNat 8 := hy
      omega
  · have : 0 ≤ y ∧ y < 65536 := ⟨a3, b3⟩
    rcases hy with hy | hy
    · omega
    · replace hy : y = 2 ^ Int.toNat 16 := hy
      omega
  · have : 0 ≤ y ∧ y < 256 := ⟨a4, b4⟩
    rcases hy with hy | hy
    · omega
    · replace hy : y = 2 ^ Int.toNat 8 := hy
      omega
  · have : 0 ≤ y ∧ y < 256 := ⟨a5, b5⟩
    rcases hy with hy | hy
    · omega
    · replace hy : y = 2 ^ Int.toNat 8 := hy
      omega
theorem not_far1 : ¬ Far (0 - 8) := by unfold Far; decide
theorem not_far2 : ¬ Far 65536 := by unfold Far; decide
theorem not_far3 {x : Int} : ¬ Far (8 * x + 4) := by
  intro h
  have := h.1
  rw [Int.fmod_eq_emod_of_nonneg _ (by decide : (0 : Int) ≤ 8)] at this
  omega
end

section
open PySem PySem.W PyProof.Rows PySem.Spec PySem.Calls
theorem four_bd {x y z v : Int} {t u o q : Tok} (hx : 0 ≤ x ∧ x ≤ z) (hy : 0 ≤ y ∧ y ≤ z) (hz : 0 ≤ v ∧ v ≤ z) : ∀ w ∈ [Value.int x t, .int y u, .int z o, .int v q], ∃ n t, w = .int n t ∧ 0 ≤ n ∧ n ≤ z := by
  intro w hw
  simp only [List.mem_cons, List.not_mem_nil, or_false] at hw
  rcases hw with rfl | rfl | rfl | rfl
  · exact ⟨_, _, rfl, hx⟩
  · exact ⟨_, _, rfl, hy⟩
  · exact ⟨_, _, rfl, Int.le_trans hx.1 hx.2, Int.le_refl _⟩
  · exact ⟨_, _, rfl, hz⟩
theorem wordsH3x1 : True := by
  k_with_none
  w_top off
  k_with "my k_all" => (with_reducible assumption)
  k_with "exec Raise some none" => ((k_here; (with_reducible show wpAny _ _ (exec (Stmt.Raise (some _) none _) _) _ _ _); k_dflt (refine exec_raise ?qhh0 ?_; (case qhh0 => first | rfl | assumption))))
  k_with "call ref" => ((k_here; (with_reducible show wpAny _ _ (call (Value.ref _) [Value.str _ _]) (fun v s₁ => Rd s₁ v ∧ _) _ _); k_dflt (refine' exc_rd (t := _) ?qhX ?qhhh ?qhhd ?qhhu ?qhhC ?_; (case qhhC => first | exact Or.inl rfl | exact Or.inr rfl); (case qhX => k_in); (case qhhh => first | rfl | assumption); (case qhhd => walk_at "my room"); (case qhhu => walk_at "my room"); k_whole); intro h' e' tk' x'))
  k_with "my room" => (first
  | exact Nat.le_of_ble_eq_true rfl
  | ((try simp only [depth_mark, depth_under_make, depth_under_kw, depth_in1, depth_deeper, units_in1, units_deeper, Around.mark_units, units_caller, ktrTop]); omega))
  k_with "leaving ref" => ((k_here; (with_reducible show wpAny _ _ (leaving _ (Value.ref _)) _ _ _); first
  | (k_dflt (refine' leave_newX ?qhk1 ?qhk0 ?qhk2 ?qhk3 ?qhkf ?qhkk ?_; (case qhk0 => assumption); (case qhk2 => assumption); (case qhk1 => assumption); (case qhk3 => k_asm); (case qhkf => exact rfl); (case qhkk => exact rfl); k_whole); intro h' R' U'; (try dsimp only at R' U' ⊢))
  | (k_dflt (refine' leave_onX ?qhk1 ?qhk2 ?qhk3 ?qhk4 ?qhkf ?_; (case qhk3 => assumption); (case qhk2 => assumption); (case qhk1 => assumption); (case qhk4 => assumption); (case qhkf => exact rfl); k_whole); intro h' R' U'; (try dsimp only at R' U' ⊢))))
  k_with "call ref" => ((k_here; (with_reducible show wpAny _ _ (call (Value.ref 253) _) _ _ _); k_dflt (refine wpAny_call ?_; refine' enterS ?qhk1 ?qhk2 ?qhk3 ?qhk4 ?qhk5 ?qhXB ?qhTB ?qhD ?qhT0 ?qhkA ?qhkf ?qhkK ?qhk6 ?qhk7 ?qhk8 ?qhk9 ?qhkB ?_ ?qhc2 ?qhc3 ?qhc4 ?qhc5; (case qhkA => exact rfl); (case qhkf => exact rfl); (case qhkK => exact rfl); (case qhk1 => k_asm); (case qhk2 => k_asm); (case qhk3 => k_asm); (case qhk4 => k_asm); (case qhk5 => k_asm); (case qhXB => with_reducible assumption); (case qhTB => with_reducible assumption); (case qhD => first | with_reducible assumption | assumption); (case qhT0 => first | assumption | exact KtsTurn.refl); (case qhk6 => k_is); (case qhk7 => k_is); (case qhk8 => ktr_room); (case qhk9 => exact BindsTo.of_eq rfl); (case qhkB => exact locs rfl); (case qhc2 => exact rfl); (case qhc3 => exact rfl); (case qhc4 => exact rfl); (case qhc5 => decide); k_whole; intro g' L' h' FG' F' N' B' X' T' D'; (try dsimp only); (try k_lift B'); (try k_fold))))
  k_with "call ref" => ((k_here; (with_reducible show wpAny _ _ (call (Value.ref 239) _) _ _ _); k_dflt (refine' take_u ?qhk1 ?qhk2 ?qhk3 ?qhk4 ?qhk5 ?qhU ?qhkK ?qha0 ?qhb0 ?qhb1 ?qht0 ?qht1 ?qhkd ?qhku ?_; (case qhk1 => k_asm); (case qhk2 => k_asm); (case qhk3 => k_asm); (case qhk4 => k_asm); (case qhU => k_updF); (case qhk5 => k_asm); (case qhkK => first | exact rfl | assumption); (case qha0 => first | assumption | omega); (case qhb0 => first | assumption | omega); (case qhb1 => first | assumption | omega); (case qht0 => omega); (case qht1 => omega); (case qhkd => ktr_room); (case qhku => walk_at "my units"); k_whole); intro v' a' b' t' ta' tb' h' tk' hv0 hv1 ha' hb' hb1' F' ol' N'; (try dsimp only at N'); (try k_sweep)))
  k_with "my units" => (first | exact Nat.lt_of_succ_le (Nat.le_of_ble_eq_true rfl) | ((try simp only [cLine, units_in1, units_deeper, Around.mark_units, units_caller, ktrTop]); omega) | ktr_units)
  k_with "my enterC0" => ((refine' enterC0 ?qhk1 ?qhk2 ?qhk3 ?qhk4 ?qhk5 ?qhkA ?qhkf ?qhkK ?qhk6 ?qhk7 ?qhk8 ?qhk9 ?qhkB ?qhkD ?_ ?qhc2 ?qhc3 ?qhc4; (case qhkA => exact rfl); (case qhkf => exact rfl); (case qhkK => first | exact rfl | assumption); (case qhk1 => k_asm); (case qhk2 => k_asm); (case qhk3 => k_asm); (case qhk4 => k_asm); (case qhk5 => k_asm); (case qhk6 => k_is); (case qhk7 => k_is); (case qhk8 => ktr_room); (case qhk9 => exact BindsTo.of_eq rfl); (case qhkB => exact rfl); (case qhkD => decide +kernel); (case qhc2 => exact rfl); (case qhc3 => exact rfl); (case qhc4 => exact rfl); k_whole; intro g' L' h' tk' cells' FG' F' N' Y' B' X' T' D' l1; (try k_lt l1); k_cells Y'; (try simp only [List.cons_append, List.nil_append] at N'); (try dsimp only); (try k_lift B'); (try k_fold)))
  k_with "my k_room" => (ktr_room)
  k_with "callWith ref" => ((k_here; k_dflt (refine' callWith_K ?qhk1 ?qhk2 ?_; (case qhk1 => k_asm); (case qhk2 => k_is); k_whole)))
  k_with "my mem" => (first | with_reducible apply List.mem_cons_self | (with_reducible apply List.mem_cons_of_mem; walk_at "my mem"))
  k_with "my memD" => (first | apply List.mem_cons_self | (with_reducible apply List.mem_cons_of_mem; walk_at "my memD"))
  k_with "my all" => (first | with_reducible assumption | with_reducible apply List.forall_mem_nil | (with_reducible apply forall_cons; (k_ne); (walk_at "my all")))
  k_with "call type:bytes" => ((k_here; (with_reducible show wpAny _ _ (call (Value.type "bytes") [Value.bytes _ _]) _ _ _); k_dflt (refine call_bytes_bytes ?_)))
  k_with "call type:bytes" => ((k_here; (with_reducible show wpAny _ _ (call (Value.type "bytes") [Value.int _ _]) _ _ _); k_dflt (refine' call_bytes_int ?qhh0 ?qhh1 ?_; (case qhh0 => omega); (case qhh1 => omega); k_whole); intro _ _ _ _ hz' hzl' hzr'))
  k_with "my fold" => (((fail_if_success (with_reducible show wpAny _ _ _ qk _ _)); first | ((with_reducible show wpAny _ _ _ _ ek _); refine fold_q ?_; k_dflt (intro qk)) | (refine fold_wp ?_; k_dflt (intro qk ek))))
  k_with "my on" => (skip)
  k_with "my each" => (first | ((with_reducible show Each _ _ (List.cons _ _)); k_dflt (intro _); walk_at "my each") | ((with_reducible show Each _ _ List.nil); refine each_nil ?_) | skip)
  k_with "my eachN" => (first | ((with_reducible show EachN _ _ (List.cons _ _)); k_dflt (intro _); walk_at "my eachN") | ((with_reducible show EachN _ _ List.nil); refine eachN_nil ?_) | skip)
  k_with "my und" => ((first | (first | with_reducible assumption | with_reducible exact Und.self | with_reducible exact Nxt.und (by assumption) | (with_reducible refine Und.trans ?_ (by assumption); with_reducible assumption)) | (with_reducible refine Nxt.und2 (by assumption) ?_; (first | with_reducible assumption | with_reducible exact Und.self | with_reducible exact Nxt.und (by assumption) | (with_reducible refine Und.trans ?_ (by assumption); with_reducible assumption))) | (first | with_reducible assumption | with_reducible exact Und.self | with_reducible exact Nxt.und (by assumption) | (with_reducible refine Und.up ?_; (first | with_reducible assumption | with_reducible exact Und.self | with_reducible exact Nxt.und (by assumption) | (with_reducible refine Und.up ?_; (first | with_reducible assumption | with_reducible exact Und.self | with_reducible exact Nxt.und (by assumption) | (with_reducible refine Und.up ?_; (first | with_reducible assumption | with_reducible exact Und.self | with_reducible exact Nxt.und (by assumption) | (with_reducible refine Und.up ?_; (first | with_reducible assumption | with_reducible exact Und.self | with_reducible exact Nxt.und (by assumption) | (with_reducible refine Und.up ?_; (first | with_reducible assumption | with_reducible exact Und.self | with_reducible exact Nxt.und (by assumption) | (with_reducible refine Und.up ?_; (first | with_reducible assumption | with_reducible exact Und.self | with_reducible exact Nxt.und (by assumption) | (with_reducible refine Und.up ?_; (first | with_reducible assumption | with_reducible exact Und.self | with_reducible exact Nxt.und (by assumption) | (with_reducible refine Und.up ?_; (first | with_reducible assumption | with_reducible exact Und.self | with_reducible exact Nxt.und (by assumption))))))))))))))))))))
  k_with "my le" => (((try dsimp only); first | exact Nat.le_refl _ | exact Und.le2 (by with_reducible assumption) | exact Und.le (by walk_at "my und")))
  k_with "my ne" => (((try dsimp only); first | exact Und.ne (by with_reducible assumption) | exact Und.ne2 (by with_reducible assumption) | exact Dif.ne (by with_reducible assumption) | exact Dif.ne2 (by with_reducible assumption) | exact Nat.ne_of_beq_eq_false rfl | with_reducible assumption | exact Ne.symm (by with_reducible assumption) | exact Und.ne (by walk_at "my und") | exact Und.ne2 (by walk_at "my und")))
  k_with "my eachA" => (first | ((with_reducible show Each _ _ (List.cons _ _)); k_dflt (intro _); walk_at "my eachA") | ((with_reducible show Each _ _ List.nil); refine each_nil ?_) | skip)
  k_with "my ltall" => (((refine each_of l1 ?_); (walk_at "my eachA"); (try (with_reducible show Each _ _ _); first | refine each_drop (by with_reducible assumption) (fun _ hq' => l1 _ (by repeat (first | with_reducible exact hq' | with_reducible apply List.mem_cons_of_mem))) ?_ | (refine each_tail (fun _ hq' => l1 _ (by repeat (first | with_reducible exact hq' | with_reducible apply List.mem_cons_of_mem))) ?_; k_dflt (intro _))); clear l1))
  k_with "my each" => (first | ((with_reducible show Each _ _ (List.cons (OfNat.ofNat _, _) _)); refine each_skip ?_; walk_at "my each") | ((first | with_reducible show Each _ _ (List.cons (_ + 1 + 1 + 1 + 1 + 1 + 1 + 1, _) _) | with_reducible show Each _ _ (List.cons (I', _) _) | with_reducible show Each _ _ (List.cons (I, _) _)); k_dflt (intro _); walk_at "my each") | ((with_reducible show Each _ _ (List.cons _ _)); refine each_skip ?_; walk_at "my each") | ((with_reducible show Each _ _ List.nil); refine each_nil ?_) | skip)
  k_with "exec Assign" => (k_fold)
  k_with "exec If" => (k_fold)
  k_with "exec Return some" => (k_fold)
  k_with "eval Call" => (k_fold)
  k_with "my tail" => ((intro _ hq'; repeat (first | with_reducible exact hq' | with_reducible apply List.mem_cons_of_mem)))
  k_with "SeqPost" => (dsimp only [SeqPost])
  k_with "exec For Name Tuple cons nil" => ((k_here; (with_reducible show wpAny _ _ (exec (Stmt.For _ _ _ [] _) _) _ _ _); k_dflt (refine for_tupS (by passes_own) (fun _ => rfl) rfl ?_)))
  k_with "my k_all" => (exact allLt_ne2 (by assumption) (by walk_at "my le"))
  k_with "call ref" => ((k_here; (with_reducible show wpAny _ _ (call (Value.ref 246) _) _ _ _); k_dflt (refine' one_i ?qhk1 ?qhk2 ?qhk3 ?qhk4 ?qhk5 ?qhU ?qhhm ?qhhne ?qhkK ?qhhv ?qha0 ?qhb0 ?qhb1 ?qht0 ?qht1 ?qhkd ?qhku ?_; (case qhk1 => k_asm); (case qhk2 => k_asm); (case qhk3 => k_asm); (case qhk4 => k_asm); (case qhU => k_updF); (case qhhm => k_mem); (case qhhne => k_ne); (case qhk5 => k_asm); (case qhkK => first | exact rfl | assumption); (case qhhv => exact four_bd (by decide +kernel) (by decide +kernel) (by decide +kernel)); (case qha0 => assumption); (case qhb0 => assumption); (case qhb1 => assumption); (case qht0 => exact Nat.le_of_ble_eq_true rfl); (case qht1 => exact Nat.le_of_ble_eq_true rfl); (case qhkd => walk_at "my room"); (case qhku => walk_at "my room"); k_whole); intro x' a' b' t' ta' tb' h' tk' hx0' hx1' ha' hb' hb1' F' ol' N'; (try dsimp only at N'); (try k_sweep)))
  k_with "call ref" => ((k_here; (with_reducible show wpAny _ _ (call (Value.ref 272) _) _ _ _); k_dflt (refine' numbers_u ?qhk1 ?qhk2 ?qhk3 ?qhk4 ?qhk5 ?qhU ?qhkK ?qha0 ?qhb0 ?qhb1 ?qhkd ?qhku ?_; (case qhk1 => k_asm); (case qhk2 => k_asm); (case qhk3 => k_asm); (case qhk4 => k_asm); (case qhU => k_updF); (case qhk5 => k_asm); (case qhkK => first | exact rfl | assumption); (case qha0 => assumption); (case qhb0 => assumption); (case qhb1 => assumption); (case qhkd => walk_at "my room"); (case qhku => walk_at "my room"); k_whole); intro D' x0' x1' x2' x3' x4' x5' a' b' t0' t1' t2' t3' t4' t5' ta' tb' h' tk' six' ha' hb' hb1' F' oe' ol' N' o1'; (try ((refine eachN_of o1' ?_); (walk_at "my eachN"); (try (with_reducible show EachN _ _ _); (refine eachN_tail (fun _ hq' => off1_all o1' _ (by repeat (first | with_reducible exact hq' | with_reducible apply List.mem_cons_of_mem))) ?_; k_dflt (intro _))); clear o1')); (try dsimp only at N'); (try k_sweep)))
  k_with "call ref" => ((k_here; (with_reducible show wpAny _ _ (call (Value.ref 279) _) _ _ _); k_dflt (first | (refine' made_six ?qhk1 ?qhk2 ?qhk3 ?qhk4 ?qhk5 ?qhkK ?qhkd ?qhku ?qhm1 ?_; (case qhk1 => k_asm); (case qhk2 => k_asm); (case qhk3 => k_asm); (case qhk4 => k_asm); (case qhk5 => k_asm); (case qhkK => first | exact rfl | assumption); (case qhkd => walk_at "my room"); (case qhku => walk_at "my room"); (case qhm1 => k_mem); k_whole) | (refine' made_u ?qhk1 ?qhk2 ?qhk3 ?qhk4 ?qhk5 ?qhkK ?qhkd ?qhku ?qhm1 ?qhhvs ?qhhns ?_; (case qhk1 => k_asm); (case qhk2 => k_asm); (case qhk3 => k_asm); (case qhk4 => k_asm); (case qhk5 => k_asm); (case qhkK => first | exact rfl | assumption); (case qhkd => walk_at "my room"); (case qhku => walk_at "my room"); (case qhm1 => k_mem); (case qhhvs => first | assumption | l_ints); (case qhhns => walk_at "my six"); k_whole)); intro x' d' k0' k1' k2' k3' k4' k5' k6' k7' k8' k9' u0' u1' u2' u3' u4' u5' h' tk' F' od' N' l1 l2; (try k_lt l1); (try k_lt2 l2); (try k_sweep)))
  k_with "call ref" => ((k_here; (with_reducible show wpAny _ _ (call (Value.ref 150) _) _ _ _); k_dflt ((refine' flags_u ?qhk1 ?qhk2 ?qhk3 ?qhk4 ?qhk5 ?qhkK ?qhkd ?qhku ?qhm1 ?qhm2 ?qhf0 ?qhf1 ?_; (case qhk1 => k_asm); (case qhk2 => k_asm); (case qhk3 => k_asm); (case qhk4 => k_asm); (case qhk5 => k_asm); (case qhkK => first | exact rfl | assumption); (case qhkd => walk_at "my room"); (case qhku => walk_at "my room"); (case qhm1 => k_mem); (case qhm2 => k_mem); (case qhf0 => walk_at "my f0"); (case qhf1 => walk_at "my f1"); k_whole)); intro h' t' tk' F' N'; (try k_sweep)))
  k_with "call ref" => ((k_here; (with_reducible show wpAny _ _ (call (Value.ref 218) _) _ _ _); k_dflt ((refine' part_u ?qhk1 ?qhk2 ?qhk3 ?qhk4 ?qhk5 ?qhkK ?qhkd ?qhku ?qhm1 ?qhm2 ?_; (case qhk1 => k_asm); (case qhk2 => k_asm); (case qhk3 => k_asm); (case qhk4 => k_asm); (case qhk5 => k_asm); (case qhkK => first | exact rfl | assumption); (case qhkd => walk_at "my room"); (case qhku => walk_at "my room"); (case qhm1 => k_mem); (case qhm2 => k_mem); k_whole)); intro x' d' k0' k1' k2' k3' k4' k5' k6' k7' k8' k9' h' tk' F' od' N' l1 l2; (try k_lt l1); (try k_lt2 l2); (try k_sweep)))
  k_with "my f0" => (exact (far_of (by assumption) (by assumption)).2.1)
  k_with "my f1" => (exact (far_of (by assumption) (by assumption)).2.2)
  k_with "call ref" => ((k_here; (with_reducible show wpAny _ _ (call (Value.ref 115) _) _ _ _); k_dflt ((refine' row_u ?qhk1 ?qhk2 ?qhk3 ?qhk4 ?qhk5 ?qhkK ?qhkd ?qhku ?qhm1 ?qhm2 ?_; (case qhk1 => k_asm); (case qhk2 => k_asm); (case qhk3 => k_asm); (case qhk4 => k_asm); (case qhk5 => k_asm); (case qhkK => first | exact rfl | assumption); (case qhkd => walk_at "my room"); (case qhku => walk_at "my room"); (case qhm1 => k_mem); (case qhm2 => k_mem); k_whole)); intro D' h' tk' F' ot' N' l1; (try k_lt l1); (try k_sweep)))
  k_with "my same" => (first | exact SameAll.nil | (refine SameAll.cons ?_ ?_; (first | exact SameV.int _ _ _ | exact SameV.bool _ | exact SameV.bytes _ _ rfl | exact SameV.bytes _ _ (bytes_same (by assumption) (by assumption) (by assumption) (by assumption))); walk_at "my same"))
  k_with "compareOp NotEq ref ref" => ((k_here; (with_reducible show wpAny _ _ (compareOp CmpOp.NotEq (Value.ref _) (Value.ref _)) _ _ _); k_dflt (refine' tup_ne_same ?qhN ?qhm1 ?qhm2 ?qhhs ?qhhu ?_; (case qhN => k_asm); (case qhm1 => k_mem); (case qhm2 => k_mem); (case qhhs => walk_at "my same"); (case qhhu => walk_at "my units"); k_whole)))
  k_with "callWith" => (((with_reducible show wpAny _ _ (callWith _ (Prod.fst _) (Prod.snd _) _ _) _ _ _); dsimp only))
  k_with "callWith ref" => (((with_reducible show wpAny _ _ (callWith _ (Prod.fst _) (Prod.snd _) _ _) _ _ _); dsimp only))
  k_with "subscriptTail Name Slice ref ref" => ((k_here; (with_reducible show wpAny _ _ (subscriptTail _ (PySem.Expr.Slice _ _ none _) (Value.ref _) (Value.ref _)) _ _ _); k_dflt (refine' kmk_slice_ints ?qhF ?qhN ?qhl ?qhp ?qhq ?qhi ?qhm ?qhc ?_ ?qhs ?qht ?qhz; (case qhF => k_asm); (case qhN => k_asm); (case qhl => kmk_list); (case qhp => kmk_part); (case qhq => kmk_part); (case qhi => l_ints); (case qhm => first | ((refine' kmk_from ?qhgi ?qhgx); (case qhgi => l_ints); (case qhgx => omega)) | ((refine' kmk_upto ?qhgi ?qhgx); (case qhgi => l_ints); (case qhgx => omega))); (case qhc => exact rfl); (case qhs => with_unfolding_all rfl); (case qht => kmk_pure); (case qhz => kmk_size)); intro D' ws' h' F' N' l1 hI' hC' hL'; clear hC' hL'; (try k_lt l1); (try k_sweep)))
  k_with "binaryOp Add ref ref" => ((k_here; (with_reducible show wpAny _ _ (binaryOp Operator.Add (Value.ref _) (Value.ref _)) _ _ _); k_dflt (refine' list_add ?qhF ?qhN ?qhl ?qhb ?qhi ?qhj ?qhz ?_; (case qhF => k_asm); (case qhN => k_asm); (case qhl => k_mem); (case qhb => k_mem); (case qhi => l_ints); (case qhj => l_ints); (case qhz => (simp only [List.length_append, List.length_take, List.length_drop, List.length_cons, List.length_nil]; omega)); k_whole); intro D' h' vs' F' N' l1 hI'; (try k_lt l1); (try k_sweep)))
  k_with "my six" => ((simp only [List.length_append, List.length_take, List.length_drop, List.length_cons, List.length_nil]; omega))
  k_with "my bad" => (first | exact fun h => not_far1 h.2 | exact fun h => not_far2 h.2 | exact fun h => not_far3 h.2 | exact fun h => bent_bad (by assumption) (by assumption) rfl (.inl (by decide)) h | exact fun h => bent_bad (by assumption) (by assumption) rfl (.inr rfl) h)
  k_with "call ref" => ((k_here; (with_reducible show wpAny _ _ (call (Value.ref 239) [_, Value.int 6 _]) _ _ _); k_dflt (refine' take_u ?qhk1 ?qhk2 ?qhk3 ?qhk4 ?qhk5 ?qhU ?qhkK ?qha0 ?qhb0 ?qhb1 ?qht0 ?qht1 ?qhkd ?qhku ?_; (case qhk1 => k_asm); (case qhk2 => k_asm); (case qhk3 => k_asm); (case qhk4 => k_asm); (case qhU => k_updF); (case qhk5 => k_asm); (case qhkK => first | exact rfl | assumption); (case qha0 => first | assumption | omega); (case qhb0 => first | assumption | omega); (case qhb1 => first | assumption | omega); (case qht0 => omega); (case qht1 => omega); (case qhkd => ktr_room); (case qhku => walk_at "my units"); k_whole); intro v' a' b' t' ta' tb' h' tk' hv0 hv1 ha' hb' hb1' F' ol' N'; (try dsimp only at N'); (have hbb' := bits_bd hv0 hv1); (try k_sweep)))
  k_with "callWith ref" => ((k_here; (with_reducible show wpAny _ _ (callWith _ (Value.ref (OfNat.ofNat _)) _ (backTo _ (starEach [] _)) []) _ _ _); k_dflt (refine' callWith_K0 ?qhk1 ?qhk2 ?_; (case qhk1 => exact Frag.In.keeps (by with_reducible assumption) (Fr.keep (by with_reducible assumption))); (case qhk2 => k_is); k_whole); dsimp only [List.nil_append, List.cons_append, List.append_nil]))
  k_with "call ref" => ((k_here; (with_reducible show wpAny _ _ (call (Value.ref 129) _) _ _ _); k_dflt ((refine' within_u ?qhk1 ?qhk2 ?qhk3 ?qhk4 ?qhk5 ?qhkK ?qhkd ?qhku ?qhb0 ?qhb1 ?_; (case qhk1 => k_asm); (case qhk2 => k_asm); (case qhk3 => k_asm); (case qhk4 => k_asm); (case qhk5 => k_asm); (case qhkK => first | exact rfl | assumption); (case qhkd => walk_at "my room"); (case qhku => walk_at "my room"); (case qhb0 => first | decide | omega); (case qhb1 => first | decide | omega); k_whole)); intro h' tk' F' N'; (try k_sweep); refine ⟨fun hw' => ?_, fun hw' => ?_⟩ <;> (try (exfalso; omega))))
  k_with "call ref" => ((k_here; (with_reducible show wpAny _ _ (call (Value.ref 136) _) _ _ _); k_dflt (first | (refine' check_u ?qhk1 ?qhk2 ?qhk3 ?qhXB ?qhTB ?qhk4 ?qhk5 ?qhm1 ?qhm2 ?qhkK ?qhkd ?qhku ?_ ?qhbad; (case qhk1 => k_asm); (case qhk2 => k_asm); (case qhk3 => k_asm); (case qhXB => with_reducible assumption); (case qhTB => with_reducible assumption); (case qhk4 => k_asm); (case qhk5 => k_asm); (case qhm1 => k_mem); (case qhm2 => k_mem); (case qhkK => first | exact rfl | assumption); (case qhkd => walk_at "my room"); (case qhku => walk_at "my room"); (case qhbad => intro hb'; refine absurd ?_ hb'; walk_at "my good"); intro hg' h' tk' F' N'; (try k_sweep)) | (refine' check_u ?qhk1 ?qhk2 ?qhk3 ?qhXB ?qhTB ?qhk4 ?qhk5 ?qhm1 ?qhm2 ?qhkK ?qhkd ?qhku ?qhgood ?_; (case qhk1 => k_asm); (case qhk2 => k_asm); (case qhk3 => k_asm); (case qhXB => with_reducible assumption); (case qhTB => with_reducible assumption); (case qhk4 => k_asm); (case qhk5 => k_asm); (case qhm1 => k_mem); (case qhm2 => k_mem); (case qhkK => first | exact rfl | assumption); (case qhkd => walk_at "my room"); (case qhku => walk_at "my room"); (case qhgood => intro hg'; refine absurd hg' ?_; walk_at "my bad"); intro hb' g' h' e' tk' FG' R' U'))))
  k_with "my good" => (exact ⟨by assumption, far_of (by assumption) (by assumption)⟩)
  k_with "exec For Name List cons nil" => ((k_here; (with_reducible show wpAny _ _ (exec (Stmt.For _ _ _ [] _) _) _ _ _); refine stop_ ?_))
  k_with "eval Lambda" => ((k_here; k_dflt (refine' kla_eval ?qhd0 ?_; (case qhd0 => exact rfl); refine' kla_any ?qhS ?qhF ?qhN ?qhhmid ?qhT ?qhC ?qhcd ?qhU ?qht ?qhn ?qhtt ?qhnn ?qhcl ?qhhz ?qhhI ?qhhoff ?_; (case qhS => assumption); (case qhF => k_asm); (case qhN => k_asm); (case qhhmid => intro _ hq'; repeat (first | with_reducible exact hq' | exact hmr _ hq' | with_reducible apply List.mem_cons_of_mem)); (case qhT => k_asm); (case qhcd => exact rfl); (case qhC => kn_code); (case qhU => k_updF); (case qht => kn_triples); (case qhn => kn_among); (case qhtt => exact fun _ => by kn_triples); (case qhnn => exact fun _ => by kn_hit); (case qhcl => exact rfl); (case qhhoff => assumption); (case qhhI => exact ⟨_, by walk_at "my mem"⟩); (case qhhz => walk_at "my mem"); k_whole); intro f' c' oc' vs' t' ct' h' tk' F' N' d1' d2' l2 l3 l4 l1; (try dsimp only at N'); (try k_lt l1); (try k_sweep)))
  k_with "my allmem" => (first | with_reducible apply List.forall_mem_nil | (with_reducible apply forall_cons; (walk_at "my mem"); (walk_at "my allmem")))
  k_with "SeqEnd" => (k_dflt (refine' loop_end (u := none) ?qhF ?qhN ?qhhm ⟨?qhj1, ?qhj2, ?qhj3, ?qhj4, ?qhj5⟩ ?qhmI ?qhhfix ?qhmV ?qhmB ?qhmT ?qhhps ?qhmc ?qhhrs ?qhmr ?qhdV ?qhdB ?qhd1 ?qhd2 ?qhuc ?qhhmem ?qhofix ?qhuV ?qhuB ?qhuT ?qhorest; (case qhF => k_asm); (case qhN => k_asm); (case qhhm => exact rfl); (case qhj1 => with_reducible assumption); (case qhj2 => with_reducible assumption); (case qhj3 => with_reducible assumption); (case qhj4 => with_reducible assumption); (case qhj5 => with_reducible assumption); (case qhmI => walk_at "my mem"); (case qhhfix => walk_at "my allmem"); (case qhmV => walk_at "my mem"); (case qhmB => walk_at "my mem"); (case qhmT => walk_at "my memD"); (case qhhps => exact rfl); (case qhmc => walk_at "my mem"); (case qhhrs => with_reducible assumption); (case qhmr => walk_at "my tail"); (case qhdV => with_reducible assumption); (case qhdB => with_reducible assumption); (case qhd1 => with_reducible assumption); (case qhd2 => assumption); (case qhuc => with_reducible assumption); (case qhhmem => walk_at "my mem"); (case qhofix => with_reducible assumption); (case qhuV => with_reducible assumption); (case qhuB => with_reducible assumption); (case qhuT => with_reducible assumption); (case qhorest => with_reducible assumption)))
  k_with "my bad" => (first | exact fun h => bent_bad (by assumption) (by assumption) rfl (by assumption) h | exact fun h => absurd h.2 (by assumption))
  k_with "exec Assign" => (((fail_if_success (have := nCut1)); (with_reducible show wpAny _ _ (exec (Stmt.Assign [Expr.Name (Str.ofString "told") _] _ _) _) _ _ _); refine stop_ ?_))
  k_with "exec If" => (((fail_if_success (have := nCut2)); (with_reducible show wpAny _ _ (exec (Stmt.If (Expr.Compare (Expr.Call (Expr.Attribute ..) ..) ..) _ _ _) _) _ _ _); refine stop_ ?_))
  k_with "exec Assign" => (((fail_if_success (have := nCut3)); (fail_if_success (fail_if_success (have := nCut2))); (with_reducible show wpAny _ _ (exec (Stmt.Assign [Expr.Tuple ..] _ _) _) _ _ _); refine stop_ ?_))
  trivial
theorem heads_ret {Q : Value → Shared → Prop} {h₀ : Heap} {L src n : Nat} {m : Str → Option Value} {rest : List (Addr × Obj)} {s : Shared}
    (hret : ∀ (a1 b1 : Int) (ta tb : Tok) (h' : Heap) (tk' : Nat) (t2 : Array Value), 0 ≤ a1 → 0 ≤ b1 → b1 < 2147483647 → Fr h₀ L h' m →
      News h₀ L h' ((src, listOf #[.int a1 ta, .int b1 tb] n) :: (281, tabObj t2) :: rest) → Q (.bool true) { s with heap := h', toks := tk' })
    {a1 b1 : Int} {ta tb : Tok} {h' : Heap} {tk' : Nat} {t2 : Array Value} {all : List (Addr × Obj)} {b : Bool} (hb1 : b = true) (F : Fr h₀ L h' m) (N : News h₀ L h' all)
    (m3 : (src, listOf #[.int a1 ta, .int b1 tb] n) ∈ all) (m4 : (281, tabObj t2) ∈ all) (mf : ∀ q ∈ rest, q ∈ all) (ha : 0 ≤ a1) (hb : 0 ≤ b1) (hb' : b1 < 2147483647) : Q (.bool b) { s with heap := h', toks := tk' } := by
  subst hb1
  exact hret a1 b1 ta tb h' tk' t2 ha hb hb' F (List.forall_mem_cons.mpr ⟨N _ m3, List.forall_mem_cons.mpr ⟨N _ m4, fun q hq => N q (mf q hq)⟩⟩)
theorem heads_c : ∀ (w : World) (p : Program) (loose : List Str) (mean : ExcName → Option Value) (mg mb : Str → Option Value) (dp un : Nat) (gd : Option (List Code)) (cn : Str) (cs : Scope) (a : Addr) (ccd : Value) (cl : List (Str × Addr)) (A₀ : Around) (base h₀ : Heap) (L : Addr) (m : Str → Option Value) (s : Shared) (Q E : Value → Shared → Prop)
    (src : Addr) (a0 b0 : Int) (ta tb : Tok) (n : Nat) (rest : List (Addr × Obj)),
    Below A₀ base [] h₀ → Fr h₀ L s.heap m → (hd.heap_1 w.params).In h₀ → (hd.heap_1 w.params).In base → Top p loose mean mg mb base → CodeHd base 285 281 →
    News h₀ L s.heap ((src, listOf #[.int a0 ta, .int b0 tb] n) :: (281, tabObj #[]) :: rest) → Top p loose mean mg mb h₀ → cs.kind = .function →
    (∀ p ∈ rest, p.1 ≠ src) → (∀ p ∈ rest, p.1 ≠ 281) → 281 < src → 0 ≤ a0 → 0 ≤ b0 → b0 < 2147483647 → dp + 60 < 800 → un + 390 < 9000 →
    (∀ (a1 b1 : Int) (ta tb : Tok) (h' : Heap) (tk' : Nat) (t2 : Array Value), 0 ≤ a1 → 0 ≤ b1 → b1 < 2147483647 → Fr h₀ L h' m →
      News h₀ L h' ((src, listOf #[.int a1 ta, .int b1 tb] n) :: (281, tabObj t2) :: rest) → Q (.bool true) { s with heap := h', toks := tk' }) →
    wpAny (model PySem.Challenge.rw_on0340_01.row.prog w) (ktrTop dp un gd cn cs L a ccd cl []) (call (.ref 286) [.ref src]) Q E s := by
  k_fill
  intro w p loose mean mg mb dp un gd cn cs a ccd cl A₀ base h₀ L m s Q E src a0 b0 ta tb n rest B F X XB TB C9 N T hk hrest hrest2 hs ha0 hb0 hb1 hdp hun hret
  k_lt2 hs
  refine wpAny_call ?_
  w_strict (k_dflt (refine' enterC0 ?k1 ?k2 ?k3 ?k4 ?k5 ?kA ?kf ?kK ?k6 ?k7 ?k8 ?k9 ?kB ?kD ?_ ?c2 ?c3 ?c4; (case kA => exact rfl); (case kf => exact rfl); (case kK => first | exact rfl | assumption); (case k1 => k_asm); (case k2 => k_asm); (case k3 => k_asm); (case k4 => k_asm); (case k5 => k_asm); (case k6 => k_is); (case k7 => k_is); (case k8 => ktr_room); (case k9 => exact BindsTo.of_eq rfl); (case kB => exact rfl); (case kD => decide +kernel); (case c2 => exact rfl); (case c3 => exact rfl); (case c4 => exact rfl)))
  intro g0 L0 h1 tk1 cells' FG' F1 N1 Y' B1 X1 T1 D1 l1
  walk_at "my ltall"
  have e0 : Und (281) (L0 + 1 + 1 + 1 + 1 + 1 + 1 + 1) := by walk_at "my und"
  have e1 : Und (src) (L0 + 1 + 1 + 1 + 1 + 1 + 1 + 1) := by walk_at "my und"
  have e2 : Und (L0 + 1) (L0 + 1 + 1 + 1 + 1 + 1 + 1 + 1) := by walk_at "my und"
  have e3 : Und (L0 + 1 + 1) (L0 + 1 + 1 + 1 + 1 + 1 + 1 + 1) := by walk_at "my und"
  have e4 : Und (L0 + 1 + 1 + 1) (L0 + 1 + 1 + 1 + 1 + 1 + 1 + 1) := by walk_at "my und"
  have e5 : Und (L0 + 1 + 1 + 1 + 1) (L0 + 1 + 1 + 1 + 1 + 1 + 1 + 1) := by walk_at "my und"
  have e6 : Und (L0 + 1 + 1 + 1 + 1 + 1) (L0 + 1 + 1 + 1 + 1 + 1 + 1 + 1) := by walk_at "my und"
  have e7 : Und (L0 + 1 + 1 + 1 + 1 + 1 + 1) (L0 + 1 + 1 + 1 + 1 + 1 + 1 + 1) := by walk_at "my und"
  k_cells Y'
  simp only [List.cons_append, List.nil_append] at N1
  k_lift B1
  dsimp only
  k_steps
  · exfalso; omega
  · exact absurd rfl (by assumption)
  show wpAny _ _ _ _ _ _
  rename News _ _ _ _ => nOld
  have nA := news_mask [false, false, true, true, false, false, false, true, true, true, true, true, true, true, true, true, true] nOld
  dsimp only [maskOf] at nA
  clear nOld
  have nCut1 : True := trivial
  k_steps
  show wpAny _ _ _ _ _ _
  rename News _ _ _ _ => nOld
  have nB := news_mask [false, false, false, false, false, false, true, true, true, true, true, true, true, true, true, true, true, true] nOld
  dsimp only [maskOf] at nB
  clear nOld
  have nCut2 : True := trivial
  k_steps
  show wpAny _ _ _ _ _ _
  rename News _ _ _ _ => nOld
  have nC := news_mask [false, false, false, false, false, false, true, true, true, true, true, true, true, true, true, true] nOld
  dsimp only [maskOf] at nC
  clear nOld
  have nCut3 : True := trivial
  k_steps
  show wpAny _ _ _ _ _ _
  refine for_listS (by passes_own) (fun _ => rfl) rfl ?_
  k_steps
  refine' loop_src (LV := L0 + 1 + 1 + 1 + 1 + 1 + 1) (LB := L0 + 1) (T := 281) (rest := rest) (u := none) (Str.ofString "_law_heads_right.<locals>.<lambda>") 215 21 [true, false, true, true, true, false, true, true, true, true, false, true, false] (JG (ktrTop dp un gd cn cs L a ccd cl []) base [envX cn cs L a ccd cl] (hd.heap_1 w.params) p loose mean mg mb g0) (fun v => ∃ x t, v = .int x t ∧ (x < 0 ∨ x = 2 ^ (([32, 32, 8, 16, 8, 8] : List Int).getD v'.toNat 0).toNat)) (fun _ => _) ?F ?N rfl ?hfix ?hm ?mV ?mB ?dV ?dB ?mT ?mf ?h0 ?hP ?hG ?rV ?rB hrest2 ?turn ?done
  (case F => k_asm); (case N => k_asm); (case hfix => dsimp only [maskT]); (case hm => walk_at "my memD"); (case mV => walk_at "my mem"); (case mB => walk_at "my mem"); (case dV => with_reducible assumption); (case dB => with_reducible assumption); (case mT => walk_at "my memD"); (case mf => walk_at "my tail")
  case h0 => exact List.cons_ne_nil _ _
  case hP => exact List.forall_mem_cons.mpr ⟨⟨_, _, rfl, .inl (by decide)⟩, List.forall_mem_cons.mpr ⟨⟨_, _, rfl, .inr rfl⟩, List.forall_mem_nil _⟩⟩
  case hG => exact ⟨KtsTurn.refl, B1, X1, T1, D1⟩
  case rV => exact allLt_ne2 (by assumption) (by walk_at "my le")
  case rB => exact allLt_ne2 (by assumption) (by walk_at "my le")
  case turn =>
    intro I v u i g ov vv ob vb ps mid rs itr h tk l1 uV uB uT or' hv hG S0 hmr hrr r1 r2 r3 hmI hc dV dB F' N'
    refine foldP ?_
    intro P9
    obtain ⟨x, t, e91, hx⟩ := hv
    obtain ⟨T0, B', X', T', D'⟩ := hG
    k_unfold
    clear P9
    subst e91
    have l9 := l1
    simp only [List.cons_append, List.nil_append] at N'
    walk_at "my ltall"
    k_lift B'
    (try dsimp only)
    (try k_fold)
    k_steps
  case done =>
    intro u g ov vv ob vb c h tk hG dV dB F' N'
    refine foldP ?_
    intro P9
    obtain ⟨T0, B', X', T', D'⟩ := hG
    k_unfold
    clear P9
    simp only [List.cons_append, List.nil_append] at N'
    (try dsimp only)
    (try k_fold)
    k_steps
    show wpAny _ _ _ _ _ _
    refine for_listS (by passes_own) (fun _ => rfl) rfl ?_
    k_steps
    refine' loop_src (LV := L0 + 1 + 1 + 1 + 1 + 1 + 1) (LB := L0 + 1) (T := 281) (rest := rest) (u := none) (Str.ofString "_law_heads_right.<locals>.<lambda>") 220 21 [true, false, true, true, true, true, true, true, true, true, false, false, false] (JG (ktrTop dp un gd cn cs L a ccd cl []) base [envX cn cs L a ccd cl] (hd.heap_1 w.params) p loose mean mg mb g0) (fun v => ∃ x t, v = .int x t ∧ ¬ Far x) (fun _ => _) ?F ?N rfl ?hfix ?hm ?mV ?mB ?dV ?dB ?mT ?mf ?h0 ?hP ?hG ?rV ?rB hrest2 ?turn ?done
    (case F => k_asm); (case N => k_asm); (case hfix => dsimp only [maskT]); (case hm => walk_at "my memD"); (case mV => walk_at "my mem"); (case mB => walk_at "my mem"); (case dV => with_reducible assumption); (case dB => with_reducible assumption); (case mT => walk_at "my memD"); (case mf => walk_at "my tail")
    case h0 => exact List.cons_ne_nil _ _
    case hP => exact List.forall_mem_cons.mpr ⟨⟨_, _, rfl, not_far1⟩, List.forall_mem_cons.mpr ⟨⟨_, _, rfl, not_far2⟩, List.forall_mem_cons.mpr ⟨⟨_, _, rfl, not_far3⟩, List.forall_mem_nil _⟩⟩⟩
    case hG => exact ⟨T0, B', X', T', D'⟩
    case rV => exact allLt_ne2 (by assumption) (by walk_at "my le")
    case rB => exact allLt_ne2 (by assumption) (by walk_at "my le")
    case turn =>
      intro I v u i g ov vv ob vb ps mid rs itr h tk l1 uV uB uT or' hv hG S0 hmr hrr r1 r2 r3 hmI hc dV dB F' N'
      refine foldP ?_
      intro P9
      obtain ⟨x, t, e91, hx⟩ := hv
      obtain ⟨T0, B', X', T', D'⟩ := hG
      k_unfold
      clear P9
      subst e91
      have l9 := l1
      simp only [List.cons_append, List.nil_append] at N'
      walk_at "my ltall"
      k_lift B'
      (try dsimp only)
      (try k_fold)
      k_steps
    case done =>
      intro u g ov vv ob vb c h tk hG dV dB F' N'
      refine foldP ?_
      intro P9
      obtain ⟨T0, B', X', T', D'⟩ := hG
      k_unfold
      clear P9
      simp only [List.cons_append, List.nil_append] at N'
      (try dsimp only)
      (try k_fold)
      k_steps
      all_goals (
        refine' heads_ret hret ?zze ?zzF ?zzN ?zzm ?zzn ?zzf ?zza ?zzb ?zzc
        (case zzN => assumption); (case zzF => assumption)
        (case zzm => walk_at "my mem"); (case zzn => walk_at "my memD"); (case zzf => walk_at "my tail")
        (case zze => first | exact rfl | exact decide_eq_true (by omega))
        (case zza => assumption); (case zzb => assumption); (case zzc => assumption))
end

section
open PySem PySem.W PyProof.Rows PySem.Spec PySem.Calls
theorem wordsCsx1 : True := by
  k_with_none
  w_top off
  k_with "my k_all" => (with_reducible assumption)
  k_with "exec Raise some none" => ((k_here; (with_reducible show wpAny _ _ (exec (Stmt.Raise (some _) none _) _) _ _ _); k_dflt (refine exec_raise ?qhh0 ?_; (case qhh0 => first | rfl | assumption))))
  k_with "call ref" => ((k_here; (with_reducible show wpAny _ _ (call (Value.ref _) [Value.str _ _]) (fun v s₁ => Rd s₁ v ∧ _) _ _); k_dflt (refine' exc_rd (t := _) ?qhX ?qhhh ?qhhd ?qhhu ?qhhC ?_; (case qhhC => first | exact Or.inl rfl | exact Or.inr rfl); (case qhX => k_in); (case qhhh => first | rfl | assumption); (case qhhd => walk_at "my room"); (case qhhu => walk_at "my room"); k_whole); intro h' e' tk' x'))
  k_with "my room" => (first
  | exact Nat.le_of_ble_eq_true rfl
  | ((try simp only [depth_mark, depth_under_make, depth_under_kw, depth_in1, depth_deeper, units_in1, units_deeper, Around.mark_units, units_caller, ktrTop]); omega))
  k_with "leaving ref" => ((k_here; (with_reducible show wpAny _ _ (leaving _ (Value.ref _)) _ _ _); first
  | (k_dflt (refine' leave_newX ?qhk1 ?qhk0 ?qhk2 ?qhk3 ?qhkf ?qhkk ?_; (case qhk0 => assumption); (case qhk2 => assumption); (case qhk1 => assumption); (case qhk3 => k_asm); (case qhkf => exact rfl); (case qhkk => exact rfl); k_whole); intro h' R' U'; (try dsimp only at R' U' ⊢))
  | (k_dflt (refine' leave_onX ?qhk1 ?qhk2 ?qhk3 ?qhk4 ?qhkf ?_; (case qhk3 => assumption); (case qhk2 => assumption); (case qhk1 => assumption); (case qhk4 => assumption); (case qhkf => exact rfl); k_whole); intro h' R' U'; (try dsimp only at R' U' ⊢))))
  k_with "call ref" => ((k_here; (with_reducible show wpAny _ _ (call (Value.ref 253) _) _ _ _); k_dflt (refine wpAny_call ?_; refine' enterS ?qhk1 ?qhk2 ?qhk3 ?qhk4 ?qhk5 ?qhXB ?qhTB ?qhD ?qhT0 ?qhkA ?qhkf ?qhkK ?qhk6 ?qhk7 ?qhk8 ?qhk9 ?qhkB ?_ ?qhc2 ?qhc3 ?qhc4 ?qhc5; (case qhkA => exact rfl); (case qhkf => exact rfl); (case qhkK => exact rfl); (case qhk1 => k_asm); (case qhk2 => k_asm); (case qhk3 => k_asm); (case qhk4 => k_asm); (case qhk5 => k_asm); (case qhXB => with_reducible assumption); (case qhTB => with_reducible assumption); (case qhD => first | with_reducible assumption | assumption); (case qhT0 => first | assumption | exact KtsTurn.refl); (case qhk6 => k_is); (case qhk7 => k_is); (case qhk8 => ktr_room); (case qhk9 => exact BindsTo.of_eq rfl); (case qhkB => exact locs rfl); (case qhc2 => exact rfl); (case qhc3 => exact rfl); (case qhc4 => exact rfl); (case qhc5 => decide); k_whole; intro g' L' h' FG' F' N' B' X' T' D'; (try dsimp only); (try k_lift B'); (try k_fold))))
  k_with "call ref" => ((k_here; (with_reducible show wpAny _ _ (call (Value.ref 239) _) _ _ _); k_dflt (refine' take_u ?qhk1 ?qhk2 ?qhk3 ?qhk4 ?qhk5 ?qhU ?qhkK ?qha0 ?qhb0 ?qhb1 ?qht0 ?qht1 ?qhkd ?qhku ?_; (case qhk1 => k_asm); (case qhk2 => k_asm); (case qhk3 => k_asm); (case qhk4 => k_asm); (case qhU => k_updF); (case qhk5 => k_asm); (case qhkK => first | exact rfl | assumption); (case qha0 => first | assumption | omega); (case qhb0 => first | assumption | omega); (case qhb1 => first | assumption | omega); (case qht0 => omega); (case qht1 => omega); (case qhkd => ktr_room); (case qhku => walk_at "my units"); k_whole); intro v' a' b' t' ta' tb' h' tk' hv0 hv1 ha' hb' hb1' F' ol' N'; (try dsimp only at N'); (try k_sweep)))
  k_with "my units" => (first | exact Nat.lt_of_succ_le (Nat.le_of_ble_eq_true rfl) | ((try simp only [cLine, units_in1, units_deeper, Around.mark_units, units_caller, ktrTop]); omega) | ktr_units)
  k_with "my enterC0" => ((refine' enterC0 ?qhk1 ?qhk2 ?qhk3 ?qhk4 ?qhk5 ?qhkA ?qhkf ?qhkK ?qhk6 ?qhk7 ?qhk8 ?qhk9 ?qhkB ?qhkD ?_ ?qhc2 ?qhc3 ?qhc4; (case qhkA => exact rfl); (case qhkf => exact rfl); (case qhkK => first | exact rfl | assumption); (case qhk1 => k_asm); (case qhk2 => k_asm); (case qhk3 => k_asm); (case qhk4 => k_asm); (case qhk5 => k_asm); (case qhk6 => k_is); (case qhk7 => k_is); (case qhk8 => ktr_room); (case qhk9 => exact BindsTo.of_eq rfl); (case qhkB => exact rfl); (case qhkD => decide +kernel); (case qhc2 => exact rfl); (case qhc3 => exact rfl); (case qhc4 => exact rfl); k_whole; intro g' L' h' tk' cells' FG' F' N' Y' B' X' T' D' l1; (try k_lt l1); k_cells Y'; (try simp only [List.cons_append, List.nil_append] at N'); (try dsimp only); (try k_lift B'); (try k_fold)))
  k_with "my k_room" => (ktr_room)
  k_with "callWith ref" => ((k_here; k_dflt (refine' callWith_K ?qhk1 ?qhk2 ?_; (case qhk1 => k_asm); (case qhk2 => k_is); k_whole)))
  k_with "my mem" => (first | with_reducible apply List.mem_cons_self | (with_reducible apply List.mem_cons_of_mem; walk_at "my mem"))
  k_with "my memD" => (first | apply List.mem_cons_self | (with_reducible apply List.mem_cons_of_mem; walk_at "my memD"))
  k_with "my all" => (first | with_reducible assumption | with_reducible apply List.forall_mem_nil | (with_reducible apply forall_cons; (k_ne); (walk_at "my all")))
  k_with "call type:bytes" => ((k_here; (with_reducible show wpAny _ _ (call (Value.type "bytes") [Value.bytes _ _]) _ _ _); k_dflt (refine call_bytes_bytes ?_)))
  k_with "call type:bytes" => ((k_here; (with_reducible show wpAny _ _ (call (Value.type "bytes") [Value.int _ _]) _ _ _); k_dflt (refine' call_bytes_int ?qhh0 ?qhh1 ?_; (case qhh0 => omega); (case qhh1 => omega); k_whole); intro _ _ _ _ hz' hzl' hzr'))
  k_with "my fold" => (((fail_if_success (with_reducible show wpAny _ _ _ qk _ _)); first | ((with_reducible show wpAny _ _ _ _ ek _); refine fold_q ?_; k_dflt (intro qk)) | (refine fold_wp ?_; k_dflt (intro qk ek))))
  k_with "exec Assign" => (k_fold)
  k_with "exec If" => (k_fold)
  k_with "exec Return some" => (k_fold)
  k_with "eval Call" => (k_fold)
  k_with "my tail" => ((intro _ hq'; repeat (first | with_reducible exact hq' | with_reducible apply List.mem_cons_of_mem)))
  k_with "my off" => (first | with_reducible assumption | with_reducible apply List.forall_mem_nil | (with_reducible apply forall_cons; (k_ne); (walk_at "my off")) | exact allOf (by assumption) (by walk_at "my tail"))
  k_with "my cut" => (first | with_reducible exact Cut.head | (with_reducible apply Cut.tail; walk_at "my cut"))
  k_with "SeqSrc" => ((k_dflt (refine' SeqSrc.of ?qhF ?qhN ?qhhm ?_; (case qhF => k_asm); (case qhN => k_asm); (case qhhm => k_mem); k_whole); intro I' l1; have l9' := l1; (try first | walk_at "my ltall" | k_lt l1)))
  k_with "SeqRest" => ((k_dflt (first | (refine SeqRest.cons ?_; intro it' h' tk' hc' F' N') | (refine SeqRest.nil ?_; intro h' tk' F' N')); (try k_sweep)))
  k_with "SeqPost" => (dsimp only [SeqPost])
  k_with "SeqEnd" => ((k_dflt (refine' SeqEnd.cut ?qhF ?qhN ?qhc ?qhhm ?qhoff ?_; (case qhF => k_asm); (case qhN => k_asm); (case qhc => walk_at "my cut"); (case qhhm => k_mem); (case qhoff => walk_at "my off"); k_whole)))
  k_with "exec For Name Tuple cons nil" => ((k_here; (with_reducible show wpAny _ _ (exec (Stmt.For _ _ _ [] _) _) _ _ _); k_dflt (refine for_tupS (by passes_own) (fun _ => rfl) rfl ?_)))
  k_with "exec For Name List cons nil" => ((k_here; (with_reducible show wpAny _ _ (exec (Stmt.For _ _ _ [] _) _) _ _ _); k_dflt (refine for_listS (by passes_own) (fun _ => rfl) rfl ?_)))
  k_with "callWith" => (((with_reducible show wpAny _ _ (callWith _ (Prod.fst _) (Prod.snd _) _ _) _ _ _); dsimp only))
  k_with "callWith ref" => (((with_reducible show wpAny _ _ (callWith _ (Prod.fst _) (Prod.snd _) _ _) _ _ _); dsimp only))
  k_with "subscriptTail Name Slice ref ref" => ((k_here; (with_reducible show wpAny _ _ (subscriptTail _ (PySem.Expr.Slice _ _ none _) (Value.ref _) (Value.ref _)) _ _ _); k_dflt (refine' kmk_slice_ints ?qhF ?qhN ?qhl ?qhp ?qhq ?qhi ?qhm ?qhc ?_ ?qhs ?qht ?qhz; (case qhF => k_asm); (case qhN => k_asm); (case qhl => kmk_list); (case qhp => kmk_part); (case qhq => kmk_part); (case qhi => l_ints); (case qhm => first | ((refine' kmk_from ?qhgi ?qhgx); (case qhgi => l_ints); (case qhgx => omega)) | ((refine' kmk_upto ?qhgi ?qhgx); (case qhgi => l_ints); (case qhgx => omega))); (case qhc => exact rfl); (case qhs => with_unfolding_all rfl); (case qht => kmk_pure); (case qhz => kmk_size)); intro D' ws' h' F' N' l1 hI' hC' hL'; clear hC' hL'; (try k_lt l1); (try k_sweep)))
  k_with "binaryOp Add ref ref" => ((k_here; (with_reducible show wpAny _ _ (binaryOp Operator.Add (Value.ref _) (Value.ref _)) _ _ _); k_dflt (refine' list_add ?qhF ?qhN ?qhl ?qhb ?qhi ?qhj ?qhz ?_; (case qhF => k_asm); (case qhN => k_asm); (case qhl => k_mem); (case qhb => k_mem); (case qhi => l_ints); (case qhj => l_ints); (case qhz => (simp only [List.length_append, List.length_take, List.length_drop, List.length_cons, List.length_nil]; omega)); k_whole); intro D' h' vs' F' N' l1 hI'; (try k_lt l1); (try k_sweep)))
  k_with "my six" => ((simp only [List.length_append, List.length_take, List.length_drop, List.length_cons, List.length_nil]; omega))
  k_with "my bad" => (first | exact fun h => not_far1 h.2 | exact fun h => not_far2 h.2 | exact fun h => not_far3 h.2 | exact fun h => bent_bad (by assumption) (by assumption) rfl (.inl (by decide)) h | exact fun h => bent_bad (by assumption) (by assumption) rfl (.inr rfl) h)
  k_with "call ref" => ((k_here; (with_reducible show wpAny _ _ (call (Value.ref 239) [_, Value.int 6 _]) _ _ _); k_dflt (refine' take_u ?qhk1 ?qhk2 ?qhk3 ?qhk4 ?qhk5 ?qhU ?qhkK ?qha0 ?qhb0 ?qhb1 ?qht0 ?qht1 ?qhkd ?qhku ?_; (case qhk1 => k_asm); (case qhk2 => k_asm); (case qhk3 => k_asm); (case qhk4 => k_asm); (case qhU => k_updF); (case qhk5 => k_asm); (case qhkK => first | exact rfl | assumption); (case qha0 => first | assumption | omega); (case qhb0 => first | assumption | omega); (case qhb1 => first | assumption | omega); (case qht0 => omega); (case qht1 => omega); (case qhkd => ktr_room); (case qhku => walk_at "my units"); k_whole); intro v' a' b' t' ta' tb' h' tk' hv0 hv1 ha' hb' hb1' F' ol' N'; (try dsimp only at N'); (have hbb' := bits_bd hv0 hv1); (try k_sweep)))
  k_with "callWith ref" => ((k_here; (with_reducible show wpAny _ _ (callWith _ (Value.ref (OfNat.ofNat _)) _ (backTo _ (starEach [] _)) []) _ _ _); k_dflt (refine' callWith_K0 ?qhk1 ?qhk2 ?_; (case qhk1 => exact Frag.In.keeps (by with_reducible assumption) (Fr.keep (by with_reducible assumption))); (case qhk2 => k_is); k_whole); dsimp only [List.nil_append, List.cons_append, List.append_nil]))
  trivial
theorem csize_c : ∀ (w : World) (p : Program) (loose : List Str) (mean : ExcName → Option Value) (mg mb : Str → Option Value) (dp un : Nat) (gd : Option (List Code)) (cn : Str) (cs : Scope) (a : Addr) (ccd : Value) (cl : List (Str × Addr)) (outer : List Env) (A₀ : Around) (base h₀ : Heap) (L : Addr) (m : Str → Option Value) (s : Shared) (Q E : Value → Shared → Prop)
    (rest : List (Addr × Obj)) (hx hx2 : Addr) (k0 k1 k2 k3 k4 k5 k6 k7 k8 k9 u0 u1 u2 u3 u4 u5 u6 t9 tp : Tok) (x0 x1 x2 x3 x4 x5 f : Int) (b6 b7 : Bool) (b9 pb : Array UInt8) (n : Nat) (zs ys : List Int),
    Below A₀ base outer h₀ → Fr h₀ L s.heap m → (hd.heap_1 w.params).In h₀ → (hd.heap_1 w.params).In base → Top p loose mean mg mb base → News h₀ L s.heap ((hx, instObj 118 hx2) :: (hx2, headDict w k0 k1 k2 k3 k4 k5 k6 k7 k8 k9 (.int x0 u0) (.int x1 u1) (.int x2 u2) (.int x3 u3) (.int x4 u4) (.int x5 u5) (.bool b6) (.bool b7) (.int f u6) (.bytes b9 t9) n) :: rest) → Top p loose mean mg mb h₀ → cs.kind = .function →
    dp + 20 < 800 → un + 90 < 9000 → KBw.bInts b9 = zs → KBw.bInts pb = ys → zs.length ≤ 100 → ys.length ≤ 100000 →
    (zs.length % 4 = 0 ∧ zs.length ≤ 40 ∧ 20 + zs.length + ys.length ≤ 65535 → ∀ (h' : Heap) (tk' : Nat), Fr h₀ L h' m → News h₀ L h' ((hx, instObj 118 hx2) :: (hx2, headDict w k0 k1 k2 k3 k4 k5 k6 k7 k8 k9 (.int x0 u0) (.int x1 u1) (.int x2 u2) (.int x3 u3) (.int x4 u4) (.int x5 u5) (.bool b6) (.bool b7) (.int f u6) (.bytes b9 t9) n) :: rest) → Q .none { s with heap := h', toks := tk' }) →
    (¬ (zs.length % 4 = 0 ∧ zs.length ≤ 40 ∧ 20 + zs.length + ys.length ≤ 65535) → ∀ (g' h' : Heap) (e : Addr) (tk' : Nat), Fr h₀ L g' m → RaisedSN base g' (envX cn cs L a ccd cl :: outer) e (.ref 63) ((hx, instObj 118 hx2) :: (hx2, headDict w k0 k1 k2 k3 k4 k5 k6 k7 k8 k9 (.int x0 u0) (.int x1 u1) (.int x2 u2) (.int x3 u3) (.int x4 u4) (.int x5 u5) (.bool b6) (.bool b7) (.int f u6) (.bytes b9 t9) n) :: rest) h' → g'.UpToSlots h' → E (.ref e) { s with heap := h', toks := tk' }) →
    wpAny (model PySem.Challenge.rw_on0340_01.row.prog w) (ktrTop dp un gd cn cs L a ccd cl outer) (call (.ref 143) [.ref hx, .bytes pb tp]) Q E s := by
  k_fill
  intro w p loose mean mg mb dp un gd cn cs a ccd cl outer A₀ base h₀ L m s Q E rest hx hx2 k0 k1 k2 k3 k4 k5 k6 k7 k8 k9 u0 u1 u2 u3 u4 u5 u6 t9 tp x0 x1 x2 x3 x4 x5 f b6 b7 b9 pb n zs ys B F X XB TB N T hk hdp hun hzs hys hz1 hy1 hgood hbad
  refine wpAny_call ?_
  k_dflt cell_enter
  have hfm : (zs.length : Int).fmod 4 = ((zs.length % 4 : Nat) : Int) := by rw [Int.fmod_eq_emod_of_nonneg _ (by decide : (0 : Int) ≤ 4)]; omega
  k_steps
  all_goals first
    | (refine' ck_bad hbad ?F ?R ?U ?sub ?c; (case R => assumption); (case F => assumption); (case U => assumption); (case sub => walk_at "my tail"); (case c => intro hc; omega))
    | (refine' ck_good hgood ?F ?N ?sub ?c; (case F => assumption); (case N => assumption); (case sub => walk_at "my tail"); (case c => exact ⟨by omega, by omega, by omega⟩))
section
variable {w : World} {p : Program} {loose : List Str} {mean : ExcName → Option Value} {mg mb : Str → Option Value} {dp un : Nat} {gd : Option (List Code)} {cn : Str} {cs : Scope} {a : Addr} {ccd : Value} {cl : List (Str × Addr)} {outer : List Env} {A₀ : Around} {base h₀ : Heap} {L : Addr} {m : Str → Option Value} {s : Shared} {Q E : Value → Shared → Prop}
    {news : List (Addr × Obj)} {hx hx2 : Addr} {k0 k1 k2 k3 k4 k5 k6 k7 k8 k9 u0 u1 u2 u3 u4 u5 u6 t9 tp : Tok} {x0 x1 x2 x3 x4 x5 f : Int} {b6 b7 : Bool} {b9 pb : Array UInt8} {n : Nat} {zs ys : List Int}
theorem csize_u (B : Below A₀ base outer h₀) (F : Fr h₀ L s.heap m) (X : (hd.heap_1 w.params).In h₀) (XB : (hd.heap_1 w.params).In base) (TB : Top p loose mean mg mb base) (N : News h₀ L s.heap news) (T : Top p loose mean mg mb h₀)
    (m1 : (hx, instObj 118 hx2) ∈ news) (m2 : (hx2, headDict w k0 k1 k2 k3 k4 k5 k6 k7 k8 k9 (.int x0 u0) (.int x1 u1) (.int x2 u2) (.int x3 u3) (.int x4 u4) (.int x5 u5) (.bool b6) (.bool b7) (.int f u6) (.bytes b9 t9) n) ∈ news) (hk : cs.kind = .function)
    (hd : dp + 20 < 800) (hu : un + 90 < 9000) (hzs : KBw.bInts b9 = zs) (hys : KBw.bInts pb = ys) (hz1 : zs.length ≤ 100) (hy1 : ys.length ≤ 100000)
    (hgood : zs.length % 4 = 0 ∧ zs.length ≤ 40 ∧ 20 + zs.length + ys.length ≤ 65535 → ∀ (h' : Heap) (tk' : Nat), Fr h₀ L h' m → News h₀ L h' news → Q .none { s with heap := h', toks := tk' })
    (hbad : ¬ (zs.length % 4 = 0 ∧ zs.length ≤ 40 ∧ 20 + zs.length + ys.length ≤ 65535) → ∀ (g' h' : Heap) (e : Addr) (tk' : Nat), Fr h₀ L g' m → RaisedSN base g' (envX cn cs L a ccd cl :: outer) e (.ref 63) news h' → g'.UpToSlots h' → E (.ref e) { s with heap := h', toks := tk' }) :
    wpAny (model PySem.Challenge.rw_on0340_01.row.prog w) (ktrTop dp un gd cn cs L a ccd cl outer) (call (.ref 143) [.ref hx, .bytes pb tp]) Q E s :=
  csize_c w p loose mean mg mb dp un gd cn cs a ccd cl outer A₀ base h₀ L m s Q E news hx hx2 k0 k1 k2 k3 k4 k5 k6 k7 k8 k9 u0 u1 u2 u3 u4 u5 u6 t9 tp x0 x1 x2 x3 x4 x5 f b6 b7 b9 pb n zs ys B F X XB TB (List.forall_mem_cons.mpr ⟨N _ m1, List.forall_mem_cons.mpr ⟨N _ m2, N⟩⟩) T hk hd hu hzs hys hz1 hy1
    (fun hG h' tk' F' N' => hgood hG h' tk' F' fun q hq => N' q (List.mem_cons_of_mem _ (List.mem_cons_of_mem _ hq)))
    (fun hG g' h' e tk' F' R' U' => hbad hG g' h' e tk' F' (raised_sub R' fun q hq => List.mem_cons_of_mem _ (List.mem_cons_of_mem _ hq)) U')
end
end

section
open PySem PySem.W PyProof.Rows PySem.Spec PySem.Calls
theorem wordsS1x1 : True := by
  k_with_none
  w_top off
  k_with "my k_all" => (with_reducible assumption)
  k_with "exec Raise some none" => ((k_here; (with_reducible show wpAny _ _ (exec (Stmt.Raise (some _) none _) _) _ _ _); k_dflt (refine exec_raise ?qhh0 ?_; (case qhh0 => first | rfl | assumption))))
  k_with "call ref" => ((k_here; (with_reducible show wpAny _ _ (call (Value.ref _) [Value.str _ _]) (fun v s₁ => Rd s₁ v ∧ _) _ _); k_dflt (refine' exc_rd (t := _) ?qhX ?qhhh ?qhhd ?qhhu ?qhhC ?_; (case qhhC => first | exact Or.inl rfl | exact Or.inr rfl); (case qhX => k_in); (case qhhh => first | rfl | assumption); (case qhhd => walk_at "my room"); (case qhhu => walk_at "my room"); k_whole); intro h' e' tk' x'))
  k_with "my room" => (first
  | exact Nat.le_of_ble_eq_true rfl
  | ((try simp only [depth_mark, depth_under_make, depth_under_kw, depth_in1, depth_deeper, units_in1, units_deeper, Around.mark_units, units_caller, ktrTop]); omega))
  k_with "leaving ref" => ((k_here; (with_reducible show wpAny _ _ (leaving _ (Value.ref _)) _ _ _); first
  | (k_dflt (refine' leave_newX ?qhk1 ?qhk0 ?qhk2 ?qhk3 ?qhkf ?qhkk ?_; (case qhk0 => assumption); (case qhk2 => assumption); (case qhk1 => assumption); (case qhk3 => k_asm); (case qhkf => exact rfl); (case qhkk => exact rfl); k_whole); intro h' R' U'; (try dsimp only at R' U' ⊢))
  | (k_dflt (refine' leave_onX ?qhk1 ?qhk2 ?qhk3 ?qhk4 ?qhkf ?_; (case qhk3 => assumption); (case qhk2 => assumption); (case qhk1 => assumption); (case qhk4 => assumption); (case qhkf => exact rfl); k_whole); intro h' R' U'; (try dsimp only at R' U' ⊢))))
  k_with "call ref" => ((k_here; (with_reducible show wpAny _ _ (call (Value.ref 253) _) _ _ _); k_dflt (refine wpAny_call ?_; refine' enterS ?qhk1 ?qhk2 ?qhk3 ?qhk4 ?qhk5 ?qhXB ?qhTB ?qhD ?qhT0 ?qhkA ?qhkf ?qhkK ?qhk6 ?qhk7 ?qhk8 ?qhk9 ?qhkB ?_ ?qhc2 ?qhc3 ?qhc4 ?qhc5; (case qhkA => exact rfl); (case qhkf => exact rfl); (case qhkK => exact rfl); (case qhk1 => k_asm); (case qhk2 => k_asm); (case qhk3 => k_asm); (case qhk4 => k_asm); (case qhk5 => k_asm); (case qhXB => with_reducible assumption); (case qhTB => with_reducible assumption); (case qhD => first | with_reducible assumption | assumption); (case qhT0 => first | assumption | exact KtsTurn.refl); (case qhk6 => k_is); (case qhk7 => k_is); (case qhk8 => ktr_room); (case qhk9 => exact BindsTo.of_eq rfl); (case qhkB => exact locs rfl); (case qhc2 => exact rfl); (case qhc3 => exact rfl); (case qhc4 => exact rfl); (case qhc5 => decide); k_whole; intro g' L' h' FG' F' N' B' X' T' D'; (try dsimp only); (try k_lift B'); (try k_fold))))
  k_with "call ref" => ((k_here; (with_reducible show wpAny _ _ (call (Value.ref 239) _) _ _ _); k_dflt (refine' take_u ?qhk1 ?qhk2 ?qhk3 ?qhk4 ?qhk5 ?qhU ?qhkK ?qha0 ?qhb0 ?qhb1 ?qht0 ?qht1 ?qhkd ?qhku ?_; (case qhk1 => k_asm); (case qhk2 => k_asm); (case qhk3 => k_asm); (case qhk4 => k_asm); (case qhU => k_updF); (case qhk5 => k_asm); (case qhkK => first | exact rfl | assumption); (case qha0 => first | assumption | omega); (case qhb0 => first | assumption | omega); (case qhb1 => first | assumption | omega); (case qht0 => omega); (case qht1 => omega); (case qhkd => ktr_room); (case qhku => walk_at "my units"); k_whole); intro v' a' b' t' ta' tb' h' tk' hv0 hv1 ha' hb' hb1' F' ol' N'; (try dsimp only at N'); (try k_sweep)))
  k_with "my units" => (first | exact Nat.lt_of_succ_le (Nat.le_of_ble_eq_true rfl) | ((try simp only [cLine, units_in1, units_deeper, Around.mark_units, units_caller, ktrTop]); omega) | ktr_units)
  k_with "my enterC0" => ((refine' enterC0 ?qhk1 ?qhk2 ?qhk3 ?qhk4 ?qhk5 ?qhkA ?qhkf ?qhkK ?qhk6 ?qhk7 ?qhk8 ?qhk9 ?qhkB ?qhkD ?_ ?qhc2 ?qhc3 ?qhc4; (case qhkA => exact rfl); (case qhkf => exact rfl); (case qhkK => first | exact rfl | assumption); (case qhk1 => k_asm); (case qhk2 => k_asm); (case qhk3 => k_asm); (case qhk4 => k_asm); (case qhk5 => k_asm); (case qhk6 => k_is); (case qhk7 => k_is); (case qhk8 => ktr_room); (case qhk9 => exact BindsTo.of_eq rfl); (case qhkB => exact rfl); (case qhkD => decide +kernel); (case qhc2 => exact rfl); (case qhc3 => exact rfl); (case qhc4 => exact rfl); k_whole; intro g' L' h' tk' cells' FG' F' N' Y' B' X' T' D' l1; (try k_lt l1); k_cells Y'; (try simp only [List.cons_append, List.nil_append] at N'); (try dsimp only); (try k_lift B'); (try k_fold)))
  k_with "my k_room" => (ktr_room)
  k_with "callWith ref" => ((k_here; k_dflt (refine' callWith_K ?qhk1 ?qhk2 ?_; (case qhk1 => k_asm); (case qhk2 => k_is); k_whole)))
  k_with "my mem" => (first | with_reducible apply List.mem_cons_self | (with_reducible apply List.mem_cons_of_mem; walk_at "my mem"))
  k_with "my memD" => (first | apply List.mem_cons_self | (with_reducible apply List.mem_cons_of_mem; walk_at "my memD"))
  k_with "my all" => (first | with_reducible assumption | with_reducible apply List.forall_mem_nil | (with_reducible apply forall_cons; (k_ne); (walk_at "my all")))
  k_with "call type:bytes" => ((k_here; (with_reducible show wpAny _ _ (call (Value.type "bytes") [Value.bytes _ _]) _ _ _); k_dflt (refine call_bytes_bytes ?_)))
  k_with "call type:bytes" => ((k_here; (with_reducible show wpAny _ _ (call (Value.type "bytes") [Value.int _ _]) _ _ _); k_dflt (refine' call_bytes_int ?qhh0 ?qhh1 ?_; (case qhh0 => omega); (case qhh1 => omega); k_whole); intro _ _ _ _ hz' hzl' hzr'))
  k_with "my fold" => (((fail_if_success (with_reducible show wpAny _ _ _ qk _ _)); first | ((with_reducible show wpAny _ _ _ _ ek _); refine fold_q ?_; k_dflt (intro qk)) | (refine fold_wp ?_; k_dflt (intro qk ek))))
  k_with "my on" => (skip)
  k_with "my each" => (first | ((with_reducible show Each _ _ (List.cons _ _)); k_dflt (intro _); walk_at "my each") | ((with_reducible show Each _ _ List.nil); refine each_nil ?_) | skip)
  k_with "my eachN" => (first | ((with_reducible show EachN _ _ (List.cons _ _)); k_dflt (intro _); walk_at "my eachN") | ((with_reducible show EachN _ _ List.nil); refine eachN_nil ?_) | skip)
  k_with "my und" => ((first | (first | with_reducible assumption | with_reducible exact Und.self | with_reducible exact Nxt.und (by assumption) | (with_reducible refine Und.trans ?_ (by assumption); with_reducible assumption)) | (with_reducible refine Nxt.und2 (by assumption) ?_; (first | with_reducible assumption | with_reducible exact Und.self | with_reducible exact Nxt.und (by assumption) | (with_reducible refine Und.trans ?_ (by assumption); with_reducible assumption))) | (first | with_reducible assumption | with_reducible exact Und.self | with_reducible exact Nxt.und (by assumption) | (with_reducible refine Und.up ?_; (first | with_reducible assumption | with_reducible exact Und.self | with_reducible exact Nxt.und (by assumption) | (with_reducible refine Und.up ?_; (first | with_reducible assumption | with_reducible exact Und.self | with_reducible exact Nxt.und (by assumption) | (with_reducible refine Und.up ?_; (first | with_reducible assumption | with_reducible exact Und.self | with_reducible exact Nxt.und (by assumption) | (with_reducible refine Und.up ?_; (first | with_reducible assumption | with_reducible exact Und.self | with_reducible exact Nxt.und (by assumption) | (with_reducible refine Und.up ?_; (first | with_reducible assumption | with_reducible exact Und.self | with_reducible exact Nxt.und (by assumption) | (with_reducible refine Und.up ?_; (first | with_reducible assumption | with_reducible exact Und.self | with_reducible exact Nxt.und (by assumption) | (with_reducible refine Und.up ?_; (first | with_reducible assumption | with_reducible exact Und.self | with_reducible exact Nxt.und (by assumption) | (with_reducible refine Und.up ?_; (first | with_reducible assumption | with_reducible exact Und.self | with_reducible exact Nxt.und (by assumption))))))))))))))))))))
  k_with "my le" => (((try dsimp only); first | exact Nat.le_refl _ | exact Und.le2 (by with_reducible assumption) | exact Und.le (by walk_at "my und")))
  k_with "my ne" => (((try dsimp only); first | exact Und.ne (by with_reducible assumption) | exact Und.ne2 (by with_reducible assumption) | exact Dif.ne (by with_reducible assumption) | exact Dif.ne2 (by with_reducible assumption) | exact Nat.ne_of_beq_eq_false rfl | with_reducible assumption | exact Ne.symm (by with_reducible assumption) | exact Und.ne (by walk_at "my und") | exact Und.ne2 (by walk_at "my und")))
  k_with "my eachA" => (first | ((with_reducible show Each _ _ (List.cons _ _)); k_dflt (intro _); walk_at "my eachA") | ((with_reducible show Each _ _ List.nil); refine each_nil ?_) | skip)
  k_with "my ltall" => (((refine each_of l1 ?_); (walk_at "my eachA"); (try (with_reducible show Each _ _ _); first | refine each_drop (by with_reducible assumption) (fun _ hq' => l1 _ (by repeat (first | with_reducible exact hq' | with_reducible apply List.mem_cons_of_mem))) ?_ | (refine each_tail (fun _ hq' => l1 _ (by repeat (first | with_reducible exact hq' | with_reducible apply List.mem_cons_of_mem))) ?_; k_dflt (intro _))); clear l1))
  k_with "my each" => (first | ((with_reducible show Each _ _ (List.cons (OfNat.ofNat _, _) _)); refine each_skip ?_; walk_at "my each") | ((first | with_reducible show Each _ _ (List.cons (_ + 1 + 1, _) _) | with_reducible show Each _ _ (List.cons (I', _) _) | with_reducible show Each _ _ (List.cons (I, _) _)); k_dflt (intro _); walk_at "my each") | ((with_reducible show Each _ _ (List.cons _ _)); refine each_skip ?_; walk_at "my each") | ((with_reducible show Each _ _ List.nil); refine each_nil ?_) | skip)
  k_with "exec Assign" => (k_fold)
  k_with "exec If" => (k_fold)
  k_with "exec Return some" => (k_fold)
  k_with "eval Call" => (k_fold)
  k_with "my tail" => ((intro _ hq'; repeat (first | with_reducible exact hq' | with_reducible apply List.mem_cons_of_mem)))
  k_with "SeqPost" => (dsimp only [SeqPost])
  k_with "exec For Name Tuple cons nil" => ((k_here; (with_reducible show wpAny _ _ (exec (Stmt.For _ _ _ [] _) _) _ _ _); k_dflt (refine for_tupS (by passes_own) (fun _ => rfl) rfl ?_)))
  k_with "my k_all" => (exact allLt_ne2 (by assumption) (by walk_at "my le"))
  k_with "call ref" => ((k_here; (with_reducible show wpAny _ _ (call (Value.ref 246) _) _ _ _); k_dflt (refine' one_i ?qhk1 ?qhk2 ?qhk3 ?qhk4 ?qhk5 ?qhU ?qhhm ?qhhne ?qhkK ?qhhv ?qha0 ?qhb0 ?qhb1 ?qht0 ?qht1 ?qhkd ?qhku ?_; (case qhk1 => k_asm); (case qhk2 => k_asm); (case qhk3 => k_asm); (case qhk4 => k_asm); (case qhU => k_updF); (case qhhm => k_mem); (case qhhne => k_ne); (case qhk5 => k_asm); (case qhkK => first | exact rfl | assumption); (case qhhv => exact four_bd (by decide +kernel) (by decide +kernel) (by decide +kernel)); (case qha0 => assumption); (case qhb0 => assumption); (case qhb1 => assumption); (case qht0 => exact Nat.le_of_ble_eq_true rfl); (case qht1 => exact Nat.le_of_ble_eq_true rfl); (case qhkd => walk_at "my room"); (case qhku => walk_at "my room"); k_whole); intro x' a' b' t' ta' tb' h' tk' hx0' hx1' ha' hb' hb1' F' ol' N'; (try dsimp only at N'); (try k_sweep)))
  k_with "call ref" => ((k_here; (with_reducible show wpAny _ _ (call (Value.ref 272) _) _ _ _); k_dflt (refine' numbers_u ?qhk1 ?qhk2 ?qhk3 ?qhk4 ?qhk5 ?qhU ?qhkK ?qha0 ?qhb0 ?qhb1 ?qhkd ?qhku ?_; (case qhk1 => k_asm); (case qhk2 => k_asm); (case qhk3 => k_asm); (case qhk4 => k_asm); (case qhU => k_updF); (case qhk5 => k_asm); (case qhkK => first | exact rfl | assumption); (case qha0 => assumption); (case qhb0 => assumption); (case qhb1 => assumption); (case qhkd => walk_at "my room"); (case qhku => walk_at "my room"); k_whole); intro D' x0' x1' x2' x3' x4' x5' a' b' t0' t1' t2' t3' t4' t5' ta' tb' h' tk' six' ha' hb' hb1' F' oe' ol' N' o1'; (try ((refine eachN_of o1' ?_); (walk_at "my eachN"); (try (with_reducible show EachN _ _ _); (refine eachN_tail (fun _ hq' => off1_all o1' _ (by repeat (first | with_reducible exact hq' | with_reducible apply List.mem_cons_of_mem))) ?_; k_dflt (intro _))); clear o1')); (try dsimp only at N'); (try k_sweep)))
  k_with "call ref" => ((k_here; (with_reducible show wpAny _ _ (call (Value.ref 279) _) _ _ _); k_dflt (first | (refine' made_six ?qhk1 ?qhk2 ?qhk3 ?qhk4 ?qhk5 ?qhkK ?qhkd ?qhku ?qhm1 ?_; (case qhk1 => k_asm); (case qhk2 => k_asm); (case qhk3 => k_asm); (case qhk4 => k_asm); (case qhk5 => k_asm); (case qhkK => first | exact rfl | assumption); (case qhkd => walk_at "my room"); (case qhku => walk_at "my room"); (case qhm1 => k_mem); k_whole) | (refine' made_u ?qhk1 ?qhk2 ?qhk3 ?qhk4 ?qhk5 ?qhkK ?qhkd ?qhku ?qhm1 ?qhhvs ?qhhns ?_; (case qhk1 => k_asm); (case qhk2 => k_asm); (case qhk3 => k_asm); (case qhk4 => k_asm); (case qhk5 => k_asm); (case qhkK => first | exact rfl | assumption); (case qhkd => walk_at "my room"); (case qhku => walk_at "my room"); (case qhm1 => k_mem); (case qhhvs => first | assumption | l_ints); (case qhhns => walk_at "my six"); k_whole)); intro x' d' k0' k1' k2' k3' k4' k5' k6' k7' k8' k9' u0' u1' u2' u3' u4' u5' h' tk' F' od' N' l1 l2; (try k_lt l1); (try k_lt2 l2); (try k_sweep)))
  k_with "call ref" => ((k_here; (with_reducible show wpAny _ _ (call (Value.ref 150) _) _ _ _); k_dflt ((refine' flags_u ?qhk1 ?qhk2 ?qhk3 ?qhk4 ?qhk5 ?qhkK ?qhkd ?qhku ?qhm1 ?qhm2 ?qhf0 ?qhf1 ?_; (case qhk1 => k_asm); (case qhk2 => k_asm); (case qhk3 => k_asm); (case qhk4 => k_asm); (case qhk5 => k_asm); (case qhkK => first | exact rfl | assumption); (case qhkd => walk_at "my room"); (case qhku => walk_at "my room"); (case qhm1 => k_mem); (case qhm2 => k_mem); (case qhf0 => walk_at "my f0"); (case qhf1 => walk_at "my f1"); k_whole)); intro h' t' tk' F' N'; (try k_sweep)))
  k_with "call ref" => ((k_here; (with_reducible show wpAny _ _ (call (Value.ref 218) _) _ _ _); k_dflt ((refine' part_u ?qhk1 ?qhk2 ?qhk3 ?qhk4 ?qhk5 ?qhkK ?qhkd ?qhku ?qhm1 ?qhm2 ?_; (case qhk1 => k_asm); (case qhk2 => k_asm); (case qhk3 => k_asm); (case qhk4 => k_asm); (case qhk5 => k_asm); (case qhkK => first | exact rfl | assumption); (case qhkd => walk_at "my room"); (case qhku => walk_at "my room"); (case qhm1 => k_mem); (case qhm2 => k_mem); k_whole)); intro x' d' k0' k1' k2' k3' k4' k5' k6' k7' k8' k9' h' tk' F' od' N' l1 l2; (try k_lt l1); (try k_lt2 l2); (try k_sweep)))
  k_with "my f0" => (exact (far_of (by assumption) (by assumption)).2.1)
  k_with "my f1" => (exact (far_of (by assumption) (by assumption)).2.2)
  k_with "my same" => (first | exact SameAll.nil | (refine SameAll.cons ?_ ?_; (first | exact SameV.int _ _ _ | exact SameV.bool _ | exact SameV.bytes _ _ rfl | exact SameV.bytes _ _ (bytes_same (by assumption) (by assumption) (by assumption) (by assumption))); walk_at "my same"))
  k_with "compareOp NotEq ref ref" => ((k_here; (with_reducible show wpAny _ _ (compareOp CmpOp.NotEq (Value.ref _) (Value.ref _)) _ _ _); k_dflt (refine' tup_ne_same ?qhN ?qhm1 ?qhm2 ?qhhs ?qhhu ?_; (case qhN => k_asm); (case qhm1 => k_mem); (case qhm2 => k_mem); (case qhhs => walk_at "my same"); (case qhhu => walk_at "my units"); k_whole)))
  k_with "callWith" => (((with_reducible show wpAny _ _ (callWith _ (Prod.fst _) (Prod.snd _) _ _) _ _ _); dsimp only))
  k_with "callWith ref" => (((with_reducible show wpAny _ _ (callWith _ (Prod.fst _) (Prod.snd _) _ _) _ _ _); dsimp only))
  k_with "subscriptTail Name Slice ref ref" => ((k_here; (with_reducible show wpAny _ _ (subscriptTail _ (PySem.Expr.Slice _ _ none _) (Value.ref _) (Value.ref _)) _ _ _); k_dflt (refine' kmk_slice_ints ?qhF ?qhN ?qhl ?qhp ?qhq ?qhi ?qhm ?qhc ?_ ?qhs ?qht ?qhz; (case qhF => k_asm); (case qhN => k_asm); (case qhl => kmk_list); (case qhp => kmk_part); (case qhq => kmk_part); (case qhi => l_ints); (case qhm => first | ((refine' kmk_from ?qhgi ?qhgx); (case qhgi => l_ints); (case qhgx => omega)) | ((refine' kmk_upto ?qhgi ?qhgx); (case qhgi => l_ints); (case qhgx => omega))); (case qhc => exact rfl); (case qhs => with_unfolding_all rfl); (case qht => kmk_pure); (case qhz => kmk_size)); intro D' ws' h' F' N' l1 hI' hC' hL'; clear hC' hL'; (try k_lt l1); (try k_sweep)))
  k_with "binaryOp Add ref ref" => ((k_here; (with_reducible show wpAny _ _ (binaryOp Operator.Add (Value.ref _) (Value.ref _)) _ _ _); k_dflt (refine' list_add ?qhF ?qhN ?qhl ?qhb ?qhi ?qhj ?qhz ?_; (case qhF => k_asm); (case qhN => k_asm); (case qhl => k_mem); (case qhb => k_mem); (case qhi => l_ints); (case qhj => l_ints); (case qhz => (simp only [List.length_append, List.length_take, List.length_drop, List.length_cons, List.length_nil]; omega)); k_whole); intro D' h' vs' F' N' l1 hI'; (try k_lt l1); (try k_sweep)))
  k_with "my six" => ((simp only [List.length_append, List.length_take, List.length_drop, List.length_cons, List.length_nil]; omega))
  k_with "my bad" => (first | exact fun h => not_far1 h.2 | exact fun h => not_far2 h.2 | exact fun h => not_far3 h.2 | exact fun h => bent_bad (by assumption) (by assumption) rfl (.inl (by decide)) h | exact fun h => bent_bad (by assumption) (by assumption) rfl (.inr rfl) h)
  k_with "call ref" => ((k_here; (with_reducible show wpAny _ _ (call (Value.ref 239) [_, Value.int 6 _]) _ _ _); k_dflt (refine' take_u ?qhk1 ?qhk2 ?qhk3 ?qhk4 ?qhk5 ?qhU ?qhkK ?qha0 ?qhb0 ?qhb1 ?qht0 ?qht1 ?qhkd ?qhku ?_; (case qhk1 => k_asm); (case qhk2 => k_asm); (case qhk3 => k_asm); (case qhk4 => k_asm); (case qhU => k_updF); (case qhk5 => k_asm); (case qhkK => first | exact rfl | assumption); (case qha0 => first | assumption | omega); (case qhb0 => first | assumption | omega); (case qhb1 => first | assumption | omega); (case qht0 => omega); (case qht1 => omega); (case qhkd => ktr_room); (case qhku => walk_at "my units"); k_whole); intro v' a' b' t' ta' tb' h' tk' hv0 hv1 ha' hb' hb1' F' ol' N'; (try dsimp only at N'); (have hbb' := bits_bd hv0 hv1); (try k_sweep)))
  k_with "callWith ref" => ((k_here; (with_reducible show wpAny _ _ (callWith _ (Value.ref (OfNat.ofNat _)) _ (backTo _ (starEach [] _)) []) _ _ _); k_dflt (refine' callWith_K0 ?qhk1 ?qhk2 ?_; (case qhk1 => exact Frag.In.keeps (by with_reducible assumption) (Fr.keep (by with_reducible assumption))); (case qhk2 => k_is); k_whole); dsimp only [List.nil_append, List.cons_append, List.append_nil]))
  k_with "call ref" => ((k_here; (with_reducible show wpAny _ _ (call (Value.ref 136) _) _ _ _); k_dflt (first | (refine' check_u ?qhk1 ?qhk2 ?qhk3 ?qhXB ?qhTB ?qhk4 ?qhk5 ?qhm1 ?qhm2 ?qhkK ?qhkd ?qhku ?_ ?qhbad; (case qhk1 => k_asm); (case qhk2 => k_asm); (case qhk3 => k_asm); (case qhXB => with_reducible assumption); (case qhTB => with_reducible assumption); (case qhk4 => k_asm); (case qhk5 => k_asm); (case qhm1 => k_mem); (case qhm2 => k_mem); (case qhkK => first | exact rfl | assumption); (case qhkd => walk_at "my room"); (case qhku => walk_at "my room"); (case qhbad => intro hb'; refine absurd ?_ hb'; walk_at "my good"); intro hg' h' tk' F' N'; (try k_sweep)) | (refine' check_u ?qhk1 ?qhk2 ?qhk3 ?qhXB ?qhTB ?qhk4 ?qhk5 ?qhm1 ?qhm2 ?qhkK ?qhkd ?qhku ?qhgood ?_; (case qhk1 => k_asm); (case qhk2 => k_asm); (case qhk3 => k_asm); (case qhXB => with_reducible assumption); (case qhTB => with_reducible assumption); (case qhk4 => k_asm); (case qhk5 => k_asm); (case qhm1 => k_mem); (case qhm2 => k_mem); (case qhkK => first | exact rfl | assumption); (case qhkd => walk_at "my room"); (case qhku => walk_at "my room"); (case qhgood => intro hg'; refine absurd hg' ?_; walk_at "my bad"); intro hb' g' h' e' tk' FG' R' U'))))
  k_with "my good" => (exact ⟨by assumption, far_of (by assumption) (by assumption)⟩)
  k_with "exec For Name List cons nil" => ((k_here; (with_reducible show wpAny _ _ (exec (Stmt.For _ _ _ [] _) _) _ _ _); refine stop_ ?_))
  trivial
theorem sizes_ret {Q : Value → Shared → Prop} {h₀ : Heap} {L src n : Nat} {m : Str → Option Value} {rest : List (Addr × Obj)} {s : Shared}
    (hret : ∀ (a1 b1 : Int) (ta tb : Tok) (h' : Heap) (tk' : Nat) (t2 : Array Value), 0 ≤ a1 → 0 ≤ b1 → b1 < 2147483647 → Fr h₀ L h' m →
      News h₀ L h' ((src, listOf #[.int a1 ta, .int b1 tb] n) :: (288, tabObj t2) :: rest) → Q (.bool true) { s with heap := h', toks := tk' })
    {a1 b1 : Int} {ta tb : Tok} {h' : Heap} {tk' : Nat} {t2 : Array Value} {all : List (Addr × Obj)} {b : Bool} (hb1 : b = true) (F : Fr h₀ L h' m) (N : News h₀ L h' all)
    (m3 : (src, listOf #[.int a1 ta, .int b1 tb] n) ∈ all) (m4 : (288, tabObj t2) ∈ all) (mf : ∀ q ∈ rest, q ∈ all) (ha : 0 ≤ a1) (hb : 0 ≤ b1) (hb' : b1 < 2147483647) : Q (.bool b) { s with heap := h', toks := tk' } := by
  subst hb1
  exact hret a1 b1 ta tb h' tk' t2 ha hb hb' F (List.forall_mem_cons.mpr ⟨N _ m3, List.forall_mem_cons.mpr ⟨N _ m4, fun q hq => N q (mf q hq)⟩⟩)
theorem wordsS1x2 : True := by
  k_with "call ref" => ((k_here; (with_reducible show wpAny _ _ (call (Value.ref 143) _) _ _ _); k_dflt (first | (refine' csize_u ?qhk1 ?qhk2 ?qhk3 ?qhXB ?qhTB ?qhk4 ?qhk5 ?qhm1 ?qhm2 ?qhkK ?qhkd ?qhku ?qhhz ?qhhy ?qhz1 ?qhy1 ?_ ?qhbad; (case qhk1 => k_asm); (case qhk2 => k_asm); (case qhk3 => k_asm); (case qhXB => with_reducible assumption); (case qhTB => with_reducible assumption); (case qhk4 => k_asm); (case qhk5 => k_asm); (case qhm1 => k_mem); (case qhm2 => k_mem); (case qhkK => first | exact rfl | assumption); (case qhkd => walk_at "my room"); (case qhku => walk_at "my room"); (case qhhz => assumption); (case qhhy => first | assumption | exact rfl); (case qhz1 => omega); (case qhy1 => first | omega | (simp [KBw.bInts])); (case qhbad => intro hb'; refine absurd ?_ hb'; walk_at "my cgood"); intro hg' h' tk' F' N'; (try k_sweep)) | (refine' csize_u ?qhk1 ?qhk2 ?qhk3 ?qhXB ?qhTB ?qhk4 ?qhk5 ?qhm1 ?qhm2 ?qhkK ?qhkd ?qhku ?qhhz ?qhhy ?qhz1 ?qhy1 ?qhgood ?_; (case qhk1 => k_asm); (case qhk2 => k_asm); (case qhk3 => k_asm); (case qhXB => with_reducible assumption); (case qhTB => with_reducible assumption); (case qhk4 => k_asm); (case qhk5 => k_asm); (case qhm1 => k_mem); (case qhm2 => k_mem); (case qhkK => first | exact rfl | assumption); (case qhkd => walk_at "my room"); (case qhku => walk_at "my room"); (case qhhz => assumption); (case qhhy => first | assumption | exact rfl); (case qhz1 => omega); (case qhy1 => first | omega | (simp [KBw.bInts])); (case qhgood => intro hg'; refine absurd hg' ?_; walk_at "my cbad"); intro hb' g' h' e' tk' FG' R' U'))))
  k_with "my cgood" => ((refine ⟨?_, ?_, ?_⟩ <;> omega))
  k_with "my cbad" => ((intro hc'; omega))
  k_with "eval Lambda" => ((k_here; k_dflt (refine' kla_eval ?qhd0 ?_; (case qhd0 => exact rfl); refine' kla_any ?qhS ?qhF ?qhN ?qhhmid ?qhT ?qhC ?qhcd ?qhU ?qht ?qhn ?qhtt ?qhnn ?qhcl ?qhhz ?qhhI ?qhhoff ?_; (case qhS => assumption); (case qhF => k_asm); (case qhN => k_asm); (case qhhmid => intro _ hq'; repeat (first | with_reducible exact hq' | exact hmr _ hq' | with_reducible apply List.mem_cons_of_mem)); (case qhT => k_asm); (case qhcd => exact rfl); (case qhC => kn_code); (case qhU => k_updF); (case qht => kn_triples); (case qhn => kn_among); (case qhtt => exact fun _ => by kn_triples); (case qhnn => exact fun _ => by kn_hit); (case qhcl => exact rfl); (case qhhoff => assumption); (case qhhI => exact ⟨_, by walk_at "my mem"⟩); (case qhhz => walk_at "my mem"); k_whole); intro f' c' oc' vs' t' ct' h' tk' F' N' d1' d2' l2 l3 l4 l1; (try dsimp only at N'); (try k_lt l1); (try k_sweep)))
  k_with "my allmem" => (first | with_reducible apply List.forall_mem_nil | (with_reducible apply forall_cons; (walk_at "my mem"); (walk_at "my allmem")))
  k_with "SeqEnd" => (k_dflt (refine' loop_end ?qhF ?qhN ?qhhm ⟨?qhj1, ?qhj2, ?qhj3, ?qhj4, ?qhj5⟩ ?qhmI ?qhhfix ?qhmV ?qhmB ?qhmT ?qhhps ?qhmc ?qhhrs ?qhmr ?qhdV ?qhdB ?qhd1 ?qhd2 ?qhuc ?qhhmem ?qhofix ?qhuV ?qhuB ?qhuT ?qhorest; (case qhF => k_asm); (case qhN => k_asm); (case qhhm => exact map_twice); (case qhj1 => with_reducible assumption); (case qhj2 => with_reducible assumption); (case qhj3 => with_reducible assumption); (case qhj4 => with_reducible assumption); (case qhj5 => with_reducible assumption); (case qhmI => walk_at "my mem"); (case qhhfix => walk_at "my allmem"); (case qhmV => walk_at "my mem"); (case qhmB => walk_at "my mem"); (case qhmT => walk_at "my memD"); (case qhhps => exact rfl); (case qhmc => walk_at "my mem"); (case qhhrs => with_reducible assumption); (case qhmr => walk_at "my tail"); (case qhdV => with_reducible assumption); (case qhdB => with_reducible assumption); (case qhd1 => with_reducible assumption); (case qhd2 => assumption); (case qhuc => with_reducible assumption); (case qhhmem => walk_at "my mem"); (case qhofix => with_reducible assumption); (case qhuV => with_reducible assumption); (case qhuB => with_reducible assumption); (case qhuT => with_reducible assumption); (case qhorest => with_reducible assumption)))
  trivial
theorem sizes_c : ∀ (w : World) (p : Program) (loose : List Str) (mean : ExcName → Option Value) (mg mb : Str → Option Value) (dp un : Nat) (gd : Option (List Code)) (cn : Str) (cs : Scope) (a : Addr) (ccd : Value) (cl : List (Str × Addr)) (A₀ : Around) (base h₀ : Heap) (L : Addr) (m : Str → Option Value) (s : Shared) (Q E : Value → Shared → Prop)
    (src : Addr) (a0 b0 : Int) (ta tb : Tok) (n : Nat) (rest : List (Addr × Obj)),
    Below A₀ base [] h₀ → Fr h₀ L s.heap m → (hd.heap_1 w.params).In h₀ → (hd.heap_1 w.params).In base → Top p loose mean mg mb base → CodeHd base 292 288 →
    News h₀ L s.heap ((src, listOf #[.int a0 ta, .int b0 tb] n) :: (288, tabObj #[]) :: rest) → Top p loose mean mg mb h₀ → cs.kind = .function →
    (∀ p ∈ rest, p.1 ≠ src) → (∀ p ∈ rest, p.1 ≠ 288) → 288 < src → 0 ≤ a0 → 0 ≤ b0 → b0 < 2147483647 → dp + 60 < 800 → un + 390 < 9000 →
    (∀ (a1 b1 : Int) (ta tb : Tok) (h' : Heap) (tk' : Nat) (t2 : Array Value), 0 ≤ a1 → 0 ≤ b1 → b1 < 2147483647 → Fr h₀ L h' m →
      News h₀ L h' ((src, listOf #[.int a1 ta, .int b1 tb] n) :: (288, tabObj t2) :: rest) → Q (.bool true) { s with heap := h', toks := tk' }) →
    wpAny (model PySem.Challenge.rw_on0340_01.row.prog w) (ktrTop dp un gd cn cs L a ccd cl []) (call (.ref 293) [.ref src]) Q E s := by
  k_fill
  intro w p loose mean mg mb dp un gd cn cs a ccd cl A₀ base h₀ L m s Q E src a0 b0 ta tb n rest B F X XB TB C9 N T hk hrest hrest2 hs ha0 hb0 hb1 hdp hun hret
  k_lt2 hs
  refine wpAny_call ?_
  w_strict (k_dflt (refine' enterC0 ?k1 ?k2 ?k3 ?k4 ?k5 ?kA ?kf ?kK ?k6 ?k7 ?k8 ?k9 ?kB ?kD ?_ ?c2 ?c3 ?c4; (case kA => exact rfl); (case kf => exact rfl); (case kK => first | exact rfl | assumption); (case k1 => k_asm); (case k2 => k_asm); (case k3 => k_asm); (case k4 => k_asm); (case k5 => k_asm); (case k6 => k_is); (case k7 => k_is); (case k8 => ktr_room); (case k9 => exact BindsTo.of_eq rfl); (case kB => exact rfl); (case kD => decide +kernel); (case c2 => exact rfl); (case c3 => exact rfl); (case c4 => exact rfl)))
  intro g0 L0 h1 tk1 cells' FG' F1 N1 Y' B1 X1 T1 D1 l1
  walk_at "my ltall"
  have e0 : Und (288) (L0 + 1 + 1) := by walk_at "my und"
  have e1 : Und (src) (L0 + 1 + 1) := by walk_at "my und"
  have e2 : Und (L0 + 1) (L0 + 1 + 1) := by walk_at "my und"
  k_cells Y'
  simp only [List.cons_append, List.nil_append] at N1
  k_lift B1
  dsimp only
  k_steps
  show wpAny _ _ _ _ _ _
  refine for_listS (by passes_own) (fun _ => rfl) rfl ?_
  k_steps
  refine' loop_srcX (LV := L0 + 1) (LB := L0 + 1 + 1) (T := 288) (rest := rest) (Str.ofString "_law_sizes_right.<locals>.<lambda>") 233 21 [true, false, false, false, false, false, false, false, false, false, true, false] (JG (ktrTop dp un gd cn cs L a ccd cl []) base [envX cn cs L a ccd cl] (hd.heap_1 w.params) p loose mean mg mb g0) (fun v => ∃ x t, v = .int x t ∧ (x = 44 ∨ x = 4 * v' + 2)) (Str.ofString "size") ?F ?N ?hfix ?hm ?mV ?mB ?dV ?dB ?mT ?mf ?h0 ?hP ?hG ?rV ?rB hrest2 ?turn ?done
  (case F => k_asm); (case N => k_asm); (case hfix => dsimp only [maskT]); (case hm => walk_at "my memD"); (case mV => walk_at "my mem"); (case mB => walk_at "my mem"); (case dV => with_reducible assumption); (case dB => with_reducible assumption); (case mT => walk_at "my memD"); (case mf => walk_at "my tail")
  case h0 => exact List.cons_ne_nil _ _
  case hP => exact List.forall_mem_cons.mpr ⟨⟨_, _, rfl, .inl rfl⟩, List.forall_mem_cons.mpr ⟨⟨_, _, rfl, .inr rfl⟩, List.forall_mem_nil _⟩⟩
  case hG => exact ⟨by assumption, by assumption, by assumption, by assumption, by assumption⟩
  case rV => exact allLt_ne2 (by assumption) (by walk_at "my le")
  case rB => exact allLt_ne2 (by assumption) (by walk_at "my le")
  case turn =>
    intro I v u i g ov vv ob vb ps mid rs itr h tk l1 uV uB uT or' hv hG S0 hmr hrr r1 r2 r3 hmI hc dV dB F' N'
    refine foldP ?_
    intro P9
    obtain ⟨x, t, e91, hx⟩ := hv
    obtain ⟨T0, B', X', T', D'⟩ := hG
    k_unfold
    clear P9
    subst e91
    have l9 := l1
    simp only [List.cons_append, List.nil_append] at N'
    walk_at "my ltall"
    k_lift B'
    (try dsimp only)
    (try k_fold)
    k_steps
  case done =>
    intro u g ov vv ob vb c h tk hG dV dB F' N'
    refine foldP ?_
    intro P9
    obtain ⟨T0, B', X', T', D'⟩ := hG
    k_unfold
    clear P9
    simp only [List.cons_append, List.nil_append] at N'
    (try dsimp only)
    (try k_fold)
    k_steps
    refine' sizes_ret hret rfl ?zzF ?zzN ?zzm ?zzn ?zzf ?zza ?zzb ?zzc
    (case zzN => assumption); (case zzF => assumption)
    (case zzm => walk_at "my mem"); (case zzn => walk_at "my memD"); (case zzf => walk_at "my tail")
    (case zza => assumption); (case zzb => assumption); (case zzc => assumption)
end

section
open PySem PySem.W PyProof.Rows PySem.Spec PySem.Calls
/-- a row of octets that head_size lets -/
def HeadOk (ks : List Int) : Prop := 20 ≤ ks.length ∧ (ks.getD 0 0).fdiv 16 = 4 ∧ 20 ≤ (ks.getD 0 0).fmod 16 * 4 ∧ (ks.getD 0 0).fmod 16 * 4 ≤ (ks.length : Int)
theorem fd16 (k : Int) : k.fdiv 16 = k / 16 := Int.fdiv_eq_ediv_of_nonneg _ (by decide)
theorem fm16 (k : Int) : k.fmod 16 = k % 16 := Int.fmod_eq_emod_of_nonneg _ (by decide)
section
variable {v b : Int} {c : UInt8} {zs : List Int}
theorem hd_ok (hc : ((c.toNat : Nat) : Int) = 64 + (5 + v)) (h0 : 0 ≤ v) (h1 : v < 11) (hz : (zs.length : Int) = 4 * (5 + v) - 1 + b) (hb : 0 ≤ b) : HeadOk (List.map (fun c : UInt8 => ((c.toNat : Nat) : Int)) [c] ++ zs) := by
  refine ⟨?_, ?_, ?_, ?_⟩
  · simp; omega
  · show ((c.toNat : Nat) : Int).fdiv 16 = 4
    rw [fd16, hc]; omega
  · show 20 ≤ ((c.toNat : Nat) : Int).fmod 16 * 4
    rw [fm16, hc]; omega
  · show ((c.toNat : Nat) : Int).fmod 16 * 4 ≤ _
    rw [fm16, hc]; simp; omega
theorem hd_val (hc : ((c.toNat : Nat) : Int) = 64 + (5 + v)) (h0 : 0 ≤ v) (h1 : v < 11) : ((List.map (fun c : UInt8 => ((c.toNat : Nat) : Int)) [c] ++ zs).getD 0 0).fmod 16 * 4 = 4 * (5 + v) := by
  show ((c.toNat : Nat) : Int).fmod 16 * 4 = _
  rw [fm16, hc]; omega
theorem hd_bad1 {n : Nat} {ks : List Int} (hn : n ≤ 19) : ¬ HeadOk (ks.take n) := fun h => by
  have := h.1
  rw [List.length_take] at this
  omega
theorem hd_bad2 (hc : ((c.toNat : Nat) : Int) = 96 + (5 + v)) (h0 : 0 ≤ v) (h1 : v < 11) : ¬ HeadOk (List.map (fun c : UInt8 => ((c.toNat : Nat) : Int)) [c] ++ zs) := fun h => by
  have : ((c.toNat : Nat) : Int).fdiv 16 = 4 := h.2.1
  rw [fd16, hc] at this; omega
theorem hd_bad3 (hc : ((c.toNat : Nat) : Int) = 64 + v) (h0 : 0 ≤ v) (h1 : v < 5) : ¬ HeadOk (List.map (fun c : UInt8 => ((c.toNat : Nat) : Int)) [c] ++ zs) := fun h => by
  have : 20 ≤ ((c.toNat : Nat) : Int).fmod 16 * 4 := h.2.2.1
  rw [fm16, hc] at this; omega
theorem hd_bad4 {n : Nat} (hc : ((c.toNat : Nat) : Int) = 64 + (5 + v)) (h0 : 0 ≤ v) (h1 : v < 11) (hn : (n : Int) ≤ 4 * (5 + v) - 1) : ¬ HeadOk ((List.map (fun c : UInt8 => ((c.toNat : Nat) : Int)) [c] ++ zs).take n) := fun h => by
  cases n with
  | zero => have := h.1; simp at this
  | succ n =>
    have e : (((List.map (fun c : UInt8 => ((c.toNat : Nat) : Int)) [c] ++ zs).take (n + 1)).getD 0 0) = ((c.toNat : Nat) : Int) := rfl
    have := h.2.2.2
    rw [e, fm16, hc, List.length_take] at this
    omega
theorem clip19 {n : Nat} : clipAt n 19 ≤ 19 := by
  have := clipAt_nat n 19
  rw [show ((19 : Nat) : Int) = 19 from rfl] at this
  rw [this]; omega
theorem clip_to {n : Nat} {i : Int} (h : 0 ≤ i) : ((clipAt n i : Nat) : Int) ≤ i := by
  obtain ⟨j, rfl⟩ := Int.eq_ofNat_of_zero_le h
  have := clipAt_nat n j
  rw [this]; omega
end
end

section
open PySem PySem.W PyProof.Rows PySem.Spec PySem.Calls
theorem wordsHsx1 : True := by
  k_with_none
  w_top off
  k_with "my k_all" => (with_reducible assumption)
  k_with "exec Raise some none" => ((k_here; (with_reducible show wpAny _ _ (exec (Stmt.Raise (some _) none _) _) _ _ _); k_dflt (refine exec_raise ?qhh0 ?_; (case qhh0 => first | rfl | assumption))))
  k_with "call ref" => ((k_here; (with_reducible show wpAny _ _ (call (Value.ref _) [Value.str _ _]) (fun v s₁ => Rd s₁ v ∧ _) _ _); k_dflt (refine' exc_rd (t := _) ?qhX ?qhhh ?qhhd ?qhhu ?qhhC ?_; (case qhhC => first | exact Or.inl rfl | exact Or.inr rfl); (case qhX => k_in); (case qhhh => first | rfl | assumption); (case qhhd => walk_at "my room"); (case qhhu => walk_at "my room"); k_whole); intro h' e' tk' x'))
  k_with "my room" => (first
  | exact Nat.le_of_ble_eq_true rfl
  | ((try simp only [depth_mark, depth_under_make, depth_under_kw, depth_in1, depth_deeper, units_in1, units_deeper, Around.mark_units, units_caller, ktrTop]); omega))
  k_with "leaving ref" => ((k_here; (with_reducible show wpAny _ _ (leaving _ (Value.ref _)) _ _ _); first
  | (k_dflt (refine' leave_newX ?qhk1 ?qhk0 ?qhk2 ?qhk3 ?qhkf ?qhkk ?_; (case qhk0 => assumption); (case qhk2 => assumption); (case qhk1 => assumption); (case qhk3 => k_asm); (case qhkf => exact rfl); (case qhkk => exact rfl); k_whole); intro h' R' U'; (try dsimp only at R' U' ⊢))
  | (k_dflt (refine' leave_onX ?qhk1 ?qhk2 ?qhk3 ?qhk4 ?qhkf ?_; (case qhk3 => assumption); (case qhk2 => assumption); (case qhk1 => assumption); (case qhk4 => assumption); (case qhkf => exact rfl); k_whole); intro h' R' U'; (try dsimp only at R' U' ⊢))))
  k_with "call ref" => ((k_here; (with_reducible show wpAny _ _ (call (Value.ref 253) _) _ _ _); k_dflt (refine wpAny_call ?_; refine' enterS ?qhk1 ?qhk2 ?qhk3 ?qhk4 ?qhk5 ?qhXB ?qhTB ?qhD ?qhT0 ?qhkA ?qhkf ?qhkK ?qhk6 ?qhk7 ?qhk8 ?qhk9 ?qhkB ?_ ?qhc2 ?qhc3 ?qhc4 ?qhc5; (case qhkA => exact rfl); (case qhkf => exact rfl); (case qhkK => exact rfl); (case qhk1 => k_asm); (case qhk2 => k_asm); (case qhk3 => k_asm); (case qhk4 => k_asm); (case qhk5 => k_asm); (case qhXB => with_reducible assumption); (case qhTB => with_reducible assumption); (case qhD => first | with_reducible assumption | assumption); (case qhT0 => first | assumption | exact KtsTurn.refl); (case qhk6 => k_is); (case qhk7 => k_is); (case qhk8 => ktr_room); (case qhk9 => exact BindsTo.of_eq rfl); (case qhkB => exact locs rfl); (case qhc2 => exact rfl); (case qhc3 => exact rfl); (case qhc4 => exact rfl); (case qhc5 => decide); k_whole; intro g' L' h' FG' F' N' B' X' T' D'; (try dsimp only); (try k_lift B'); (try k_fold))))
  k_with "call ref" => ((k_here; (with_reducible show wpAny _ _ (call (Value.ref 239) _) _ _ _); k_dflt (refine' take_u ?qhk1 ?qhk2 ?qhk3 ?qhk4 ?qhk5 ?qhU ?qhkK ?qha0 ?qhb0 ?qhb1 ?qht0 ?qht1 ?qhkd ?qhku ?_; (case qhk1 => k_asm); (case qhk2 => k_asm); (case qhk3 => k_asm); (case qhk4 => k_asm); (case qhU => k_updF); (case qhk5 => k_asm); (case qhkK => first | exact rfl | assumption); (case qha0 => first | assumption | omega); (case qhb0 => first | assumption | omega); (case qhb1 => first | assumption | omega); (case qht0 => omega); (case qht1 => omega); (case qhkd => ktr_room); (case qhku => walk_at "my units"); k_whole); intro v' a' b' t' ta' tb' h' tk' hv0 hv1 ha' hb' hb1' F' ol' N'; (try dsimp only at N'); (try k_sweep)))
  k_with "my units" => (first | exact Nat.lt_of_succ_le (Nat.le_of_ble_eq_true rfl) | ((try simp only [cLine, units_in1, units_deeper, Around.mark_units, units_caller, ktrTop]); omega) | ktr_units)
  k_with "my enterC0" => ((refine' enterC0 ?qhk1 ?qhk2 ?qhk3 ?qhk4 ?qhk5 ?qhkA ?qhkf ?qhkK ?qhk6 ?qhk7 ?qhk8 ?qhk9 ?qhkB ?qhkD ?_ ?qhc2 ?qhc3 ?qhc4; (case qhkA => exact rfl); (case qhkf => exact rfl); (case qhkK => first | exact rfl | assumption); (case qhk1 => k_asm); (case qhk2 => k_asm); (case qhk3 => k_asm); (case qhk4 => k_asm); (case qhk5 => k_asm); (case qhk6 => k_is); (case qhk7 => k_is); (case qhk8 => ktr_room); (case qhk9 => exact BindsTo.of_eq rfl); (case qhkB => exact rfl); (case qhkD => decide +kernel); (case qhc2 => exact rfl); (case qhc3 => exact rfl); (case qhc4 => exact rfl); k_whole; intro g' L' h' tk' cells' FG' F' N' Y' B' X' T' D' l1; (try k_lt l1); k_cells Y'; (try simp only [List.cons_append, List.nil_append] at N'); (try dsimp only); (try k_lift B'); (try k_fold)))
  k_with "my k_room" => (ktr_room)
  k_with "callWith ref" => ((k_here; k_dflt (refine' callWith_K ?qhk1 ?qhk2 ?_; (case qhk1 => k_asm); (case qhk2 => k_is); k_whole)))
  k_with "my mem" => (first | with_reducible apply List.mem_cons_self | (with_reducible apply List.mem_cons_of_mem; walk_at "my mem"))
  k_with "my memD" => (first | apply List.mem_cons_self | (with_reducible apply List.mem_cons_of_mem; walk_at "my memD"))
  k_with "my all" => (first | with_reducible assumption | with_reducible apply List.forall_mem_nil | (with_reducible apply forall_cons; (k_ne); (walk_at "my all")))
  k_with "call type:bytes" => ((k_here; (with_reducible show wpAny _ _ (call (Value.type "bytes") [Value.bytes _ _]) _ _ _); k_dflt (refine call_bytes_bytes ?_)))
  k_with "call type:bytes" => ((k_here; (with_reducible show wpAny _ _ (call (Value.type "bytes") [Value.int _ _]) _ _ _); k_dflt (refine' call_bytes_int ?qhh0 ?qhh1 ?_; (case qhh0 => omega); (case qhh1 => omega); k_whole); intro _ _ _ _ hz' hzl' hzr'))
  k_with "my fold" => (((fail_if_success (with_reducible show wpAny _ _ _ qk _ _)); first | ((with_reducible show wpAny _ _ _ _ ek _); refine fold_q ?_; k_dflt (intro qk)) | (refine fold_wp ?_; k_dflt (intro qk ek))))
  k_with "exec Assign" => (k_fold)
  k_with "exec If" => (k_fold)
  k_with "exec Return some" => (k_fold)
  k_with "eval Call" => (k_fold)
  k_with "my tail" => ((intro _ hq'; repeat (first | with_reducible exact hq' | with_reducible apply List.mem_cons_of_mem)))
  k_with "my off" => (first | with_reducible assumption | with_reducible apply List.forall_mem_nil | (with_reducible apply forall_cons; (k_ne); (walk_at "my off")) | exact allOf (by assumption) (by walk_at "my tail"))
  k_with "my cut" => (first | with_reducible exact Cut.head | (with_reducible apply Cut.tail; walk_at "my cut"))
  k_with "SeqSrc" => ((k_dflt (refine' SeqSrc.of ?qhF ?qhN ?qhhm ?_; (case qhF => k_asm); (case qhN => k_asm); (case qhhm => k_mem); k_whole); intro I' l1; have l9' := l1; (try first | walk_at "my ltall" | k_lt l1)))
  k_with "SeqRest" => ((k_dflt (first | (refine SeqRest.cons ?_; intro it' h' tk' hc' F' N') | (refine SeqRest.nil ?_; intro h' tk' F' N')); (try k_sweep)))
  k_with "SeqPost" => (dsimp only [SeqPost])
  k_with "SeqEnd" => ((k_dflt (refine' SeqEnd.cut ?qhF ?qhN ?qhc ?qhhm ?qhoff ?_; (case qhF => k_asm); (case qhN => k_asm); (case qhc => walk_at "my cut"); (case qhhm => k_mem); (case qhoff => walk_at "my off"); k_whole)))
  k_with "exec For Name Tuple cons nil" => ((k_here; (with_reducible show wpAny _ _ (exec (Stmt.For _ _ _ [] _) _) _ _ _); k_dflt (refine for_tupS (by passes_own) (fun _ => rfl) rfl ?_)))
  k_with "exec For Name List cons nil" => ((k_here; (with_reducible show wpAny _ _ (exec (Stmt.For _ _ _ [] _) _) _ _ _); k_dflt (refine for_listS (by passes_own) (fun _ => rfl) rfl ?_)))
  trivial
theorem hgood_ret {P : Prop} {h₀ : Heap} {L : Addr} {m : Str → Option Value} {s : Shared} {Q : Value → Shared → Prop} {z : Int} {news : List (Addr × Obj)}
    (hgood : P → ∀ (h' : Heap) (t tk' : Nat), Fr h₀ L h' m → News h₀ L h' news → Q (.int z t) { s with heap := h', toks := tk' })
    {h' : Heap} {t tk' : Nat} {all : List (Addr × Obj)} (F : Fr h₀ L h' m) (N : News h₀ L h' all) (sub : ∀ q ∈ news, q ∈ all) (c : P) : Q (.int z t) { s with heap := h', toks := tk' } :=
  hgood c h' t tk' F fun q hq => N q (sub q hq)
theorem hsize_c : ∀ (w : World) (p : Program) (loose : List Str) (mean : ExcName → Option Value) (mg mb : Str → Option Value) (dp un : Nat) (gd : Option (List Code)) (cn : Str) (cs : Scope) (a : Addr) (ccd : Value) (cl : List (Str × Addr)) (outer : List Env) (A₀ : Around) (base h₀ : Heap) (L : Addr) (m : Str → Option Value) (s : Shared) (Q E : Value → Shared → Prop)
    (news : List (Addr × Obj)) (b : Array UInt8) (tb : Tok) (ks : List Int),
    Below A₀ base outer h₀ → Fr h₀ L s.heap m → (hd.heap_1 w.params).In h₀ → (hd.heap_1 w.params).In base → Top p loose mean mg mb base → News h₀ L s.heap news → Top p loose mean mg mb h₀ → cs.kind = .function →
    dp + 20 < 800 → un + 90 < 9000 → KBw.bInts b = ks → ks.length ≤ 1000 →
    (HeadOk ks → ∀ (h' : Heap) (t tk' : Nat), Fr h₀ L h' m → News h₀ L h' news → Q (.int ((ks.getD 0 0).fmod 16 * 4) t) { s with heap := h', toks := tk' }) →
    (¬ HeadOk ks → ∀ (g' h' : Heap) (e : Addr) (tk' : Nat), Fr h₀ L g' m → RaisedSN base g' (envX cn cs L a ccd cl :: outer) e (.ref 51) news h' → g'.UpToSlots h' → E (.ref e) { s with heap := h', toks := tk' }) →
    wpAny (model PySem.Challenge.rw_on0340_01.row.prog w) (ktrTop dp un gd cn cs L a ccd cl outer) (call (.ref 157) [.bytes b tb]) Q E s := by
  k_fill
  intro w p loose mean mg mb dp un gd cn cs a ccd cl outer A₀ base h₀ L m s Q E news b tb ks B F X XB TB N T hk hdp hun hks hk1 hgood hbad
  refine wpAny_call ?_
  k_dflt cell_enter
  k_steps
  all_goals first
    | (refine' ck_bad hbad ?F ?R ?U ?sub ?c; (case R => assumption); (case F => assumption); (case U => assumption); (case sub => exact fun _ h => h); (case c =>
        intro hc; obtain ⟨c1, c2, c3, c4⟩ := hc; (try simp only [Int.reduceToNat] at *); omega))
    | (refine' hgood_ret hgood ?F ?N ?sub ?c; (case F => assumption); (case N => assumption); (case sub => exact fun _ h => h); (case c =>
        (try simp only [Int.reduceToNat] at *); exact ⟨by omega, by omega, by omega, by omega⟩))
section
variable {w : World} {p : Program} {loose : List Str} {mean : ExcName → Option Value} {mg mb : Str → Option Value} {dp un : Nat} {gd : Option (List Code)} {cn : Str} {cs : Scope} {a : Addr} {ccd : Value} {cl : List (Str × Addr)} {outer : List Env} {A₀ : Around} {base h₀ : Heap} {L : Addr} {m : Str → Option Value} {s : Shared} {Q E : Value → Shared → Prop}
    {news : List (Addr × Obj)} {b : Array UInt8} {tb : Tok} {ks : List Int}
theorem hsize_u (B : Below A₀ base outer h₀) (F : Fr h₀ L s.heap m) (X : (hd.heap_1 w.params).In h₀) (XB : (hd.heap_1 w.params).In base) (TB : Top p loose mean mg mb base) (N : News h₀ L s.heap news) (T : Top p loose mean mg mb h₀) (hk : cs.kind = .function)
    (hd : dp + 20 < 800) (hu : un + 90 < 9000) (hz : KBw.bInts b = ks) (hz1 : ks.length ≤ 1000)
    (hgood : HeadOk ks → ∀ (h' : Heap) (t tk' : Nat), Fr h₀ L h' m → News h₀ L h' news → Q (.int ((ks.getD 0 0).fmod 16 * 4) t) { s with heap := h', toks := tk' })
    (hbad : ¬ HeadOk ks → ∀ (g' h' : Heap) (e : Addr) (tk' : Nat), Fr h₀ L g' m → RaisedSN base g' (envX cn cs L a ccd cl :: outer) e (.ref 51) news h' → g'.UpToSlots h' → E (.ref e) { s with heap := h', toks := tk' }) :
    wpAny (model PySem.Challenge.rw_on0340_01.row.prog w) (ktrTop dp un gd cn cs L a ccd cl outer) (call (.ref 157) [.bytes b tb]) Q E s :=
  hsize_c w p loose mean mg mb dp un gd cn cs a ccd cl outer A₀ base h₀ L m s Q E news b tb ks B F X XB TB N T hk hd hu hz hz1 hgood hbad
end
end

section
open PySem PySem.W PyProof.Rows PySem.Spec PySem.Calls PyProof.Rows.LCg
section
variable {M : Model} {A : Around} {E : Value → Shared → Prop} {s : Shared}
/-- the names of a comprehension, one of them a cell -/
theorem newEnv_cell {scope : Scope} {globals : Addr} {qual x : Str} {around : Env} {b : Addr} {Q : Env → Shared → Prop}
    (hc : ∀ n, cellsFrom n scope.names [] = [(x, n)]) (hp : ∀ h, pushCells h scope.names = h.push { cls := .type "cell", data := .cell none })
    (hQ : Q (newEnv scope s.heap.objs.size globals [(x, s.heap.objs.size + 1)] qual none .none (some around) b) { s with heap := (s.heap.push { cls := .type "dict", data := .dict #[] }).push { cls := .type "cell", data := .cell none } }) :
    wpAny M A (newFunctionEnv scope globals [] [] qual none .none (some around) b) Q E s := by
  simp only [newFunctionEnv, Option.isSome_some, if_true]
  refine wpAny_bind (wpAny_alloc ?_)
  refine wpAny_bind (wpAny_layCells _ (fun name kind cells => by cases hkc : kind == NameKind.cell <;> simp [hkc]) _ _ _ _ ?_)
  rw [hc, hp, show ({ s with heap := s.heap.push { cls := .type "dict", data := .dict #[] } } : Shared).heap.objs.size = s.heap.objs.size + 1 from Heap.size_push ..]
  rw [List.forIn_nil]
  exact wpAny_bind (wpAny_pure (wpAny_pure hQ))
end
section
variable {prog : Program} {w : World} {A : Around} {E : Value → Shared → Prop} {s : Shared} {env : Env} {L : Addr} {m : Str → Option Value}
def CellEnd (L : Addr) (m : Str → Option Value) (s₁ : Shared) (I C D c : Addr) (oI oC oc : Obj) (lp : Addr × Obj) (rest : Heap → List (Addr × Obj) → Prop) (s' : Shared) : Prop :=
  ∃ h tk g nw, s' = { s₁ with heap := h, toks := tk } ∧ Fr g L h m ∧ News g L h ((I, oI) :: (C, oC) :: (D, lst []) :: (c, oc) :: nw) ∧ lp ∈ nw ∧ (∀ q ∈ nw, q.1 ≠ I ∧ q.1 ≠ C ∧ q.1 ≠ D ∧ q.1 ≠ c) ∧ rest g nw
def CellRest (prog : Program) (w : World) (A : Around) (env : Env) (ct : Expr) (scope : Scope) (x : Str) (L : Addr) (m : Str → Option Value) (Q : Value → Shared → Prop) (s₁ : Shared) (I C D c : Addr) (lp : Addr × Obj) : List Value → Heap → List (Addr × Obj) → Prop
  | [], g, nw => ∀ h tk, Fr g L h m → News g L h ((D, lst []) :: nw) → Q (.ref D) { s₁ with heap := h, toks := tk }
  | v :: r, g, nw => ∀ (oI oC oc : Obj) h tk (E' : Value → Shared → Prop), oc.data = .cell (some v) → Fr g L h m → News g L h ((I, oI) :: (C, oC) :: (D, lst []) :: (c, oc) :: nw) →
      wpAny (model prog w) A (isTrue ct (compEnvC scope [(x, c)] C env) (eval ct (compEnvC scope [(x, c)] C env))) (fun ok s' => ok = false ∧ CellEnd L m s₁ I C D c oI oC oc lp (CellRest prog w A env ct scope x L m Q s₁ I C D c lp r) s') E' { s₁ with heap := h, toks := tk }
def CellSrc (prog : Program) (w : World) (A : Around) (env : Env) (ct : Expr) (scope : Scope) (x : Str) (L : Addr) (m : Str → Option Value) (Q : Value → Shared → Prop) (xv : Value) (s₁ : Shared) : Prop :=
  ∃ ax vs n g news, xv = .ref ax ∧ Fr g L s₁.heap m ∧ News g L s₁.heap news ∧ (ax, ({ cls := .type "list", data := .seq (List.toArray vs) n } : Obj)) ∈ news ∧
    ∀ I C D c, (∀ q ∈ news, q.1 < I) → @LT.lt Nat _ I D → @LT.lt Nat _ D C → @LT.lt Nat _ C c → CellRest prog w A env ct scope x L m Q s₁ I C D c (ax, { cls := .type "list", data := .seq (List.toArray vs) n }) vs g news
theorem cell_core {ct elt iter : Expr} {x : Str} {px : Pos} {scope : Scope} {pos : Pos} {Q : Value → Shared → Prop} {H g : Heap} {tk : Nat} {I C D c ax : Addr} {lo : Obj} {vs : List Value} {news : List (Addr × Obj)} {mC : Str → Option Value}
    (W : Walks prog w A I [I, ax] [I] vs.length (fun i v => vs.toArray[i]? = some v) (fun i h => h.IsListIter I ax i ∧ h.IsList ax vs.toArray)) (hlo : ∀ h : Heap, h.get? ax = some lo → h.IsList ax vs.toArray)
    (hkind : scope.kind = .function) (hx : (compEnvC scope [(x, c)] C env).kindOf x = some .cell)
    (hit : H.IsListIter I ax 0) (F : Fr g L H m) (hC : H.Ns C mC) (hc : ∃ v, H.IsCell c v) (N : News g L H ((D, lst []) :: news)) (hm : (ax, lo) ∈ news) (off : ∀ q ∈ news, q.1 ≠ I ∧ q.1 ≠ C ∧ q.1 ≠ D ∧ q.1 ≠ c)
    (nI : g.get? I = none) (nC : g.get? C = none) (nc : g.get? c = none) (hIC : I ≠ C) (hID : I ≠ D) (hIc : I ≠ c) (hCD : C ≠ D) (hCc : C ≠ c) (hDc : D ≠ c) (hLI : L ≠ I) (hLC : L ≠ C) (hLc : L ≠ c)
    (rest : CellRest prog w A env ct scope x L m Q s I C D c (ax, lo) vs g news) :
    codeAny (model prog w) A (.compLoop (.ListComp elt [⟨.Name x px, iter, [ct], 0⟩] scope pos) 0 (.ref I) (.ref D) (compEnvC scope [(x, c)] C env)) (compPost (model prog w) A E none Q (.ref D) C) { s with heap := H, toks := tk } := by
  refine comp_turns (fun k s' => ∃ h tk i g mC nw, s' = { s with heap := h, toks := tk } ∧ i ≤ vs.length ∧ k = vs.length + 1 - i ∧ h.IsListIter I ax i ∧ Fr g L h m ∧ h.Ns C mC ∧ (∃ v, h.IsCell c v) ∧ News g L h ((D, lst []) :: nw) ∧ (ax, lo) ∈ nw ∧
      (∀ q ∈ nw, q.1 ≠ I ∧ q.1 ≠ C ∧ q.1 ≠ D ∧ q.1 ≠ c) ∧ g.get? I = none ∧ g.get? C = none ∧ g.get? c = none ∧ CellRest prog w A env ct scope x L m Q s I C D c (ax, lo) (vs.drop i) g nw) ?_ (vs.length + 1)
    ⟨H, tk, 0, g, mC, news, rfl, Nat.zero_le _, rfl, hit, F, hC, hc, N, hm, off, nI, nC, nc, by rw [List.drop_zero]; exact rest⟩
  intro n s' hh9
  refine foldP ?_
  intro P9
  obtain ⟨h, tk', i, g, mC, nw, e91, hi, e92, hit, F, hC, ⟨v0, hc⟩, N, hm, off, nI, nC, nc, rest⟩ := hh9
  k_unfold
  clear P9
  subst e91
  subst e92
  have st : h.IsListIter I ax i ∧ h.IsList ax vs.toArray := ⟨hit, hlo h (N _ (List.mem_cons_of_mem _ hm)).1⟩
  by_cases hlt : i < vs.length
  · refine W.item i _ _ _ hlt st fun v h2 tk2 hv st2 hk2 => ?_
    have hv' : vs[i]? = some v := by simpa using hv
    have hdrop : vs.drop i = v :: vs.drop (i + 1) := by
      rw [List.drop_eq_getElem_cons hlt]
      congr 1
      exact Option.some.inj ((List.getElem?_eq_getElem hlt).symm.trans hv')
    rw [hdrop] at rest
    have k2 : ∀ b o, b ≠ I → h.get? b = some o → h2.get? b = some o := fun b o hb e => hk2 b o (by simpa using hb) e
    refine letGo_listiter st2.1 ?_
    have hc2 : h2.IsCell c v0 := by obtain ⟨o, e, d⟩ := hc; exact ⟨o, k2 _ _ (Ne.symm hIc) e, d⟩
    refine wpAny_assign_Name (wpAny_storeName_cell (by exact hkind) hx (by simp [compEnvC]) hc2 fun h3 hc3 hs3 => ?_)
    have k3 : ∀ b o, b ≠ I → b ≠ c → h.get? b = some o → h3.get? b = some o := fun b o hb hb2 e => hs3.extBut b o hb2 (k2 b o hb e)
    have hI3 : h3.IsListIter I ax (i + 1) := st2.1.extBut hs3.extBut hIc
    obtain ⟨oI, eI, cI⟩ := id hI3
    obtain ⟨oC, eC, nCo⟩ := ns_obj (hC.at' fun o e => k3 _ o (Ne.symm hIC) hCc e : h3.Ns C mC)
    obtain ⟨oc, ec, dc⟩ := hc3
    have F3 : Fr g L h3 m := ⟨F.ns.at' fun o e => k3 L o hLI hLc e, fun b o e => k3 b o (fun q => by rw [q, nI] at e; cases e) (fun q => by rw [q, nc] at e; cases e) (F.keep b o e), F.above⟩
    have N3 : News g L h3 ((I, oI) :: (C, oC) :: (D, lst []) :: (c, oc) :: nw) := fun q hq => by
      rcases List.mem_cons.mp hq with rfl | hq
      · exact ⟨eI, Ne.symm hLI, nI⟩
      · rcases List.mem_cons.mp hq with rfl | hq
        · exact ⟨eC, Ne.symm hLC, nC⟩
        · rcases List.mem_cons.mp hq with rfl | hq
          · have z := N _ List.mem_cons_self
            exact ⟨k3 _ _ (Ne.symm hID) hDc z.1, z.2⟩
          · rcases List.mem_cons.mp hq with rfl | hq
            · exact ⟨ec, Ne.symm hLc, nc⟩
            · have z := N q (List.mem_cons_of_mem _ hq)
              exact ⟨k3 _ _ (off q hq).1 (off q hq).2.2.2 z.1, z.2⟩
    refine wpAny_mono (rest oI oC oc h3 tk2 _ dc F3 N3) (fun ok s6 h6 => ?_) fun _ _ e => e
    refine foldP ?_
    intro P9
    obtain ⟨e91, h7, tk7, g7, nw7, e92, F7, N7, hm7, off7, r7⟩ := h6
    k_unfold
    clear P9
    subst e91
    subst e92
    simp only [Bool.false_eq_true, if_false]
    have zI := N7 (I, oI) List.mem_cons_self
    have zC := N7 (C, oC) (List.mem_cons_of_mem _ List.mem_cons_self)
    have zD := N7 (D, lst []) (List.mem_cons_of_mem _ (List.mem_cons_of_mem _ List.mem_cons_self))
    have zc := N7 (c, oc) (List.mem_cons_of_mem _ (List.mem_cons_of_mem _ (List.mem_cons_of_mem _ List.mem_cons_self)))
    exact ⟨vs.length + 1 - (i + 1), by omega, h7, tk7, i + 1, g7, _, nw7, rfl, hlt, rfl, ⟨oI, zI.1, cI⟩, F7, nCo.ns zC.1, ⟨_, oc, zc.1, dc⟩, fun q hq => by
      rcases List.mem_cons.mp hq with rfl | hq
      · exact zD
      · exact N7 q (List.mem_cons_of_mem _ (List.mem_cons_of_mem _ (List.mem_cons_of_mem _ (List.mem_cons_of_mem _ hq)))), hm7, off7, zI.2.2, zC.2.2, zc.2.2, r7⟩
  · obtain rfl : i = vs.length := Nat.le_antisymm hi (Nat.not_lt.mp hlt)
    refine W.done _ _ _ st fun h2 tk2 hk2 => ?_
    have k2 : ∀ b o, b ≠ I → h.get? b = some o → h2.get? b = some o := fun b o hb e => hk2 b o (by simpa using hb) e
    refine ⟨mC, hC.at' fun o e => k2 _ o (Ne.symm hIC) e, fun h'' hs'' => ?_⟩
    have k9 : ∀ b o, b ≠ I → b ≠ C → h.get? b = some o → h''.get? b = some o := fun b o hb hb2 e => hs''.extBut b o hb2 (k2 b o hb e)
    rw [List.drop_length] at rest
    refine rest h'' tk2 ⟨F.ns.at' fun o e => k9 L o hLI hLC e, fun b o e => k9 b o (fun q => by rw [q, nI] at e; cases e) (fun q => by rw [q, nC] at e; cases e) (F.keep b o e), F.above⟩ fun q hq => ?_
    have z := N q hq
    rcases List.mem_cons.mp hq with rfl | hq
    · exact ⟨k9 _ _ (Ne.symm hID) (Ne.symm hCD) z.1, z.2⟩
    · exact ⟨k9 _ _ (off q hq).1 (off q hq).2.1 z.1, z.2⟩
theorem comp_cell {g₀ : Heap} {ct elt iter : Expr} {x : Str} {px : Pos} {scope : Scope} {pos : Pos} {Q : Value → Shared → Prop} (_F : Fr g₀ L s.heap m) (hLe : env.locals = L) (hclos : closureFor scope env = pure [])
    (hc : ∀ n, cellsFrom n scope.names [] = [(x, n)]) (hp : ∀ h, pushCells h scope.names = h.push { cls := .type "cell", data := .cell none }) (hkind : scope.kind = .function)
    (hnames : ∀ y ∈ scope.names, y.2 = .local → scope.names.lookup y.1 = some .local) (hx : ∀ C c, (compEnvC scope [(x, c)] C env).kindOf x = some .cell) (hh : A.handled = none)
    (h : wpAny (model prog w) A (eval iter env) (CellSrc prog w A env ct scope x L m Q) E s) (hs : ∀ x, foldedSetIterable iter env x = pure x := by intro _; rfl) :
    wpAny (model prog w) A (eval (.ListComp elt [⟨.Name x px, iter, [ct], 0⟩] scope pos) env) Q E s := by
  rw [eval_ListComp]
  refine wpAny_comprehension_free (use := none) rfl hs hclos hkind hnames (wpAny_mono h (fun xv s₁ h₁ => ?_) fun _ _ e => e)
  refine foldP ?_
  intro P9
  obtain ⟨ax, vs, n, g, news, e91, F, N, hm, rest⟩ := h₁
  k_unfold
  clear P9
  subst e91
  have hl : s₁.heap.IsList ax vs.toArray := ⟨_, (N _ hm).1, rfl, n, rfl⟩
  refine wpAny_pyIter_list hl ?_
  refine wpAny_newObj_type (newEnv_cell hc hp ?_)
  dsimp only
  generalize hG : s₁.heap.push { cls := .type "list_iterator", data := .fields #[.ref ax, .int 0 0] } = G
  have up1 : ∀ b o, s₁.heap.get? b = some o → G.get? b = some o := fun b o e => hG ▸ Heap.get?_push_of_some _ e
  have hI : G.get? s₁.heap.objs.size = some { cls := .type "list_iterator", data := .fields #[.ref ax, .int 0 0] } := hG ▸ Heap.get?_push_size _ rfl
  have hGs : G.objs.size = s₁.heap.objs.size + 1 := by rw [← hG, Heap.size_push]
  generalize hH2 : G.push { cls := .type "list", dict := none, data := .seq ([] : List Value).toArray } = H2
  have up2 : ∀ b o, G.get? b = some o → H2.get? b = some o := fun b o e => hH2 ▸ Heap.get?_push_of_some _ e
  have hD2 : H2.get? G.objs.size = some (lst []) := hH2 ▸ Heap.get?_push_size _ rfl
  have hCs : H2.objs.size = s₁.heap.objs.size + 1 + 1 := by rw [← hH2, Heap.size_push, hGs]
  generalize hH3 : H2.push { cls := .type "dict", data := .dict #[] } = H3
  have up3 : ∀ b o, H2.get? b = some o → H3.get? b = some o := fun b o e => hH3 ▸ Heap.get?_push_of_some _ e
  have hC3 : H3.get? H2.objs.size = some { cls := .type "dict", data := .dict #[] } := hH3 ▸ Heap.get?_push_size _ rfl
  have hcs : H3.objs.size = s₁.heap.objs.size + 1 + 1 + 1 := by rw [← hH3, Heap.size_push, hCs]
  have hns3 : H3.Ns H2.objs.size fun _ => none := hH3 ▸ Heap.Ns.new H2 (.type "dict")
  generalize hH4 : H3.push { cls := .type "cell", data := .cell none } = H4
  have up4 : ∀ b o, H3.get? b = some o → H4.get? b = some o := fun b o e => hH4 ▸ Heap.get?_push_of_some _ e
  have hc4 : H4.get? H3.objs.size = some { cls := .type "cell", data := .cell none } := hH4 ▸ Heap.get?_push_size _ rfl
  have all : ∀ b o, s₁.heap.get? b = some o → H4.get? b = some o := fun b o e => up4 b o (up3 b o (up2 b o (up1 b o e)))
  have lt : ∀ {b o}, s₁.heap.get? b = some o → b < s₁.heap.objs.size := fun e => Heap.lt_size e
  have hcC : H3.objs.size = H2.objs.size + 1 := by rw [hcs, hCs]
  have fresh : ∀ b, s₁.heap.objs.size ≤ b → g.get? b = none := fun b hb => by
    cases e : g.get? b with
    | none => rfl
    | some o => exact absurd (lt (F.keep b o e)) (Nat.not_lt.mpr hb)
  have hLlt : L < s₁.heap.objs.size := F.ns.lt
  rw [← hcC]
  have hr := rest s₁.heap.objs.size H2.objs.size G.objs.size H3.objs.size (fun q hq => lt (N q hq).1) (by rw [hGs]; exact Nat.lt_succ_self _) (by rw [hGs, hCs]; exact Nat.lt_succ_self _) (by rw [hcs, hCs]; exact Nat.lt_succ_self _)
  have hax : ax < s₁.heap.objs.size := lt (N _ hm).1
  have ne1 : ∀ b, b < s₁.heap.objs.size → b ≠ s₁.heap.objs.size ∧ b ≠ H2.objs.size ∧ b ≠ G.objs.size ∧ b ≠ H3.objs.size := fun b hb =>
    ⟨Nat.ne_of_lt hb, by rw [hCs]; exact Nat.ne_of_lt (by omega), by rw [hGs]; exact Nat.ne_of_lt (by omega), by rw [hcs]; exact Nat.ne_of_lt (by omega)⟩
  have W : Walks prog w A s₁.heap.objs.size [s₁.heap.objs.size, ax] [s₁.heap.objs.size] vs.length (fun i v => vs.toArray[i]? = some v) (fun i h => h.IsListIter s₁.heap.objs.size ax i ∧ h.IsList ax vs.toArray) := by
    have := Walks.list (prog := prog) (w := w) hh s₁.heap.objs.size ax (Nat.ne_of_lt hax) vs.toArray
    rw [List.size_toArray] at this
    exact this
  have hit4 : H4.IsListIter s₁.heap.objs.size ax 0 := ⟨_, up4 _ _ (up3 _ _ (up2 _ _ hI)), rfl, rfl⟩
  have core := cell_core (elt := elt) (iter := iter) (px := px) (pos := pos) (s := s₁) (H := H4) (tk := s₁.toks) (I := s₁.heap.objs.size) (C := H2.objs.size) (D := G.objs.size) (c := H3.objs.size) (E := E) W (fun h e => ⟨_, e, rfl, n, rfl⟩) hkind (hx _ _) hit4
    (F.keeps all) (hns3.keeps up4) ⟨none, _, hc4, rfl⟩ (fun q hq => by
      rcases List.mem_cons.mp hq with rfl | hq
      · exact ⟨up4 _ _ (up3 _ _ hD2), Ne.symm (ne1 L hLlt).2.2.1, fresh _ (by rw [hGs]; exact Nat.le_succ _)⟩
      · exact ⟨all _ _ (N q hq).1, (N q hq).2⟩) hm (fun q hq => by have := ne1 q.1 (lt (N q hq).1); exact ⟨this.1, this.2.1, this.2.2.1, this.2.2.2⟩)
    (fresh _ (Nat.le_refl _)) (fresh _ (by rw [hCs]; omega)) (fresh _ (by rw [hcs]; omega))
    (by rw [hCs]; exact Nat.ne_of_lt (by omega)) (by rw [hGs]; exact Nat.ne_of_lt (by omega)) (by rw [hcs]; exact Nat.ne_of_lt (by omega)) (by rw [hCs, hGs]; exact Ne.symm (Nat.ne_of_lt (by omega))) (by rw [hCs, hcs]; exact Nat.ne_of_lt (by omega)) (by rw [hGs, hcs]; exact Nat.ne_of_lt (by omega))
    (ne1 L hLlt).1 (ne1 L hLlt).2.1 (ne1 L hLlt).2.2.2 hr
  refine codeAny_compStart_list core (W.self 0 _ _ _ ?_ core)
  exact ⟨hit4, ⟨_, all _ _ (N _ hm).1, rfl, n, rfl⟩⟩
end
end

section
open PySem PySem.W PyProof.Rows PySem.Spec PySem.Calls
theorem mk_eq {name qual : Str} {params : Arguments} {body : Expr} {scope sc cs : Scope} {cl cl0 : List (Str × Addr)} {C L a : Addr} {cn : Str} {ccd : Value} {pos : Pos} {line : Nat} :
    makeFunction name qual params (.expr body) scope (compEnvC sc cl C (envX cn cs L a ccd cl0)) [] [] [] pos line =
    makeFunction name qual params (.expr body) scope (envX cn (relabel sc (envX cn cs L a ccd cl0)) L a ccd cl) [] [] [] pos line := rfl
theorem lam_comp {M : Model} {A : Around} {E : Value → Shared → Prop} {s : Shared} {Q : Value → Shared → Prop} {params : Arguments} {body : Expr} {scope sc cs : Scope} {cl cl0 : List (Str × Addr)} {C L a : Addr} {cn : Str} {ccd : Value} {pos : Pos}
    (hdef : defaultsOf params (compEnvC sc cl C (envX cn cs L a ccd cl0)) = ([], []))
    (h : wpAny M A (makeFunction "<lambda>" ((envX cn cs L a ccd cl0).qual ++ "<lambda>") params (.expr body) scope (envX cn (relabel sc (envX cn cs L a ccd cl0)) L a ccd cl) [] [] [] pos pos.line) Q E s) :
    wpAny M A (eval (.Lambda params body scope pos) (compEnvC sc cl C (envX cn cs L a ccd cl0))) Q E s :=
  kla_eval hdef (by rw [mk_eq]; exact h)
end

section
open PySem PySem.W PyProof.Rows PySem.Spec PySem.Calls
/-- a comprehension by an invariant: its test is walked once -/
theorem cell_inv {prog : Program} {w : World} {A : Around} {env : Env} {ct : Expr} {scope : Scope} {x : Str} {L : Addr} {m : Str → Option Value} {Q : Value → Shared → Prop} {s₁ : Shared} {I C D c : Addr} {lp : Addr × Obj}
    (P : Value → Prop) (J : Nat → Heap → List (Addr × Obj) → Prop)
    (turn : ∀ v i g nw (oI oC oc : Obj) h tk (E' : Value → Shared → Prop), P v → J i g nw → oc.data = .cell (some v) → Fr g L h m → News g L h ((I, oI) :: (C, oC) :: (D, LCg.lst []) :: (c, oc) :: nw) →
      wpAny (model prog w) A (isTrue ct (compEnvC scope [(x, c)] C env) (eval ct (compEnvC scope [(x, c)] C env))) (fun ok s' => ok = false ∧ CellEnd L m s₁ I C D c oI oC oc lp (J (i + 1)) s') E' { s₁ with heap := h, toks := tk })
    (done : ∀ i g nw h tk, 0 < i → J i g nw → Fr g L h m → News g L h ((D, LCg.lst []) :: nw) → Q (.ref D) { s₁ with heap := h, toks := tk }) :
    ∀ (vs : List Value) (i : Nat) (g : Heap) (nw : List (Addr × Obj)), 0 < i ∨ vs ≠ [] → (∀ v ∈ vs, P v) → J i g nw → CellRest prog w A env ct scope x L m Q s₁ I C D c lp vs g nw
  | [], i, g, nw, h0, _, j => fun h tk F N => done i g nw h tk (h0.elim id fun x => absurd rfl x) j F N
  | v :: r, i, g, nw, _, hP, j => fun oI oC oc h tk E' d F N =>
    wpAny_mono (turn v i g nw oI oC oc h tk E' (hP v List.mem_cons_self) j d F N) (fun _ _ h₂ => ⟨h₂.1, by
      obtain ⟨-, h7, tk7, g7, nw7, e7, F7, N7, hm7, off7, r7⟩ := h₂
      exact ⟨h7, tk7, g7, nw7, e7, F7, N7, hm7, off7, cell_inv P J turn done r (i + 1) g7 nw7 (.inl (Nat.succ_pos _)) (fun x hx => hP x (List.mem_cons_of_mem _ hx)) r7⟩⟩) fun _ _ e => e
end

section
open PySem PySem.W PyProof.Rows PySem.Spec PySem.Calls
theorem wordsFix1 : True := by
  k_with_none
  w_top off
  k_with "my k_all" => (with_reducible assumption)
  k_with "exec Raise some none" => ((k_here; (with_reducible show wpAny _ _ (exec (Stmt.Raise (some _) none _) _) _ _ _); k_dflt (refine exec_raise ?qhh0 ?_; (case qhh0 => first | rfl | assumption))))
  k_with "call ref" => ((k_here; (with_reducible show wpAny _ _ (call (Value.ref _) [Value.str _ _]) (fun v s₁ => Rd s₁ v ∧ _) _ _); k_dflt (refine' exc_rd (t := _) ?qhX ?qhhh ?qhhd ?qhhu ?qhhC ?_; (case qhhC => first | exact Or.inl rfl | exact Or.inr rfl); (case qhX => k_in); (case qhhh => first | rfl | assumption); (case qhhd => walk_at "my room"); (case qhhu => walk_at "my room"); k_whole); intro h' e' tk' x'))
  k_with "my room" => (first
  | exact Nat.le_of_ble_eq_true rfl
  | ((try simp only [depth_mark, depth_under_make, depth_under_kw, depth_in1, depth_deeper, units_in1, units_deeper, Around.mark_units, units_caller, ktrTop]); omega))
  k_with "leaving ref" => ((k_here; (with_reducible show wpAny _ _ (leaving _ (Value.ref _)) _ _ _); first
  | (k_dflt (refine' leave_newX ?qhk1 ?qhk0 ?qhk2 ?qhk3 ?qhkf ?qhkk ?_; (case qhk0 => assumption); (case qhk2 => assumption); (case qhk1 => assumption); (case qhk3 => k_asm); (case qhkf => exact rfl); (case qhkk => exact rfl); k_whole); intro h' R' U'; (try dsimp only at R' U' ⊢))
  | (k_dflt (refine' leave_onX ?qhk1 ?qhk2 ?qhk3 ?qhk4 ?qhkf ?_; (case qhk3 => assumption); (case qhk2 => assumption); (case qhk1 => assumption); (case qhk4 => assumption); (case qhkf => exact rfl); k_whole); intro h' R' U'; (try dsimp only at R' U' ⊢))))
  k_with "call ref" => ((k_here; (with_reducible show wpAny _ _ (call (Value.ref 253) _) _ _ _); k_dflt (refine wpAny_call ?_; refine' enterS ?qhk1 ?qhk2 ?qhk3 ?qhk4 ?qhk5 ?qhXB ?qhTB ?qhD ?qhT0 ?qhkA ?qhkf ?qhkK ?qhk6 ?qhk7 ?qhk8 ?qhk9 ?qhkB ?_ ?qhc2 ?qhc3 ?qhc4 ?qhc5; (case qhkA => exact rfl); (case qhkf => exact rfl); (case qhkK => exact rfl); (case qhk1 => k_asm); (case qhk2 => k_asm); (case qhk3 => k_asm); (case qhk4 => k_asm); (case qhk5 => k_asm); (case qhXB => with_reducible assumption); (case qhTB => with_reducible assumption); (case qhD => first | with_reducible assumption | assumption); (case qhT0 => first | assumption | exact KtsTurn.refl); (case qhk6 => k_is); (case qhk7 => k_is); (case qhk8 => ktr_room); (case qhk9 => exact BindsTo.of_eq rfl); (case qhkB => exact locs rfl); (case qhc2 => exact rfl); (case qhc3 => exact rfl); (case qhc4 => exact rfl); (case qhc5 => decide); k_whole; intro g' L' h' FG' F' N' B' X' T' D'; (try dsimp only); (try k_lift B'); (try k_fold))))
  k_with "call ref" => ((k_here; (with_reducible show wpAny _ _ (call (Value.ref 239) _) _ _ _); k_dflt (refine' take_u ?qhk1 ?qhk2 ?qhk3 ?qhk4 ?qhk5 ?qhU ?qhkK ?qha0 ?qhb0 ?qhb1 ?qht0 ?qht1 ?qhkd ?qhku ?_; (case qhk1 => k_asm); (case qhk2 => k_asm); (case qhk3 => k_asm); (case qhk4 => k_asm); (case qhU => k_updF); (case qhk5 => k_asm); (case qhkK => first | exact rfl | assumption); (case qha0 => first | assumption | omega); (case qhb0 => first | assumption | omega); (case qhb1 => first | assumption | omega); (case qht0 => omega); (case qht1 => omega); (case qhkd => ktr_room); (case qhku => walk_at "my units"); k_whole); intro v' a' b' t' ta' tb' h' tk' hv0 hv1 ha' hb' hb1' F' ol' N'; (try dsimp only at N'); (try k_sweep)))
  k_with "my units" => (first | exact Nat.lt_of_succ_le (Nat.le_of_ble_eq_true rfl) | ((try simp only [cLine, units_in1, units_deeper, Around.mark_units, units_caller, ktrTop]); omega) | ktr_units)
  k_with "my enterC0" => ((refine' enterC0 ?qhk1 ?qhk2 ?qhk3 ?qhk4 ?qhk5 ?qhkA ?qhkf ?qhkK ?qhk6 ?qhk7 ?qhk8 ?qhk9 ?qhkB ?qhkD ?_ ?qhc2 ?qhc3 ?qhc4; (case qhkA => exact rfl); (case qhkf => exact rfl); (case qhkK => first | exact rfl | assumption); (case qhk1 => k_asm); (case qhk2 => k_asm); (case qhk3 => k_asm); (case qhk4 => k_asm); (case qhk5 => k_asm); (case qhk6 => k_is); (case qhk7 => k_is); (case qhk8 => ktr_room); (case qhk9 => exact BindsTo.of_eq rfl); (case qhkB => exact rfl); (case qhkD => decide +kernel); (case qhc2 => exact rfl); (case qhc3 => exact rfl); (case qhc4 => exact rfl); k_whole; intro g' L' h' tk' cells' FG' F' N' Y' B' X' T' D' l1; (try k_lt l1); k_cells Y'; (try simp only [List.cons_append, List.nil_append] at N'); (try dsimp only); (try k_lift B'); (try k_fold)))
  k_with "my k_room" => (ktr_room)
  k_with "callWith ref" => ((k_here; k_dflt (refine' callWith_K ?qhk1 ?qhk2 ?_; (case qhk1 => k_asm); (case qhk2 => k_is); k_whole)))
  k_with "my mem" => (first | with_reducible apply List.mem_cons_self | (with_reducible apply List.mem_cons_of_mem; walk_at "my mem"))
  k_with "my memD" => (first | apply List.mem_cons_self | (with_reducible apply List.mem_cons_of_mem; walk_at "my memD"))
  k_with "my all" => (first | with_reducible assumption | with_reducible apply List.forall_mem_nil | (with_reducible apply forall_cons; (k_ne); (walk_at "my all")))
  k_with "call type:bytes" => ((k_here; (with_reducible show wpAny _ _ (call (Value.type "bytes") [Value.bytes _ _]) _ _ _); k_dflt (refine call_bytes_bytes ?_)))
  k_with "call type:bytes" => ((k_here; (with_reducible show wpAny _ _ (call (Value.type "bytes") [Value.int _ _]) _ _ _); k_dflt (refine' call_bytes_int ?qhh0 ?qhh1 ?_; (case qhh0 => omega); (case qhh1 => omega); k_whole); intro _ _ _ _ hz' hzl' hzr'))
  k_with "my fold" => (((fail_if_success (with_reducible show wpAny _ _ _ qk _ _)); first | ((with_reducible show wpAny _ _ _ _ ek _); refine fold_q ?_; k_dflt (intro qk)) | (refine fold_wp ?_; k_dflt (intro qk ek))))
  k_with "my on" => (skip)
  k_with "my each" => (first | ((with_reducible show Each _ _ (List.cons _ _)); k_dflt (intro _); walk_at "my each") | ((with_reducible show Each _ _ List.nil); refine each_nil ?_) | skip)
  k_with "my eachN" => (first | ((with_reducible show EachN _ _ (List.cons _ _)); k_dflt (intro _); walk_at "my eachN") | ((with_reducible show EachN _ _ List.nil); refine eachN_nil ?_) | skip)
  k_with "my und" => ((first | (first | with_reducible assumption | with_reducible exact Und.self | with_reducible exact Nxt.und (by assumption) | (with_reducible refine Und.trans ?_ (by assumption); with_reducible assumption)) | (with_reducible refine Nxt.und2 (by assumption) ?_; (first | with_reducible assumption | with_reducible exact Und.self | with_reducible exact Nxt.und (by assumption) | (with_reducible refine Und.trans ?_ (by assumption); with_reducible assumption))) | (first | with_reducible assumption | with_reducible exact Und.self | with_reducible exact Nxt.und (by assumption) | (with_reducible refine Und.up ?_; (first | with_reducible assumption | with_reducible exact Und.self | with_reducible exact Nxt.und (by assumption) | (with_reducible refine Und.up ?_; (first | with_reducible assumption | with_reducible exact Und.self | with_reducible exact Nxt.und (by assumption) | (with_reducible refine Und.up ?_; (first | with_reducible assumption | with_reducible exact Und.self | with_reducible exact Nxt.und (by assumption) | (with_reducible refine Und.up ?_; (first | with_reducible assumption | with_reducible exact Und.self | with_reducible exact Nxt.und (by assumption) | (with_reducible refine Und.up ?_; (first | with_reducible assumption | with_reducible exact Und.self | with_reducible exact Nxt.und (by assumption) | (with_reducible refine Und.up ?_; (first | with_reducible assumption | with_reducible exact Und.self | with_reducible exact Nxt.und (by assumption) | (with_reducible refine Und.up ?_; (first | with_reducible assumption | with_reducible exact Und.self | with_reducible exact Nxt.und (by assumption) | (with_reducible refine Und.up ?_; (first | with_reducible assumption | with_reducible exact Und.self | with_reducible exact Nxt.und (by assumption))))))))))))))))))))
  k_with "my le" => (((try dsimp only); first | exact Nat.le_refl _ | exact Und.le2 (by with_reducible assumption) | exact Und.le (by walk_at "my und")))
  k_with "my ne" => (((try dsimp only); first | exact Und.ne (by with_reducible assumption) | exact Und.ne2 (by with_reducible assumption) | exact Dif.ne (by with_reducible assumption) | exact Dif.ne2 (by with_reducible assumption) | exact Nat.ne_of_beq_eq_false rfl | with_reducible assumption | exact Ne.symm (by with_reducible assumption) | exact Und.ne (by walk_at "my und") | exact Und.ne2 (by walk_at "my und")))
  k_with "my eachA" => (first | ((with_reducible show Each _ _ (List.cons _ _)); k_dflt (intro _); walk_at "my eachA") | ((with_reducible show Each _ _ List.nil); refine each_nil ?_) | skip)
  k_with "my ltall" => (((refine each_of l1 ?_); (walk_at "my eachA"); (try (with_reducible show Each _ _ _); first | refine each_drop (by with_reducible assumption) (fun _ hq' => l1 _ (by repeat (first | with_reducible exact hq' | with_reducible apply List.mem_cons_of_mem))) ?_ | (refine each_tail (fun _ hq' => l1 _ (by repeat (first | with_reducible exact hq' | with_reducible apply List.mem_cons_of_mem))) ?_; k_dflt (intro _))); clear l1))
  k_with "exec Assign" => (k_fold)
  k_with "exec If" => (k_fold)
  k_with "exec Return some" => (k_fold)
  k_with "eval Call" => (k_fold)
  k_with "my tail" => ((intro _ hq'; repeat (first | with_reducible exact hq' | with_reducible apply List.mem_cons_of_mem)))
  k_with "my off" => (first | with_reducible assumption | with_reducible apply List.forall_mem_nil | (with_reducible apply forall_cons; (k_ne); (walk_at "my off")) | exact allOf (by assumption) (by walk_at "my tail"))
  k_with "my cut" => (first | with_reducible exact Cut.head | (with_reducible apply Cut.tail; walk_at "my cut"))
  k_with "SeqSrc" => ((k_dflt (refine' SeqSrc.of ?qhF ?qhN ?qhhm ?_; (case qhF => k_asm); (case qhN => k_asm); (case qhhm => k_mem); k_whole); intro I' l1; have l9' := l1; (try first | walk_at "my ltall" | k_lt l1)))
  k_with "SeqRest" => ((k_dflt (first | (refine SeqRest.cons ?_; intro it' h' tk' hc' F' N') | (refine SeqRest.nil ?_; intro h' tk' F' N')); (try k_sweep)))
  k_with "SeqPost" => (dsimp only [SeqPost])
  k_with "SeqEnd" => ((k_dflt (refine' SeqEnd.cut ?qhF ?qhN ?qhc ?qhhm ?qhoff ?_; (case qhF => k_asm); (case qhN => k_asm); (case qhc => walk_at "my cut"); (case qhhm => k_mem); (case qhoff => walk_at "my off"); k_whole)))
  k_with "exec For Name Tuple cons nil" => ((k_here; (with_reducible show wpAny _ _ (exec (Stmt.For _ _ _ [] _) _) _ _ _); k_dflt (refine for_tupS (by passes_own) (fun _ => rfl) rfl ?_)))
  k_with "exec For Name List cons nil" => ((k_here; (with_reducible show wpAny _ _ (exec (Stmt.For _ _ _ [] _) _) _ _ _); k_dflt (refine for_listS (by passes_own) (fun _ => rfl) rfl ?_)))
  k_with "my k_all" => (exact allLt_ne2 (by assumption) (by walk_at "my le"))
  k_with "call ref" => ((k_here; (with_reducible show wpAny _ _ (call (Value.ref 246) _) _ _ _); k_dflt (refine' one_i ?qhk1 ?qhk2 ?qhk3 ?qhk4 ?qhk5 ?qhU ?qhhm ?qhhne ?qhkK ?qhhv ?qha0 ?qhb0 ?qhb1 ?qht0 ?qht1 ?qhkd ?qhku ?_; (case qhk1 => k_asm); (case qhk2 => k_asm); (case qhk3 => k_asm); (case qhk4 => k_asm); (case qhU => k_updF); (case qhhm => k_mem); (case qhhne => k_ne); (case qhk5 => k_asm); (case qhkK => first | exact rfl | assumption); (case qhhv => exact four_bd (by decide +kernel) (by decide +kernel) (by decide +kernel)); (case qha0 => assumption); (case qhb0 => assumption); (case qhb1 => assumption); (case qht0 => exact Nat.le_of_ble_eq_true rfl); (case qht1 => exact Nat.le_of_ble_eq_true rfl); (case qhkd => walk_at "my room"); (case qhku => walk_at "my room"); k_whole); intro x' a' b' t' ta' tb' h' tk' hx0' hx1' ha' hb' hb1' F' ol' N'; (try dsimp only at N'); (try k_sweep)))
  k_with "call ref" => ((k_here; (with_reducible show wpAny _ _ (call (Value.ref 272) _) _ _ _); k_dflt (refine' numbers_u ?qhk1 ?qhk2 ?qhk3 ?qhk4 ?qhk5 ?qhU ?qhkK ?qha0 ?qhb0 ?qhb1 ?qhkd ?qhku ?_; (case qhk1 => k_asm); (case qhk2 => k_asm); (case qhk3 => k_asm); (case qhk4 => k_asm); (case qhU => k_updF); (case qhk5 => k_asm); (case qhkK => first | exact rfl | assumption); (case qha0 => assumption); (case qhb0 => assumption); (case qhb1 => assumption); (case qhkd => walk_at "my room"); (case qhku => walk_at "my room"); k_whole); intro D' x0' x1' x2' x3' x4' x5' a' b' t0' t1' t2' t3' t4' t5' ta' tb' h' tk' six' ha' hb' hb1' F' oe' ol' N' o1'; (try ((refine eachN_of o1' ?_); (walk_at "my eachN"); (try (with_reducible show EachN _ _ _); (refine eachN_tail (fun _ hq' => off1_all o1' _ (by repeat (first | with_reducible exact hq' | with_reducible apply List.mem_cons_of_mem))) ?_; k_dflt (intro _))); clear o1')); (try dsimp only at N'); (try k_sweep)))
  k_with "call ref" => ((k_here; (with_reducible show wpAny _ _ (call (Value.ref 279) _) _ _ _); k_dflt (first | (refine' made_six ?qhk1 ?qhk2 ?qhk3 ?qhk4 ?qhk5 ?qhkK ?qhkd ?qhku ?qhm1 ?_; (case qhk1 => k_asm); (case qhk2 => k_asm); (case qhk3 => k_asm); (case qhk4 => k_asm); (case qhk5 => k_asm); (case qhkK => first | exact rfl | assumption); (case qhkd => walk_at "my room"); (case qhku => walk_at "my room"); (case qhm1 => k_mem); k_whole) | (refine' made_u ?qhk1 ?qhk2 ?qhk3 ?qhk4 ?qhk5 ?qhkK ?qhkd ?qhku ?qhm1 ?qhhvs ?qhhns ?_; (case qhk1 => k_asm); (case qhk2 => k_asm); (case qhk3 => k_asm); (case qhk4 => k_asm); (case qhk5 => k_asm); (case qhkK => first | exact rfl | assumption); (case qhkd => walk_at "my room"); (case qhku => walk_at "my room"); (case qhm1 => k_mem); (case qhhvs => first | assumption | l_ints); (case qhhns => walk_at "my six"); k_whole)); intro x' d' k0' k1' k2' k3' k4' k5' k6' k7' k8' k9' u0' u1' u2' u3' u4' u5' h' tk' F' od' N' l1 l2; (try k_lt l1); (try k_lt2 l2); (try k_sweep)))
  k_with "call ref" => ((k_here; (with_reducible show wpAny _ _ (call (Value.ref 150) _) _ _ _); k_dflt ((refine' flags_u ?qhk1 ?qhk2 ?qhk3 ?qhk4 ?qhk5 ?qhkK ?qhkd ?qhku ?qhm1 ?qhm2 ?qhf0 ?qhf1 ?_; (case qhk1 => k_asm); (case qhk2 => k_asm); (case qhk3 => k_asm); (case qhk4 => k_asm); (case qhk5 => k_asm); (case qhkK => first | exact rfl | assumption); (case qhkd => walk_at "my room"); (case qhku => walk_at "my room"); (case qhm1 => k_mem); (case qhm2 => k_mem); (case qhf0 => walk_at "my f0"); (case qhf1 => walk_at "my f1"); k_whole)); intro h' t' tk' F' N'; (try k_sweep)))
  k_with "call ref" => ((k_here; (with_reducible show wpAny _ _ (call (Value.ref 218) _) _ _ _); k_dflt ((refine' part_u ?qhk1 ?qhk2 ?qhk3 ?qhk4 ?qhk5 ?qhkK ?qhkd ?qhku ?qhm1 ?qhm2 ?_; (case qhk1 => k_asm); (case qhk2 => k_asm); (case qhk3 => k_asm); (case qhk4 => k_asm); (case qhk5 => k_asm); (case qhkK => first | exact rfl | assumption); (case qhkd => walk_at "my room"); (case qhku => walk_at "my room"); (case qhm1 => k_mem); (case qhm2 => k_mem); k_whole)); intro x' d' k0' k1' k2' k3' k4' k5' k6' k7' k8' k9' h' tk' F' od' N' l1 l2; (try k_lt l1); (try k_lt2 l2); (try k_sweep)))
  k_with "my f0" => (exact (far_of (by assumption) (by assumption)).2.1)
  k_with "my f1" => (exact (far_of (by assumption) (by assumption)).2.2)
  k_with "my same" => (first | exact SameAll.nil | (refine SameAll.cons ?_ ?_; (first | exact SameV.int _ _ _ | exact SameV.bool _ | exact SameV.bytes _ _ rfl | exact SameV.bytes _ _ (bytes_same (by assumption) (by assumption) (by assumption) (by assumption))); walk_at "my same"))
  k_with "compareOp NotEq ref ref" => ((k_here; (with_reducible show wpAny _ _ (compareOp CmpOp.NotEq (Value.ref _) (Value.ref _)) _ _ _); k_dflt (refine' tup_ne_same ?qhN ?qhm1 ?qhm2 ?qhhs ?qhhu ?_; (case qhN => k_asm); (case qhm1 => k_mem); (case qhm2 => k_mem); (case qhhs => walk_at "my same"); (case qhhu => walk_at "my units"); k_whole)))
  k_with "callWith" => (((with_reducible show wpAny _ _ (callWith _ (Prod.fst _) (Prod.snd _) _ _) _ _ _); dsimp only))
  k_with "callWith ref" => (((with_reducible show wpAny _ _ (callWith _ (Prod.fst _) (Prod.snd _) _ _) _ _ _); dsimp only))
  k_with "subscriptTail Name Slice ref ref" => ((k_here; (with_reducible show wpAny _ _ (subscriptTail _ (PySem.Expr.Slice _ _ none _) (Value.ref _) (Value.ref _)) _ _ _); k_dflt (refine' kmk_slice_ints ?qhF ?qhN ?qhl ?qhp ?qhq ?qhi ?qhm ?qhc ?_ ?qhs ?qht ?qhz; (case qhF => k_asm); (case qhN => k_asm); (case qhl => kmk_list); (case qhp => kmk_part); (case qhq => kmk_part); (case qhi => l_ints); (case qhm => first | ((refine' kmk_from ?qhgi ?qhgx); (case qhgi => l_ints); (case qhgx => omega)) | ((refine' kmk_upto ?qhgi ?qhgx); (case qhgi => l_ints); (case qhgx => omega))); (case qhc => exact rfl); (case qhs => with_unfolding_all rfl); (case qht => kmk_pure); (case qhz => kmk_size)); intro D' ws' h' F' N' l1 hI' hC' hL'; clear hC' hL'; (try k_lt l1); (try k_sweep)))
  k_with "binaryOp Add ref ref" => ((k_here; (with_reducible show wpAny _ _ (binaryOp Operator.Add (Value.ref _) (Value.ref _)) _ _ _); k_dflt (refine' list_add ?qhF ?qhN ?qhl ?qhb ?qhi ?qhj ?qhz ?_; (case qhF => k_asm); (case qhN => k_asm); (case qhl => k_mem); (case qhb => k_mem); (case qhi => l_ints); (case qhj => l_ints); (case qhz => (simp only [List.length_append, List.length_take, List.length_drop, List.length_cons, List.length_nil]; omega)); k_whole); intro D' h' vs' F' N' l1 hI'; (try k_lt l1); (try k_sweep)))
  k_with "my six" => ((simp only [List.length_append, List.length_take, List.length_drop, List.length_cons, List.length_nil]; omega))
  k_with "my bad" => (first | exact fun h => not_far1 h.2 | exact fun h => not_far2 h.2 | exact fun h => not_far3 h.2 | exact fun h => bent_bad (by assumption) (by assumption) rfl (.inl (by decide)) h | exact fun h => bent_bad (by assumption) (by assumption) rfl (.inr rfl) h)
  k_with "call ref" => ((k_here; (with_reducible show wpAny _ _ (call (Value.ref 239) [_, Value.int 6 _]) _ _ _); k_dflt (refine' take_u ?qhk1 ?qhk2 ?qhk3 ?qhk4 ?qhk5 ?qhU ?qhkK ?qha0 ?qhb0 ?qhb1 ?qht0 ?qht1 ?qhkd ?qhku ?_; (case qhk1 => k_asm); (case qhk2 => k_asm); (case qhk3 => k_asm); (case qhk4 => k_asm); (case qhU => k_updF); (case qhk5 => k_asm); (case qhkK => first | exact rfl | assumption); (case qha0 => first | assumption | omega); (case qhb0 => first | assumption | omega); (case qhb1 => first | assumption | omega); (case qht0 => omega); (case qht1 => omega); (case qhkd => ktr_room); (case qhku => walk_at "my units"); k_whole); intro v' a' b' t' ta' tb' h' tk' hv0 hv1 ha' hb' hb1' F' ol' N'; (try dsimp only at N'); (have hbb' := bits_bd hv0 hv1); (try k_sweep)))
  k_with "callWith ref" => ((k_here; (with_reducible show wpAny _ _ (callWith _ (Value.ref (OfNat.ofNat _)) _ (backTo _ (starEach [] _)) []) _ _ _); k_dflt (refine' callWith_K0 ?qhk1 ?qhk2 ?_; (case qhk1 => exact Frag.In.keeps (by with_reducible assumption) (Fr.keep (by with_reducible assumption))); (case qhk2 => k_is); k_whole); dsimp only [List.nil_append, List.cons_append, List.append_nil]))
  k_with "call ref" => ((k_here; (with_reducible show wpAny _ _ (call (Value.ref 136) _) _ _ _); k_dflt (first | (refine' check_u ?qhk1 ?qhk2 ?qhk3 ?qhXB ?qhTB ?qhk4 ?qhk5 ?qhm1 ?qhm2 ?qhkK ?qhkd ?qhku ?_ ?qhbad; (case qhk1 => k_asm); (case qhk2 => k_asm); (case qhk3 => k_asm); (case qhXB => with_reducible assumption); (case qhTB => with_reducible assumption); (case qhk4 => k_asm); (case qhk5 => k_asm); (case qhm1 => k_mem); (case qhm2 => k_mem); (case qhkK => first | exact rfl | assumption); (case qhkd => walk_at "my room"); (case qhku => walk_at "my room"); (case qhbad => intro hb'; refine absurd ?_ hb'; walk_at "my good"); intro hg' h' tk' F' N'; (try k_sweep)) | (refine' check_u ?qhk1 ?qhk2 ?qhk3 ?qhXB ?qhTB ?qhk4 ?qhk5 ?qhm1 ?qhm2 ?qhkK ?qhkd ?qhku ?qhgood ?_; (case qhk1 => k_asm); (case qhk2 => k_asm); (case qhk3 => k_asm); (case qhXB => with_reducible assumption); (case qhTB => with_reducible assumption); (case qhk4 => k_asm); (case qhk5 => k_asm); (case qhm1 => k_mem); (case qhm2 => k_mem); (case qhkK => first | exact rfl | assumption); (case qhkd => walk_at "my room"); (case qhku => walk_at "my room"); (case qhgood => intro hg'; refine absurd hg' ?_; walk_at "my bad"); intro hb' g' h' e' tk' FG' R' U'))))
  k_with "my good" => (exact ⟨by assumption, far_of (by assumption) (by assumption)⟩)
  k_with "exec For Name List cons nil" => ((k_here; (with_reducible show wpAny _ _ (exec (Stmt.For _ _ _ [] _) _) _ _ _); refine stop_ ?_))
  trivial
theorem hd_bad5 {v : Int} {c : UInt8} {zs : List Int} {m : Nat} (hc : ((c.toNat : Nat) : Int) = 64 + (5 + v)) (h0 : 0 ≤ v) (h1 : v < 11) : ¬ HeadOk ((List.map (fun c : UInt8 => ((c.toNat : Nat) : Int)) [c] ++ zs).take (clipAt m (4 * (5 + v) - 1))) := hd_bad4 hc h0 h1 (clip_to (by omega))
theorem first_ret {Q : Value → Shared → Prop} {h₀ : Heap} {L src n : Nat} {m : Str → Option Value} {rest : List (Addr × Obj)} {s : Shared}
    (hret : ∀ (a1 b1 : Int) (ta tb : Tok) (h' : Heap) (tk' : Nat) (t2 : Array Value), 0 ≤ a1 → 0 ≤ b1 → b1 < 2147483647 → Fr h₀ L h' m →
      News h₀ L h' ((src, listOf #[.int a1 ta, .int b1 tb] n) :: (295, tabObj t2) :: rest) → Q (.bool true) { s with heap := h', toks := tk' })
    {a1 b1 : Int} {ta tb : Tok} {h' : Heap} {tk' : Nat} {t2 : Array Value} {all : List (Addr × Obj)} {b : Bool} (hb1 : b = true) (F : Fr h₀ L h' m) (N : News h₀ L h' all)
    (m3 : (src, listOf #[.int a1 ta, .int b1 tb] n) ∈ all) (m4 : (295, tabObj t2) ∈ all) (mf : ∀ q ∈ rest, q ∈ all) (ha : 0 ≤ a1) (hb : 0 ≤ b1) (hb' : b1 < 2147483647) : Q (.bool b) { s with heap := h', toks := tk' } := by
  subst hb1
  exact hret a1 b1 ta tb h' tk' t2 ha hb hb' F (List.forall_mem_cons.mpr ⟨N _ m3, List.forall_mem_cons.mpr ⟨N _ m4, fun q hq => N q (mf q hq)⟩⟩)
theorem wordsFix2 : True := by
  k_with "call ref" => ((k_here; (with_reducible show wpAny _ _ (call (Value.ref 143) _) _ _ _); k_dflt (first | (refine' csize_u ?qhk1 ?qhk2 ?qhk3 ?qhXB ?qhTB ?qhk4 ?qhk5 ?qhm1 ?qhm2 ?qhkK ?qhkd ?qhku ?qhhz ?qhhy ?qhz1 ?qhy1 ?_ ?qhbad; (case qhk1 => k_asm); (case qhk2 => k_asm); (case qhk3 => k_asm); (case qhXB => with_reducible assumption); (case qhTB => with_reducible assumption); (case qhk4 => k_asm); (case qhk5 => k_asm); (case qhm1 => k_mem); (case qhm2 => k_mem); (case qhkK => first | exact rfl | assumption); (case qhkd => walk_at "my room"); (case qhku => walk_at "my room"); (case qhhz => assumption); (case qhhy => first | assumption | exact rfl); (case qhz1 => omega); (case qhy1 => first | omega | (simp [KBw.bInts])); (case qhbad => intro hb'; refine absurd ?_ hb'; walk_at "my cgood"); intro hg' h' tk' F' N'; (try k_sweep)) | (refine' csize_u ?qhk1 ?qhk2 ?qhk3 ?qhXB ?qhTB ?qhk4 ?qhk5 ?qhm1 ?qhm2 ?qhkK ?qhkd ?qhku ?qhhz ?qhhy ?qhz1 ?qhy1 ?qhgood ?_; (case qhk1 => k_asm); (case qhk2 => k_asm); (case qhk3 => k_asm); (case qhXB => with_reducible assumption); (case qhTB => with_reducible assumption); (case qhk4 => k_asm); (case qhk5 => k_asm); (case qhm1 => k_mem); (case qhm2 => k_mem); (case qhkK => first | exact rfl | assumption); (case qhkd => walk_at "my room"); (case qhku => walk_at "my room"); (case qhhz => assumption); (case qhhy => first | assumption | exact rfl); (case qhz1 => omega); (case qhy1 => first | omega | (simp [KBw.bInts])); (case qhgood => intro hg'; refine absurd hg' ?_; walk_at "my cbad"); intro hb' g' h' e' tk' FG' R' U'))))
  k_with "my cgood" => ((refine ⟨?_, ?_, ?_⟩ <;> omega))
  k_with "my cbad" => ((intro hc'; omega))
  k_with "call ref" => ((k_here; (with_reducible show wpAny _ _ (call (Value.ref 157) _) _ _ _); k_dflt (first | (refine' hsize_u ?qhk1 ?qhk2 ?qhk3 ?qhXB ?qhTB ?qhk4 ?qhk5 ?qhkK ?qhkd ?qhku ?qhhz ?qhz1 ?_ ?qhbad; (case qhk1 => k_asm); (case qhk2 => k_asm); (case qhk3 => k_asm); (case qhXB => with_reducible assumption); (case qhTB => with_reducible assumption); (case qhk4 => k_asm); (case qhk5 => k_asm); (case qhkK => first | exact rfl | assumption); (case qhkd => walk_at "my room"); (case qhku => walk_at "my room"); (case qhhz => first | with_reducible assumption | kba_ints | assumption); (case qhz1 => walk_at "my hlen"); (case qhbad => intro hb'; refine absurd ?_ hb'; walk_at "my hgood"); intro hg' h' t' tk' F' N'; (try k_sweep)) | (refine' hsize_u ?qhk1 ?qhk2 ?qhk3 ?qhXB ?qhTB ?qhk4 ?qhk5 ?qhkK ?qhkd ?qhku ?qhhz ?qhz1 ?qhgood ?_; (case qhk1 => k_asm); (case qhk2 => k_asm); (case qhk3 => k_asm); (case qhXB => with_reducible assumption); (case qhTB => with_reducible assumption); (case qhk4 => k_asm); (case qhk5 => k_asm); (case qhkK => first | exact rfl | assumption); (case qhkd => walk_at "my room"); (case qhku => walk_at "my room"); (case qhhz => first | with_reducible assumption | kba_ints | assumption); (case qhz1 => walk_at "my hlen"); (case qhgood => intro hg'; refine absurd hg' ?_; walk_at "my hbad"); intro hb' g' h' e' tk' FG' R' U'))))
  k_with "my hlen" => (first | with_reducible assumption | ((simp only [List.length_append, List.length_map, List.length_cons, List.length_nil, List.length_take, List.length_drop]); omega))
  k_with "my hgood" => (with_reducible ((refine' hd_ok ?qhq1 ?qhq2 ?qhq3 ?qhq4 ?qhq5); (case qhq1 => assumption); (case qhq2 => assumption); (case qhq3 => assumption); (case qhq4 => assumption); (case qhq5 => assumption)))
  k_with "my hbad" => (with_reducible (first | assumption | ((refine' hd_bad2 ?qhq1 ?qhq2 ?qhq3); (case qhq1 => assumption); (case qhq2 => assumption); (case qhq3 => assumption)) | ((refine' hd_bad3 ?qhq1 ?qhq2 ?qhq3); (case qhq1 => assumption); (case qhq2 => assumption); (case qhq3 => assumption)) | exact hd_bad1 clip19 | ((refine' hd_bad5 ?qhq1 ?qhq2 ?qhq3); (case qhq1 => assumption); (case qhq2 => assumption); (case qhq3 => assumption))))
  k_with "eval ListComp" => ((k_here; (with_reducible show wpAny _ _ (eval (Expr.ListComp _ _ _ _) _) _ _ _); refine stop_ ?_))
  trivial
theorem CellSrc.of {prog : Program} {w : World} {A : Around} {env : Env} {ct : Expr} {scope : Scope} {x : Str} {L : Addr} {m : Str → Option Value} {Q : Value → Shared → Prop} {ax : Addr} {vs : List Value} {n : Nat} {g : Heap} {news : List (Addr × Obj)} {s₁ : Shared} (F : Fr g L s₁.heap m) (N : News g L s₁.heap news)
    (hm : (ax, ({ cls := .type "list", data := .seq (List.toArray vs) n } : Obj)) ∈ news)
    (rest : ∀ I C D c, (∀ q ∈ news, q.1 < I) → @LT.lt Nat _ I D → @LT.lt Nat _ D C → @LT.lt Nat _ C c → CellRest prog w A env ct scope x L m Q s₁ I C D c (ax, { cls := .type "list", data := .seq (List.toArray vs) n }) vs g news) : CellSrc prog w A env ct scope x L m Q (.ref ax) s₁ :=
  ⟨ax, vs, n, g, news, rfl, F, N, hm, rest⟩
def FirstEnd (L : Addr) (m : Str → Option Value) (s₁ : Shared) (I C D c : Addr) (oI oC oc : Obj) (rest : List (Addr × Obj)) (src wl : Addr) (S WL : Obj) (ps1 : Array Value) (qual : Str) (k j : Nat) (G : Heap → Prop) (s' : Shared) : Prop :=
  ∃ h tk g c' oc' vs t, s' = { s₁ with heap := h, toks := tk } ∧ G g ∧ Fr g L h m ∧ News g L h ((I, oI) :: (C, oC) :: (D, LCg.lst []) :: (c, oc) :: (wl, WL) :: (src, S) :: (295, tabObj (ps1 ++ #[rawInt k, rawInt j, .ref c'])) :: (c', oc') :: rest) ∧ oc'.data = .fields vs ∧ vs[1]? = some (.str qual t) ∧ Und c c'
theorem FirstEnd.of {L : Addr} {m : Str → Option Value} {s₁ : Shared} {I C D c : Addr} {oI oC oc : Obj} {rest rs : List (Addr × Obj)} {src wl : Addr} {S WL : Obj} {ps1 ps' : Array Value} {qual : Str} {k j : Nat} {G : Heap → Prop} {h g : Heap} {tk : Nat} {all : List (Addr × Obj)} {c' : Addr} {oc' : Obj} {vs : Array Value} {t : Tok}
    (F : Fr g L h m) (N : News g L h all) (hG : G g) (mI : (I, oI) ∈ all) (mC : (C, oC) ∈ all) (mD : (D, LCg.lst []) ∈ all) (mc : (c, oc) ∈ all) (mW : (wl, WL) ∈ all) (mS : (src, S) ∈ all) (mT : (295, tabObj ps') ∈ all) (hps : ps' = ps1 ++ #[rawInt k, rawInt j, .ref c']) (mk : (c', oc') ∈ all)
    (hrs : ∀ q ∈ rest, q ∈ rs) (mr : ∀ q ∈ rs, q ∈ all) (d1 : oc'.data = .fields vs) (d2 : vs[1]? = some (.str qual t)) (u : Und c c') : FirstEnd L m s₁ I C D c oI oC oc rest src wl S WL ps1 qual k j G { s₁ with heap := h, toks := tk } := by
  subst hps
  exact ⟨h, tk, g, c', oc', vs, t, rfl, hG, F, List.forall_mem_cons.mpr ⟨N _ mI, List.forall_mem_cons.mpr ⟨N _ mC, List.forall_mem_cons.mpr ⟨N _ mD, List.forall_mem_cons.mpr ⟨N _ mc, List.forall_mem_cons.mpr ⟨N _ mW, List.forall_mem_cons.mpr ⟨N _ mS, List.forall_mem_cons.mpr ⟨N _ mT, List.forall_mem_cons.mpr ⟨N _ mk, fun q hq => N q (mr q (hrs q hq))⟩⟩⟩⟩⟩⟩⟩⟩, d1, d2, u⟩
theorem swapEnd {g h : Heap} {L : Addr} {p0 p1 p2 p3 p4 p5 p6 z : Addr × Obj} {rest : List (Addr × Obj)} (N : News g L h (p0 :: p1 :: p2 :: p3 :: p4 :: p5 :: p6 :: z :: rest)) : News g L h (p0 :: p1 :: p2 :: p3 :: p4 :: p5 :: p6 :: (rest ++ [z])) := by
  have c := @List.forall_mem_cons (Addr × Obj)
  have N1 := c.mp N
  have N2 := c.mp N1.2
  have N3 := c.mp N2.2
  have N4 := c.mp N3.2
  have N5 := c.mp N4.2
  have N6 := c.mp N5.2
  have N7 := c.mp N6.2
  have N8 := c.mp N7.2
  exact c.mpr ⟨N1.1, c.mpr ⟨N2.1, c.mpr ⟨N3.1, c.mpr ⟨N4.1, c.mpr ⟨N5.1, c.mpr ⟨N6.1, c.mpr ⟨N7.1, fun q hq => (List.mem_append.mp hq).elim (N8.2 q) fun h => List.mem_singleton.mp h ▸ N8.1⟩⟩⟩⟩⟩⟩⟩
theorem first_src {prog : Program} {w : World} {A : Around} {env : Env} {ct : Expr} {scope : Scope} {x : Str} {L : Addr} {m : Str → Option Value} {Q : Value → Shared → Prop} {wl src : Addr} {vs : List Value} {n : Nat} {g0 : Heap} {all rest : List (Addr × Obj)} {S : Obj} {ps1 : Array Value} {s₁ : Shared}
    (qual : Str) (k j : Nat) (G : Heap → Prop) (P : Value → Prop) (F : Fr g0 L s₁.heap m) (N : News g0 L s₁.heap all)
    (hm : (wl, ({ cls := .type "list", data := .seq (List.toArray vs) n } : Obj)) ∈ all) (mS : (src, S) ∈ all) (mT : (295, tabObj ps1) ∈ all) (mf : ∀ q ∈ rest, q ∈ all) (h0 : vs ≠ []) (hP : ∀ v ∈ vs, P v) (hG : G g0) (r1 : ∀ q ∈ rest, q.1 ≠ 295)
    (turn : ∀ I C D c v g i ps mid rs (oI oC oc : Obj) h tk (E' : Value → Shared → Prop), Und wl I → Und src I → Und 295 I → Und I D → Und D C → Und C c → P v → G g → LamSt qual k j ps1 c i ps mid → (∀ q ∈ mid, q ∈ rs) → (∀ q ∈ rest, q ∈ rs) → (∀ q ∈ rs, q.1 ≠ 295) → (∀ q ∈ mid, q.1 ≠ c) →
      oc.data = .cell (some v) → Fr g L h m → News g L h ((I, oI) :: (C, oC) :: (D, LCg.lst []) :: (c, oc) :: (wl, ({ cls := .type "list", data := .seq (List.toArray vs) n } : Obj)) :: (src, S) :: (295, tabObj ps) :: rs) →
      wpAny (model prog w) A (isTrue ct (compEnvC scope [(x, c)] C env) (eval ct (compEnvC scope [(x, c)] C env))) (fun ok s' => ok = false ∧ FirstEnd L m s₁ I C D c oI oC oc rest src wl S ({ cls := .type "list", data := .seq (List.toArray vs) n } : Obj) ps1 qual k j G s') E' { s₁ with heap := h, toks := tk })
    (done : ∀ D g ps h tk, G g → Fr g L h m → News g L h ((D, LCg.lst []) :: (src, S) :: (295, tabObj ps) :: rest) → Q (.ref D) { s₁ with heap := h, toks := tk }) :
    CellSrc prog w A env ct scope x L m Q (.ref wl) s₁ := by
  refine ⟨wl, vs, n, g0, (wl, _) :: (src, S) :: (295, tabObj ps1) :: rest, rfl, F, List.forall_mem_cons.mpr ⟨N _ hm, List.forall_mem_cons.mpr ⟨N _ mS, List.forall_mem_cons.mpr ⟨N _ mT, fun q hq => N q (mf q hq)⟩⟩⟩, List.mem_cons_self, fun I C D c l1 l2 l3 l4 => ?_⟩
  have lw : @LT.lt Nat _ wl I := l1 (wl, _) List.mem_cons_self
  have ls : @LT.lt Nat _ src I := l1 (src, S) (by simp)
  have lt : @LT.lt Nat _ 295 I := l1 (295, tabObj ps1) (by simp)
  have lr : ∀ q ∈ rest, @LT.lt Nat _ q.1 I := fun q hq => l1 q (by simp [hq])
  have a2 := Nat.lt_trans l2 l3
  have a3 := Nat.lt_trans a2 l4
  refine cell_inv P (fun i g nw => G g ∧ ∃ ps mid, LamSt qual k j ps1 c i ps mid ∧ nw = (wl, _) :: (src, S) :: (295, tabObj ps) :: (rest ++ mid)) ?_ ?_ vs 0 g0 _ (.inr h0) hP ⟨hG, ps1, [], LamSt.start, by rw [List.append_nil]⟩
  · intro v i g nw oI oC oc h tk E' hv hh9 d F N
    refine foldP ?_
    intro P9
    obtain ⟨hg, ps, mid, S0, e91⟩ := hh9
    k_unfold
    clear P9
    subst e91
    refine wpAny_mono (turn I C D c v g i ps mid (rest ++ mid) oI oC oc h tk E' lw ls lt l2 l3 l4 hv hg S0 (fun q hq => List.mem_append_right _ hq) (fun q hq => List.mem_append_left _ hq) (fun q hq => ?_) (S0.ne (Nat.le_refl _)) d F N) (fun ok s' z => ⟨z.1, ?_⟩) fun _ _ e => e
    · rcases List.mem_append.mp hq with hq | hq
      · exact r1 q hq
      · exact Nat.ne_of_gt (Nat.lt_trans (Nat.lt_trans lt a3) (S0.lo q hq))
    · obtain ⟨-, h7, tk7, g7, c', oc', vs', t', e7, G7, F7, N7, d1, d2, u⟩ := z
      refine ⟨h7, tk7, g7, _, e7, F7, swapEnd N7, List.mem_cons_self, fun q hq => ?_, G7, _, _, .inr ⟨Nat.succ_pos _, c', oc', vs', t', rfl, rfl, d1, d2, u⟩, rfl⟩
      · have b1 : ∀ y, @LT.lt Nat _ y I → y ≠ I ∧ y ≠ C ∧ y ≠ D ∧ y ≠ c := fun y hy => ⟨Nat.ne_of_lt hy, Nat.ne_of_lt (Nat.lt_trans hy a2), Nat.ne_of_lt (Nat.lt_trans hy l2), Nat.ne_of_lt (Nat.lt_trans hy a3)⟩
        simp only [List.mem_cons, List.mem_append, List.not_mem_nil, or_false] at hq
        rcases hq with rfl | rfl | rfl | hq | rfl
        · exact b1 _ lw
        · exact b1 _ ls
        · exact b1 _ lt
        · exact b1 _ (lr q hq)
        · have u' : @LT.lt Nat _ c c' := u
          exact ⟨Nat.ne_of_gt (Nat.lt_trans a3 u'), Nat.ne_of_gt (Nat.lt_trans l4 u'), Nat.ne_of_gt (Nat.lt_trans (Nat.lt_trans l3 l4) u'), Nat.ne_of_gt u'⟩
  · intro i g nw h tk hi hh9 F N
    refine foldP ?_
    intro P9
    obtain ⟨hg, ps, mid, S0, e91⟩ := hh9
    k_unfold
    clear P9
    subst e91
    refine done D g ps h tk hg F fun q hq => N q ?_
    simp only [List.mem_cons, List.mem_append] at hq ⊢
    rcases hq with h | h | h | h <;> simp [h]
theorem wordsFix3 : True := by
  k_with "eval Lambda" => ((k_here; (with_reducible show wpAny _ _ (eval (Expr.Lambda _ _ _ _) (compEnvC _ _ _ _)) _ _ _); k_dflt (refine lam_comp rfl ?_; refine' kla_any ?qhS ?qhF ?qhN ?qhhmid ?qhT ?qhC ?qhcd ?qhU ?qht ?qhn ?qhtt ?qhnn ?qhcl ?qhhz ?qhhI ?qhhoff ?_; (case qhS => assumption); (case qhF => k_asm); (case qhN => k_asm); (case qhhmid => intro _ hq'; repeat (first | with_reducible exact hq' | exact hmr _ hq' | with_reducible apply List.mem_cons_of_mem)); (case qhT => k_asm); (case qhcd => exact rfl); (case qhC => kn_code); (case qhU => k_updF); (case qht => kn_triples); (case qhn => kn_among); (case qhtt => exact fun _ => by kn_triples); (case qhnn => exact fun _ => by kn_hit); (case qhcl => exact rfl); (case qhhoff => assumption); (case qhhI => exact ⟨_, by walk_at "my mem"⟩); (case qhhz => walk_at "my mem"); k_whole); intro f' c' oc' vs' t' ct' h' tk' F' N' d1' d2' l2 l3 l4 l1; (try dsimp only at N'); (try k_lt l1)))
  trivial
theorem first_c : ∀ (w : World) (p : Program) (loose : List Str) (mean : ExcName → Option Value) (mg mb : Str → Option Value) (dp un : Nat) (gd : Option (List Code)) (cn : Str) (cs : Scope) (a : Addr) (ccd : Value) (cl : List (Str × Addr)) (A₀ : Around) (base h₀ : Heap) (L : Addr) (m : Str → Option Value) (s : Shared) (Q E : Value → Shared → Prop)
    (src : Addr) (a0 b0 : Int) (ta tb : Tok) (n : Nat) (rest : List (Addr × Obj)),
    Below A₀ base [] h₀ → Fr h₀ L s.heap m → (hd.heap_1 w.params).In h₀ → (hd.heap_1 w.params).In base → Top p loose mean mg mb base → CodeHd base 297 295 →
    News h₀ L s.heap ((src, listOf #[.int a0 ta, .int b0 tb] n) :: (295, tabObj #[]) :: rest) → Top p loose mean mg mb h₀ → cs.kind = .function →
    (∀ p ∈ rest, p.1 ≠ src) → (∀ p ∈ rest, p.1 ≠ 295) → 295 < src → 0 ≤ a0 → 0 ≤ b0 → b0 < 2147483647 → dp + 60 < 800 → un + 390 < 9000 →
    (∀ (a1 b1 : Int) (ta tb : Tok) (h' : Heap) (tk' : Nat) (t2 : Array Value), 0 ≤ a1 → 0 ≤ b1 → b1 < 2147483647 → Fr h₀ L h' m →
      News h₀ L h' ((src, listOf #[.int a1 ta, .int b1 tb] n) :: (295, tabObj t2) :: rest) → Q (.bool true) { s with heap := h', toks := tk' }) →
    wpAny (model PySem.Challenge.rw_on0340_01.row.prog w) (ktrTop dp un gd cn cs L a ccd cl []) (call (.ref 298) [.ref src]) Q E s := by
  k_fill
  intro w p loose mean mg mb dp un gd cn cs a ccd cl A₀ base h₀ L m s Q E src a0 b0 ta tb n rest B F X XB TB C9 N T hk hrest hrest2 hs ha0 hb0 hb1 hdp hun hret
  k_lt2 hs
  refine wpAny_call ?_
  w_strict (k_dflt (refine' enterC0 ?k1 ?k2 ?k3 ?k4 ?k5 ?kA ?kf ?kK ?k6 ?k7 ?k8 ?k9 ?kB ?kD ?_ ?c2 ?c3 ?c4; (case kA => exact rfl); (case kf => exact rfl); (case kK => first | exact rfl | assumption); (case k1 => k_asm); (case k2 => k_asm); (case k3 => k_asm); (case k4 => k_asm); (case k5 => k_asm); (case k6 => k_is); (case k7 => k_is); (case k8 => ktr_room); (case k9 => exact BindsTo.of_eq rfl); (case kB => exact rfl); (case kD => decide +kernel); (case c2 => exact rfl); (case c3 => exact rfl); (case c4 => exact rfl)))
  intro g0 L0 h1 tk1 cells' FG' F1 N1 Y' B1 X1 T1 D1 l1
  k_lt l1
  k_cells Y'
  simp only [List.cons_append, List.nil_append] at N1
  k_lift B1
  dsimp only
  k_steps
  · exact absurd (hd_val (by assumption) (by assumption) (by assumption)) (by assumption)
  show wpAny _ _ _ _ _ _
  refine comp_cell (by k_asm) rfl (by with_unfolding_all rfl) (fun _ => rfl) (fun _ => rfl) (by rfl) (by decide) (fun _ _ => by rfl) rfl ?_
  walk1
  refine' first_src (src := src) (Str.ofString "_law_first_right.<locals>.<lambda>") 243 46 (JG (ktrTop dp un gd cn cs L a ccd cl []) base [envX cn cs L a ccd cl] (hd.heap_1 w.params) p loose mean mg mb g0) (fun v => ∃ z t zs, v = .bytes z t ∧ KBw.bInts z = zs ∧ zs.length ≤ 1000 ∧ ¬ HeadOk zs) ?F ?N ?hm ?mS ?mT ?mf ?h0 ?hP ?hG hrest2 ?turn ?done
  (case F => k_asm); (case N => k_asm); (case hm => k_mem); (case mS => walk_at "my mem"); (case mT => walk_at "my memD"); (case mf => walk_at "my tail")
  case h0 => exact List.cons_ne_nil _ _
  case hG => exact ⟨KtsTurn.refl, B1, X1, T1, D1⟩
  case hP => exact List.forall_mem_cons.mpr ⟨⟨_, _, _, rfl, by with_reducible assumption, by walk_at "my hlen", by walk_at "my hbad"⟩, List.forall_mem_cons.mpr ⟨⟨_, _, _, rfl, by with_reducible assumption, by walk_at "my hlen", by walk_at "my hbad"⟩, List.forall_mem_cons.mpr ⟨⟨_, _, _, rfl, by with_reducible assumption, by walk_at "my hlen", by walk_at "my hbad"⟩, List.forall_mem_cons.mpr ⟨⟨_, _, _, rfl, by with_reducible assumption, by walk_at "my hlen", by walk_at "my hbad"⟩, List.forall_mem_nil _⟩⟩⟩⟩
  case turn =>
    intro I C D c v g i ps mid rs oI oC oc h tk E' u1 u2 u3 u4 u5 u6 hv hG S0 hmr hrr hr1 hmc dc F' N'
    refine foldP ?_
    intro P9
    obtain ⟨z, t, zs, e91, hz, hz1, hbad⟩ := hv
    obtain ⟨T0, B', X', T', D'⟩ := hG
    k_unfold
    clear P9
    subst e91
    have f1 := u3.trans u4
    have f2 := f1.trans u5
    have f3 := f2.trans u6
    k_lift B'
    (try dsimp only)
    (try k_fold)
    k_steps
    show FirstEnd _ _ _ _ _ _ _ _ _ _ _ _ _ _ _ _ _ _ _ _ _
    refine' FirstEnd.of ?F ?N ⟨?j1, ?j2, ?j3, ?j4, ?j5⟩ ?mI ?mC ?mD ?mc ?mW ?mS ?mT ?hps ?mk hrr ?mr ?d1 ?d2 ?u
    (case F => k_asm); (case N => k_asm); (case mI => walk_at "my mem"); (case mC => walk_at "my mem"); (case mD => walk_at "my mem"); (case mc => walk_at "my mem"); (case mW => walk_at "my mem"); (case mS => walk_at "my mem"); (case mT => walk_at "my memD"); (case hps => exact rfl); (case mk => walk_at "my mem"); (case mr => walk_at "my tail"); (case d1 => with_reducible assumption); (case d2 => assumption); (case u => with_reducible assumption)
    (case j1 => with_reducible assumption); (case j2 => with_reducible assumption); (case j3 => with_reducible assumption); (case j4 => with_reducible assumption); (case j5 => with_reducible assumption)
  case done =>
    intro D g ps h tk hG F' N'
    refine foldP ?_
    intro P9
    obtain ⟨T0, B', X', T', D'⟩ := hG
    k_unfold
    clear P9
    (try dsimp only)
    (try k_fold)
    k_steps
    refine' first_ret hret rfl ?zzF ?zzN ?zzm ?zzn ?zzf ?zza ?zzb ?zzc
    (case zzN => assumption); (case zzF => assumption)
    (case zzm => walk_at "my mem"); (case zzn => walk_at "my memD"); (case zzf => walk_at "my tail")
    (case zza => assumption); (case zzb => assumption); (case zzc => assumption)
end

section
open PySem PySem.W PyProof.Rows PySem.Spec PySem.Calls
theorem wordsLax1 : True := by
  k_with_none
  w_top off
  k_with "my k_all" => (with_reducible assumption)
  k_with "exec Raise some none" => ((k_here; (with_reducible show wpAny _ _ (exec (Stmt.Raise (some _) none _) _) _ _ _); k_dflt (refine exec_raise ?qhh0 ?_; (case qhh0 => first | rfl | assumption))))
  k_with "call ref" => ((k_here; (with_reducible show wpAny _ _ (call (Value.ref _) [Value.str _ _]) (fun v s₁ => Rd s₁ v ∧ _) _ _); k_dflt (refine' exc_rd (t := _) ?qhX ?qhhh ?qhhd ?qhhu ?qhhC ?_; (case qhhC => first | exact Or.inl rfl | exact Or.inr rfl); (case qhX => k_in); (case qhhh => first | rfl | assumption); (case qhhd => walk_at "my room"); (case qhhu => walk_at "my room"); k_whole); intro h' e' tk' x'))
  k_with "my room" => (first
  | exact Nat.le_of_ble_eq_true rfl
  | ((try simp only [depth_mark, depth_under_make, depth_under_kw, depth_in1, depth_deeper, units_in1, units_deeper, Around.mark_units, units_caller, ktrTop]); omega))
  k_with "leaving ref" => ((k_here; (with_reducible show wpAny _ _ (leaving _ (Value.ref _)) _ _ _); first
  | (k_dflt (refine' leave_newX ?qhk1 ?qhk0 ?qhk2 ?qhk3 ?qhkf ?qhkk ?_; (case qhk0 => assumption); (case qhk2 => assumption); (case qhk1 => assumption); (case qhk3 => k_asm); (case qhkf => exact rfl); (case qhkk => exact rfl); k_whole); intro h' R' U'; (try dsimp only at R' U' ⊢))
  | (k_dflt (refine' leave_onX ?qhk1 ?qhk2 ?qhk3 ?qhk4 ?qhkf ?_; (case qhk3 => assumption); (case qhk2 => assumption); (case qhk1 => assumption); (case qhk4 => assumption); (case qhkf => exact rfl); k_whole); intro h' R' U'; (try dsimp only at R' U' ⊢))))
  k_with "call ref" => ((k_here; (with_reducible show wpAny _ _ (call (Value.ref 253) _) _ _ _); k_dflt (refine wpAny_call ?_; refine' enterS ?qhk1 ?qhk2 ?qhk3 ?qhk4 ?qhk5 ?qhXB ?qhTB ?qhD ?qhT0 ?qhkA ?qhkf ?qhkK ?qhk6 ?qhk7 ?qhk8 ?qhk9 ?qhkB ?_ ?qhc2 ?qhc3 ?qhc4 ?qhc5; (case qhkA => exact rfl); (case qhkf => exact rfl); (case qhkK => exact rfl); (case qhk1 => k_asm); (case qhk2 => k_asm); (case qhk3 => k_asm); (case qhk4 => k_asm); (case qhk5 => k_asm); (case qhXB => with_reducible assumption); (case qhTB => with_reducible assumption); (case qhD => first | with_reducible assumption | assumption); (case qhT0 => first | assumption | exact KtsTurn.refl); (case qhk6 => k_is); (case qhk7 => k_is); (case qhk8 => ktr_room); (case qhk9 => exact BindsTo.of_eq rfl); (case qhkB => exact locs rfl); (case qhc2 => exact rfl); (case qhc3 => exact rfl); (case qhc4 => exact rfl); (case qhc5 => decide); k_whole; intro g' L' h' FG' F' N' B' X' T' D'; (try dsimp only); (try k_lift B'); (try k_fold))))
  k_with "call ref" => ((k_here; (with_reducible show wpAny _ _ (call (Value.ref 239) _) _ _ _); k_dflt (refine' take_u ?qhk1 ?qhk2 ?qhk3 ?qhk4 ?qhk5 ?qhU ?qhkK ?qha0 ?qhb0 ?qhb1 ?qht0 ?qht1 ?qhkd ?qhku ?_; (case qhk1 => k_asm); (case qhk2 => k_asm); (case qhk3 => k_asm); (case qhk4 => k_asm); (case qhU => k_updF); (case qhk5 => k_asm); (case qhkK => first | exact rfl | assumption); (case qha0 => first | assumption | omega); (case qhb0 => first | assumption | omega); (case qhb1 => first | assumption | omega); (case qht0 => omega); (case qht1 => omega); (case qhkd => ktr_room); (case qhku => walk_at "my units"); k_whole); intro v' a' b' t' ta' tb' h' tk' hv0 hv1 ha' hb' hb1' F' ol' N'; (try dsimp only at N'); (try k_sweep)))
  k_with "my units" => (first | exact Nat.lt_of_succ_le (Nat.le_of_ble_eq_true rfl) | ((try simp only [cLine, units_in1, units_deeper, Around.mark_units, units_caller, ktrTop]); omega) | ktr_units)
  k_with "my enterC0" => ((refine' enterC0 ?qhk1 ?qhk2 ?qhk3 ?qhk4 ?qhk5 ?qhkA ?qhkf ?qhkK ?qhk6 ?qhk7 ?qhk8 ?qhk9 ?qhkB ?qhkD ?_ ?qhc2 ?qhc3 ?qhc4; (case qhkA => exact rfl); (case qhkf => exact rfl); (case qhkK => first | exact rfl | assumption); (case qhk1 => k_asm); (case qhk2 => k_asm); (case qhk3 => k_asm); (case qhk4 => k_asm); (case qhk5 => k_asm); (case qhk6 => k_is); (case qhk7 => k_is); (case qhk8 => ktr_room); (case qhk9 => exact BindsTo.of_eq rfl); (case qhkB => exact rfl); (case qhkD => decide +kernel); (case qhc2 => exact rfl); (case qhc3 => exact rfl); (case qhc4 => exact rfl); k_whole; intro g' L' h' tk' cells' FG' F' N' Y' B' X' T' D' l1; (try k_lt l1); k_cells Y'; (try simp only [List.cons_append, List.nil_append] at N'); (try dsimp only); (try k_lift B'); (try k_fold)))
  k_with "my k_room" => (ktr_room)
  k_with "callWith ref" => ((k_here; k_dflt (refine' callWith_K ?qhk1 ?qhk2 ?_; (case qhk1 => k_asm); (case qhk2 => k_is); k_whole)))
  k_with "my mem" => (first | with_reducible apply List.mem_cons_self | (with_reducible apply List.mem_cons_of_mem; walk_at "my mem"))
  k_with "my memD" => (first | apply List.mem_cons_self | (with_reducible apply List.mem_cons_of_mem; walk_at "my memD"))
  k_with "my all" => (first | with_reducible assumption | with_reducible apply List.forall_mem_nil | (with_reducible apply forall_cons; (k_ne); (walk_at "my all")))
  k_with "call type:bytes" => ((k_here; (with_reducible show wpAny _ _ (call (Value.type "bytes") [Value.bytes _ _]) _ _ _); k_dflt (refine call_bytes_bytes ?_)))
  k_with "call type:bytes" => ((k_here; (with_reducible show wpAny _ _ (call (Value.type "bytes") [Value.int _ _]) _ _ _); k_dflt (refine' call_bytes_int ?qhh0 ?qhh1 ?_; (case qhh0 => omega); (case qhh1 => omega); k_whole); intro _ _ _ _ hz' hzl' hzr'))
  k_with "my fold" => (((fail_if_success (with_reducible show wpAny _ _ _ qk _ _)); first | ((with_reducible show wpAny _ _ _ _ ek _); refine fold_q ?_; k_dflt (intro qk)) | (refine fold_wp ?_; k_dflt (intro qk ek))))
  k_with "my tail" => ((intro _ hq'; repeat (first | with_reducible exact hq' | with_reducible apply List.mem_cons_of_mem)))
  k_with "my off" => (first | with_reducible assumption | with_reducible apply List.forall_mem_nil | (with_reducible apply forall_cons; (k_ne); (walk_at "my off")) | exact allOf (by assumption) (by walk_at "my tail"))
  k_with "my cut" => (first | with_reducible exact Cut.head | (with_reducible apply Cut.tail; walk_at "my cut"))
  k_with "SeqSrc" => ((k_dflt (refine' SeqSrc.of ?qhF ?qhN ?qhhm ?_; (case qhF => k_asm); (case qhN => k_asm); (case qhhm => k_mem); k_whole); intro I' l1; have l9' := l1; (try first | walk_at "my ltall" | k_lt l1)))
  k_with "SeqRest" => ((k_dflt (first | (refine SeqRest.cons ?_; intro it' h' tk' hc' F' N') | (refine SeqRest.nil ?_; intro h' tk' F' N')); (try k_sweep)))
  k_with "SeqPost" => (dsimp only [SeqPost])
  k_with "SeqEnd" => ((k_dflt (refine' SeqEnd.cut ?qhF ?qhN ?qhc ?qhhm ?qhoff ?_; (case qhF => k_asm); (case qhN => k_asm); (case qhc => walk_at "my cut"); (case qhhm => k_mem); (case qhoff => walk_at "my off"); k_whole)))
  k_with "exec For Name Tuple cons nil" => ((k_here; (with_reducible show wpAny _ _ (exec (Stmt.For _ _ _ [] _) _) _ _ _); k_dflt (refine for_tupS (by passes_own) (fun _ => rfl) rfl ?_)))
  k_with "exec For Name List cons nil" => ((k_here; (with_reducible show wpAny _ _ (exec (Stmt.For _ _ _ [] _) _) _ _ _); k_dflt (refine for_listS (by passes_own) (fun _ => rfl) rfl ?_)))
  trivial
section
variable {w : World} {A : Around} {g : Heap} {p : Program} {loose : List Str} {mean : ExcName → Option Value} {mg mb : Str → Option Value} {dp un : Nat} {gd : Option (List Code)} {cn : Str} {cs : Scope} {a : Addr} {ccd : Value} {cl : List (Str × Addr)} {A₀ : Around} {L : Addr} {m : Str → Option Value} {s : Shared} {Q E : Value → Shared → Prop}
    {src : Addr} {a0 b0 : Int} {ta tb : Tok} {n : Nat} {t2 t3 t4 : Array Value} {rest news : List (Addr × Obj)}
theorem rooms_u (hA : A = ktrTop dp un gd cn cs L a ccd cl []) (B : Below A₀ g [] g) (F : Fr g L s.heap m) (X : (hd.heap_1 w.params).In g) (T : Top p loose mean mg mb g) (C : CodeHd g ((259, 255) : Addr × Addr).1 ((259, 255) : Addr × Addr).2) (N : News g L s.heap news)
    (k : SubL [(src, listOf #[.int a0 ta, .int b0 tb] n), (255, tabObj #[]), (281, tabObj t2), (288, tabObj t3), (295, tabObj t4)] news) (hk : cs.kind = .function) (hs : @LT.lt Nat _ 295 src) (ha : 0 ≤ a0) (hb : 0 ≤ b0) (hb1 : b0 < 2147483647) (hd : dp + 20 < 800) (hu : un + 90 < 9000)
    (hret : ∀ (a1 b1 : Int) (ta tb : Tok) (h' : Heap) (tk' : Nat) (t1 : Array Value), 0 ≤ a1 → 0 ≤ b1 → b1 < 2147483647 → Fr g L h' m →
      News g L h' [(src, listOf #[.int a1 ta, .int b1 tb] n), (255, tabObj t1), (281, tabObj t2), (288, tabObj t3), (295, tabObj t4)] → Q (.bool true) { s with heap := h', toks := tk' }) :
    wpAny (model PySem.Challenge.rw_on0340_01.row.prog w) A (call (.ref 260) [.ref src]) Q E s := by
  subst hA
  exact rooms_c w p loose mean mg mb dp un gd cn cs a ccd cl A₀ g g L m s Q E src a0 b0 ta tb n t2 t3 t4 B F X X T C (news_sub N k) T hk hs ha hb hb1 hd hu hret
theorem ne_src {l : List (Addr × Obj)} {c : Addr} (h : (l.all fun q => decide (@LT.lt Nat _ q.1 296)) = true) (hs : @LT.lt Nat _ 295 c) : ∀ q ∈ l, q.1 ≠ c := fun q hq e => by
  have z : @LT.lt Nat _ q.1 296 := of_decide_eq_true (List.all_eq_true.mp h q hq)
  have e' : @Eq Nat q.1 c := e
  rw [e'] at z
  exact absurd hs (Nat.not_lt.mpr (Nat.le_of_lt_succ z))
theorem options_u (hA : A = ktrTop dp un gd cn cs L a ccd cl []) (B : Below A₀ g [] g) (F : Fr g L s.heap m) (X : (hd.heap_1 w.params).In g) (T : Top p loose mean mg mb g)
    (N : News g L s.heap ((src, listOf #[.int a0 ta, .int b0 tb] n) :: rest)) (hk : cs.kind = .function) (hs : @LT.lt Nat _ 295 src) (hr : (rest.all fun q => decide (@LT.lt Nat _ q.1 296)) = true) (ha : 0 ≤ a0) (hb : 0 ≤ b0) (hb1 : b0 < 2147483647) (hd : dp + 30 < 800) (hu : un + 190 < 9000)
    (hret : ∀ (a1 b1 : Int) (ta tb : Tok) (h' : Heap) (tk' : Nat), 0 ≤ a1 → 0 ≤ b1 → b1 < 2147483647 → Fr g L h' m →
      News g L h' ((src, listOf #[.int a1 ta, .int b1 tb] n) :: rest) → Q (.bool true) { s with heap := h', toks := tk' }) :
    wpAny (model PySem.Challenge.rw_on0340_01.row.prog w) A (call (.ref 267) [.ref src]) Q E s := by
  subst hA
  exact options_c w p loose mean mg mb dp un gd cn cs a ccd cl A₀ g g L m s Q E src a0 b0 ta tb n rest B F X X T N T hk (ne_src hr hs) ha hb hb1 hd hu hret
theorem ne_lit {l : List (Addr × Obj)} {k : Nat} (h : (l.all fun q => decide (@Ne Nat q.1 k)) = true) : ∀ q ∈ l, @Ne Nat q.1 k := fun q hq => of_decide_eq_true (List.all_eq_true.mp h q hq)
theorem lt_of296 {c k : Nat} (hs : @LT.lt Nat _ 295 c) (h : k ≤ 295) : @LT.lt Nat _ k c := Nat.lt_of_le_of_lt h hs
theorem heads_u (hA : A = ktrTop dp un gd cn cs L a ccd cl []) (B : Below A₀ g [] g) (F : Fr g L s.heap m) (X : (hd.heap_1 w.params).In g) (T : Top p loose mean mg mb g) (C : CodeHd g ((285, 281) : Addr × Addr).1 ((285, 281) : Addr × Addr).2) {t1 : Array Value}
    (N : News g L s.heap [(src, listOf #[.int a0 ta, .int b0 tb] n), (255, tabObj t1), (281, tabObj #[]), (288, tabObj t3), (295, tabObj t4)]) (hk : cs.kind = .function) (hs : @LT.lt Nat _ 295 src) (ha : 0 ≤ a0) (hb : 0 ≤ b0) (hb1 : b0 < 2147483647) (hd : dp + 60 < 800) (hu : un + 390 < 9000)
    (hret : ∀ (a1 b1 : Int) (ta tb : Tok) (h' : Heap) (tk' : Nat) (t2 : Array Value), 0 ≤ a1 → 0 ≤ b1 → b1 < 2147483647 → Fr g L h' m →
      News g L h' [(src, listOf #[.int a1 ta, .int b1 tb] n), (281, tabObj t2), (255, tabObj t1), (288, tabObj t3), (295, tabObj t4)] → Q (.bool true) { s with heap := h', toks := tk' }) :
    wpAny (model PySem.Challenge.rw_on0340_01.row.prog w) A (call (.ref 286) [.ref src]) Q E s := by
  subst hA
  exact heads_c w p loose mean mg mb dp un gd cn cs a ccd cl A₀ g g L m s Q E src a0 b0 ta tb n [(255, tabObj t1), (288, tabObj t3), (295, tabObj t4)] B F X X T C (news_sub N (by exact ⟨by k_mem, by k_mem, by k_mem, by k_mem, by k_mem, trivial⟩)) T hk (ne_src rfl hs) (ne_lit rfl) (lt_of296 hs (by decide)) ha hb hb1 hd hu hret
theorem sizes_u (hA : A = ktrTop dp un gd cn cs L a ccd cl []) (B : Below A₀ g [] g) (F : Fr g L s.heap m) (X : (hd.heap_1 w.params).In g) (T : Top p loose mean mg mb g) (C : CodeHd g ((292, 288) : Addr × Addr).1 ((292, 288) : Addr × Addr).2) {t1 : Array Value}
    (N : News g L s.heap [(src, listOf #[.int a0 ta, .int b0 tb] n), (281, tabObj t2), (255, tabObj t1), (288, tabObj #[]), (295, tabObj t4)]) (hk : cs.kind = .function) (hs : @LT.lt Nat _ 295 src) (ha : 0 ≤ a0) (hb : 0 ≤ b0) (hb1 : b0 < 2147483647) (hd : dp + 60 < 800) (hu : un + 390 < 9000)
    (hret : ∀ (a1 b1 : Int) (ta tb : Tok) (h' : Heap) (tk' : Nat) (t3 : Array Value), 0 ≤ a1 → 0 ≤ b1 → b1 < 2147483647 → Fr g L h' m →
      News g L h' [(src, listOf #[.int a1 ta, .int b1 tb] n), (288, tabObj t3), (281, tabObj t2), (255, tabObj t1), (295, tabObj t4)] → Q (.bool true) { s with heap := h', toks := tk' }) :
    wpAny (model PySem.Challenge.rw_on0340_01.row.prog w) A (call (.ref 293) [.ref src]) Q E s := by
  subst hA
  exact sizes_c w p loose mean mg mb dp un gd cn cs a ccd cl A₀ g g L m s Q E src a0 b0 ta tb n [(281, tabObj t2), (255, tabObj t1), (295, tabObj t4)] B F X X T C (news_sub N (by exact ⟨by k_mem, by k_mem, by k_mem, by k_mem, by k_mem, trivial⟩)) T hk (ne_src rfl hs) (ne_lit rfl) (lt_of296 hs (by decide)) ha hb hb1 hd hu hret
theorem first_u (hA : A = ktrTop dp un gd cn cs L a ccd cl []) (B : Below A₀ g [] g) (F : Fr g L s.heap m) (X : (hd.heap_1 w.params).In g) (T : Top p loose mean mg mb g) (C : CodeHd g ((297, 295) : Addr × Addr).1 ((297, 295) : Addr × Addr).2) {t1 : Array Value}
    (N : News g L s.heap [(src, listOf #[.int a0 ta, .int b0 tb] n), (288, tabObj t3), (281, tabObj t2), (255, tabObj t1), (295, tabObj #[])]) (hk : cs.kind = .function) (hs : @LT.lt Nat _ 295 src) (ha : 0 ≤ a0) (hb : 0 ≤ b0) (hb1 : b0 < 2147483647) (hd : dp + 60 < 800) (hu : un + 390 < 9000)
    (hret : ∀ (a1 b1 : Int) (ta tb : Tok) (h' : Heap) (tk' : Nat) (t4 : Array Value), 0 ≤ a1 → 0 ≤ b1 → b1 < 2147483647 → Fr g L h' m →
      News g L h' [(src, listOf #[.int a1 ta, .int b1 tb] n), (295, tabObj t4), (288, tabObj t3), (281, tabObj t2), (255, tabObj t1)] → Q (.bool true) { s with heap := h', toks := tk' }) :
    wpAny (model PySem.Challenge.rw_on0340_01.row.prog w) A (call (.ref 298) [.ref src]) Q E s := by
  subst hA
  exact first_c w p loose mean mg mb dp un gd cn cs a ccd cl A₀ g g L m s Q E src a0 b0 ta tb n [(288, tabObj t3), (281, tabObj t2), (255, tabObj t1)] B F X X T C (news_sub N (by exact ⟨by k_mem, by k_mem, by k_mem, by k_mem, by k_mem, trivial⟩)) T hk (ne_src rfl hs) (ne_lit rfl) (lt_of296 hs (by decide)) ha hb hb1 hd hu hret
end
theorem pool_a {x : Int} {P : Prop} [Decidable P] : 0 ≤ (if -1 - x > x then -1 - x else x) * (if P then 1 else 0) := Int.mul_nonneg (by split <;> omega) (by split <;> omega)
theorem wordsLax2 : True := by
  k_with "call ref" => ((k_here; (with_reducible show wpAny _ _ (call (Value.ref 260) _) _ _ _); k_dflt (refine' rooms_u ?qhhA ?qhB ?qhF ?qhX ?qhT ?qhC ?qhN ?qhk ?qhhk ?qhhs ?qhha ?qhhb ?qhhb1 ?qhkd ?qhku ?_; (case qhhA => exact rfl); (case qhN => k_asm); (case qhF => k_asm); (case qhB => k_asm); (case qhX => k_asm); (case qhT => assumption); (case qhC => first | with_reducible assumption | assumption); (case qhk => exact ⟨by k_mem, by k_mem, by k_mem, by k_mem, by k_mem, trivial⟩); (case qhhk => exact rfl); (case qhhs => omega); (case qhha => exact pool_a); (case qhhb => exact (fmod_bd _ (by decide)).1); (case qhhb1 => exact (fmod_bd _ (by decide)).2); (case qhkd => exact Nat.le_of_ble_eq_true rfl); (case qhku => exact Nat.le_of_ble_eq_true rfl); k_whole); intro a' b' ta' tb' h' tk' t1' ha' hb' hb1' F' N'))
  k_with "call ref" => ((k_here; (with_reducible show wpAny _ _ (call (Value.ref 267) _) _ _ _); k_dflt (refine' options_u ?qhhA ?qhB ?qhF ?qhX ?qhT ?qhN ?qhhk ?qhhs ?qhhr ?qhha ?qhhb ?qhhb1 ?qhkd ?qhku ?_; (case qhhA => exact rfl); (case qhN => k_asm); (case qhF => k_asm); (case qhB => k_asm); (case qhX => k_asm); (case qhT => assumption); (case qhhk => exact rfl); (case qhhs => omega); (case qhhr => exact rfl); (case qhha => assumption); (case qhhb => assumption); (case qhhb1 => assumption); (case qhkd => exact Nat.le_of_ble_eq_true rfl); (case qhku => exact Nat.le_of_ble_eq_true rfl); k_whole); intro a' b' ta' tb' h' tk' ha' hb' hb1' F' N'))
  k_with "call ref" => ((k_here; (with_reducible show wpAny _ _ (call (Value.ref 286) _) _ _ _); k_dflt (refine' heads_u ?qhhA ?qhB ?qhF ?qhX ?qhT ?qhC ?qhN ?qhhk ?qhhs ?qhha ?qhhb ?qhhb1 ?qhkd ?qhku ?_; (case qhhA => exact rfl); (case qhN => k_asm); (case qhF => k_asm); (case qhB => k_asm); (case qhX => k_asm); (case qhT => assumption); (case qhC => first | with_reducible assumption | assumption); (case qhhk => exact rfl); (case qhhs => omega); (case qhha => assumption); (case qhhb => assumption); (case qhhb1 => assumption); (case qhkd => exact Nat.le_of_ble_eq_true rfl); (case qhku => exact Nat.le_of_ble_eq_true rfl); k_whole); intro a' b' ta' tb' h' tk' t2' ha' hb' hb1' F' N'))
  k_with "call ref" => ((k_here; (with_reducible show wpAny _ _ (call (Value.ref 293) _) _ _ _); k_dflt (refine' sizes_u ?qhhA ?qhB ?qhF ?qhX ?qhT ?qhC ?qhN ?qhhk ?qhhs ?qhha ?qhhb ?qhhb1 ?qhkd ?qhku ?_; (case qhhA => exact rfl); (case qhN => k_asm); (case qhF => k_asm); (case qhB => k_asm); (case qhX => k_asm); (case qhT => assumption); (case qhC => first | with_reducible assumption | assumption); (case qhhk => exact rfl); (case qhhs => omega); (case qhha => assumption); (case qhhb => assumption); (case qhhb1 => assumption); (case qhkd => exact Nat.le_of_ble_eq_true rfl); (case qhku => exact Nat.le_of_ble_eq_true rfl); k_whole); intro a' b' ta' tb' h' tk' t3' ha' hb' hb1' F' N'))
  k_with "call ref" => ((k_here; (with_reducible show wpAny _ _ (call (Value.ref 298) _) _ _ _); k_dflt (refine' first_u ?qhhA ?qhB ?qhF ?qhX ?qhT ?qhC ?qhN ?qhhk ?qhhs ?qhha ?qhhb ?qhhb1 ?qhkd ?qhku ?_; (case qhhA => exact rfl); (case qhN => k_asm); (case qhF => k_asm); (case qhB => k_asm); (case qhX => k_asm); (case qhT => assumption); (case qhC => first | with_reducible assumption | assumption); (case qhhk => exact rfl); (case qhhs => omega); (case qhha => assumption); (case qhhb => assumption); (case qhhb1 => assumption); (case qhkd => exact Nat.le_of_ble_eq_true rfl); (case qhku => exact Nat.le_of_ble_eq_true rfl); k_whole); intro a' b' ta' tb' h' tk' t4' ha' hb' hb1' F' N'))
  k_with "exec If" => (((fail_if_success (have := nCut1)); refine stop_ ?_))
  trivial
def IfMid (g : Heap) (L : Addr) (x : Str) (m0 : Str → Option Value) (news : List (Addr × Obj)) (s s' : Shared) : Prop :=
  ∃ (c : Int) (t : Tok) (h : Heap) (tk : Nat), s' = { s with heap := h, toks := tk } ∧ Fr g L h (fun y => if y = x then some (.int c t) else m0 y) ∧ News g L h news
theorem IfMid.of {g : Heap} {L : Addr} {x : Str} {m0 : Str → Option Value} {news : List (Addr × Obj)} {s : Shared} {c : Int} {t : Tok} {h : Heap} {tk : Nat} (F : Fr g L h (fun y => if y = x then some (.int c t) else m0 y)) (N : News g L h news) : IfMid g L x m0 news s { s with heap := h, toks := tk } := ⟨c, t, h, tk, rfl, F, N⟩
theorem IfMid.of2 {g : Heap} {L : Addr} {x : Str} {m0 : Str → Option Value} {news : List (Addr × Obj)} {s : Shared} {c : Int} {t : Tok} {u : Option Value} {h : Heap} {tk : Nat} (F : Fr g L h (fun y => if y = x then some (.int c t) else if y = x then u else m0 y)) (N : News g L h news) : IfMid g L x m0 news s { s with heap := h, toks := tk } := ⟨c, t, h, tk, rfl, map_twice ▸ F, N⟩
theorem merge_if {M : Model} {A : Around} {E : Value → Shared → Prop} {env : Env} {st : Stmt} {Q : Flow → Shared → Prop} {g : Heap} {L : Addr} {x : Str} {m0 : Str → Option Value} {v0 : Option Value} {news : List (Addr × Obj)} {s : Shared}
    (F : Fr g L s.heap (fun y => if y = x then v0 else m0 y)) (N : News g L s.heap news)
    (h : wpAny M A (exec st env) (fun f s' => f = .next ∧ IfMid g L x m0 news s s') E s)
    (k : ∀ (c : Int) (t : Tok) h tk, Fr g L h (fun y => if y = x then some (.int c t) else m0 y) → News g L h news → Q .next { s with heap := h, toks := tk }) : wpAny M A (exec st env) Q E s :=
  wpAny_mono h (fun _ _ z => by obtain ⟨rfl, c, t, h, tk, rfl, F, N⟩ := z; exact k c t h tk F N) fun _ _ e => e
theorem law_holds : PySem.Challenge.rw_on0340_01.Holds := by
  w_on
  refine holds_law lawSaid fun said => ?_
  refine holds_open (r := PySem.Challenge.rw_on0340_01.row) (q := vw) (loose := [Str.ofString "IpHeader"]) (Xt := fun s => xlAt vw [] s && recOk (RowW.records PySem.Challenge.rw_on0340_01.row.toRowW) s) (XP := XL vw []) (Yf := Hook.obs (kmHook hd.heap_1 ats hookPf [295, 288, 281, 255])) (Ya := Hook.val (kmHook hd.heap_1 ats hookPf [295, 288, 281, 255])) (YP := Hook.says (kmHook hd.heap_1 ats hookPf [295, 288, 281, 255])) (N := 4254) leftO (Hook.of (kmHook hd.heap_1 ats hookPf [295, 288, 281, 255])) (Hook.keeps (kmHook hd.heap_1 ats hookPf [295, 288, 281, 255])) (fun s e => xl_of s (Bool.and_eq_true_iff.mp e).1) XL.keeps (by rfl) (by rfl) (by rfl) (fun s e => recFacts_of (Bool.and_eq_true_iff.mp e).2) (by rfl) said (by decide +kernel) ⟨rfl, rfl, rfl, rfl, rfl, by decide +kernel⟩ ?hw ?hc
  case hw => w_witness2
  clear said
  w_strict (k_go0; (all_goals try k_fold); k_steps)
  show wpAny _ _ _ _ _ _
  have nCut1 : True := trivial
  refine' merge_if ?zF ?zN ?zh ?zk
  case zF => assumption
  case zN => assumption
  case zh =>
    k_steps
    all_goals first | exact IfMid.of2 (by assumption) (by assumption) | exact IfMid.of (by assumption) (by assumption)
  case zk =>
    intro c t h' tk' F' N'
    (try dsimp only)
    k_steps
end

end Mine

open PySem PySem.W PyProof.Rows
theorem PySem.Challenge.cw_on0340_01_holds : PySem.Challenge.rw_on0340_01.Holds := by
  exact Mine.law_holds
